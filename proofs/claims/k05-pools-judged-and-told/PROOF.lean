import PyProof.Rows.All
import Wide.All
import OpenK.AllK
import Wide.FinOn
import KE.OsRunLaw
import PyProof.EqAt
import PyProof.EqKinds
import PyProof.TupleCall
import HandS.Base
import HandS.Call
import HandS.List
import HandS.Comp
import HandS.Dict
import HandS.Iter
import HandS.Walk
import HandS.Words
import HandS.Ends
import HandS.Lambda
import PyProof.Draws
import KE.GoesMore
import HandS.More
import HandS.Set
import HandS.Strs
import HandS.SetFor
import HandS.IsInst
import HandS.Slots
import HandS.SlotsOwn
import HandS.Star
import HandS.Conv
import HandS.Deep
import HandS.TupAny
import HandS.TupMul
import HandS.WordsDict
import HandS.WordsList
import HandS.Wide
import HandS.FStr
import HandS.Style
import PyProof.Lay0
import PyProof.EqLayable
import HandS.DictTup
import KE.SortData
import HandS.Text
import OpenK.KOps
import OpenK.KMeth
import KE.KCallOwn
import HandS.Zip
import HandS.SortKw
import KE.KDictZip
import PyProof.TupleOfSeq
import HandS.TupSets
import KE.KeyNested
import PyProof.DictRoadsH
import KE.KDictKeyed
import HandS.DictComp
import HandS.IterVal
import KE.KOwnIter
import PyProof.ReprRoads
import HandS.Small
import HandS.OwnEq
import PyProof.Rows.ReprShort
import PyProof.ReprBulk
import KE.KStateDown
import HandS.AnyAll
import HandS.EndTab
import PyProof.CallFns
import KE.KExcSuper
import HandS.ExcInit
import HandS.ExcField
import HandS.TryMany
import HandS.ExcOwn
import HandS.TryOnly
import HandS.Sort
import PyProof.NeKinds
import HandS.ExcValue
import HandS.ExcIs
import KE.KExcIs
import HandS.TupLen
import KE.KDictWalk
import KE.SortKeyed
import HandS.Property
import PyProof.Conv_bool
import OpenK.KMake
import HandS.Defaults
import KE.KDictDisplayH
import KE.KDictPairs
import KE.KDictItemsList
import KE.DataMinMax
import KE.KDictSum
import KE.KDictCopyH
import PyProof.SetKind
import PyProof.SetNew
import PyProof.SetRoads
import PySem.Challenge.RW_rootshared_k05_pools_judged_and_told
set_option Elab.async false
set_option linter.all false
set_option maxRecDepth 100000
set_option maxHeartbeats 4000000
section
open PySem PySem.W PyProof.Rows
theorem Wb.sp3 {s a b c : Type} {o : Option s} {f : s → a} {g : s → b} {h : s → c} {x : a} {y : b} {z : c} (h1 : o.map f = some x) (h2 : o.map g = some y) (h3 : o.map h = some z) : o.map (fun s => (f s, g s, h s)) = some (x, y, z) := by
  cases o with
  | none => cases h1
  | some s => cases h1; cases h2; cases h3; rfl
theorem Wb.spP {s a b : Type} {o : Option s} {F : s → a × b} {x : a} {y : b} (h1 : o.map (fun s => (F s).1) = some x) (h2 : o.map (fun s => (F s).2) = some y) : o.map F = some (x, y) := by
  cases o with
  | none => cases h1
  | some s => exact congrArg some (Prod.ext (Option.some.inj h1) (Option.some.inj h2))
theorem Wb.spL {s a : Type} {o : Option s} {F : s → List a} {x : List a} (n : Nat) (h1 : o.map (fun s => (F s).take n) = some (x.take n)) (h2 : o.map (fun s => (F s).drop n) = some (x.drop n)) : o.map F = some x := by
  cases o with
  | none => cases h1
  | some s =>
    have e1 : (F s).take n = x.take n := Option.some.inj h1
    have e2 : (F s).drop n = x.drop n := Option.some.inj h2
    exact congrArg some (by rw [← List.take_append_drop n (F s), e1, e2, List.take_append_drop])
local macro_rules | `(tactic| kernel_rfl) => `(tactic| ((with_reducible refine Wb.sp3 ?_ ?_ ?_); rotate_left; (refine Wb.spP ?_ ?_); rotate_left; (refine Wb.spP ?_ ?_); rotate_left; (refine Wb.spP ?_ ?_); rotate_left; (refine Wb.spP ?_ ?_); rotate_left; (refine Wb.spP ?_ ?_); rotate_left; (refine Wb.spP ?_ ?_); rotate_left; (refine Wb.spP ?_ ?_); rotate_left; (refine Wb.spP ?_ ?_); rotate_left; rotate_right; rotate_right; (refine Wb.spL 1 ?_ ?_); (sym => tactic => kernel_rfl); (refine Wb.spL 1 ?_ ?_); (sym => tactic => kernel_rfl); (sym => tactic => kernel_rfl); (sym => tactic => kernel_rfl); (refine Wb.spL 2 ?_ ?_); (sym => tactic => kernel_rfl); (sym => tactic => kernel_rfl); (refine Wb.spL 300 ?_ ?_); (sym => tactic => kernel_rfl); (sym => tactic => kernel_rfl); (sym => tactic => kernel_rfl); (sym => tactic => kernel_rfl); (sym => tactic => kernel_rfl); (sym => tactic => kernel_rfl); (sym => tactic => kernel_rfl); (sym => tactic => kernel_rfl); (sym => tactic => kernel_rfl)))
local macro_rules | `(tactic| k_head) => `(tactic| k_headL)
set_option maxHeartbeats 0 in
open_top hd_top for PySem.Challenge.rw_rootshared_k05_pools_judged_and_told
end

/-! Rs0: runs of readings over a part that stays (F) and cells that are one's own (L). -/
namespace Rs
open PySem L2

abbrev Cells := List (Addr × HO)
/-- tables of code objects that may grow -/
class Tabz where
  ts : Addr → Prop
  /-- the name of the code objects that it tells, where one cares for it -/
  nm : Addr → Option Str
/-- the object at c is a code object of the name q -/
abbrev CodeT (c : Addr) (q : Str) : HO := .ext fun h => ∃ (oc : Obj) (vs : Array Value) (t : Tok), h.get? c = some oc ∧ oc.data = .fields vs ∧ vs[1]? = some (.str q t)
theorem codeT_ne {c : Addr} {q : Str} {φ : Heap → Prop} (hφ : ∀ h, φ h → ∃ a o, h.get? a = some o ∧ ∀ vs, o.data ≠ .fields vs) : HO.ext φ ≠ CodeT c q := fun z => by
  have hz : φ = fun h => ∃ (oc : Obj) (vs : Array Value) (t : Tok), h.get? c = some oc ∧ oc.data = .fields vs ∧ vs[1]? = some (.str q t) := HO.ext.inj z
  let ob : Obj := { cls := .none, data := .fields #[.none, .str q 0] }
  have hg : ∀ b o, (Heap.mk (Array.replicate (c + 1) ob) {}).get? b = some o → o = ob := fun b o e => by
    have e2 : (Array.replicate (c + 1) ob)[b]? = some o := by
      unfold Heap.get? at e
      generalize (Array.replicate (c + 1) ob)[b]? = w at e ⊢
      split at e
      · cases e
      · exact e
    rw [Array.getElem?_replicate] at e2
    split at e2
    · exact (Option.some.inj e2).symm
    · cases e2
  have hc : (Heap.mk (Array.replicate (c + 1) ob) {}).get? c = some ob := by
    unfold Heap.get?
    simp only [Array.getElem?_replicate, Nat.lt_succ_self, if_true]
    rfl
  have h1 : φ (Heap.mk (Array.replicate (c + 1) ob) {}) := by
    rw [hz]
    exact ⟨ob, _, 0, hc, rfl, rfl⟩
  obtain ⟨a, o, e1, e2⟩ := hφ _ h1
  rw [hg a o e1] at e2
  exact e2 _ rfl
variable [Tabz]
def TabT (F H : Hp) : Prop := ∀ P, Tabz.ts P → ∃ ps : Array Value, H P = some (.tbl ps) ∧ TriplesOk ps.toList ∧ ∀ q, Tabz.nm P = some q → ∀ (pos : Pos) (cv : Value), codeAmong pos ps.toList = some cv → ∃ c, cv = .ref c ∧ F c = some (CodeT c q)
/-- F stands in H, and the cells L do, apart from F -/
structure At (F : Hp) (L : Cells) (H : Hp) : Prop where
  ex : Same F H
  on : ∀ p ∈ L, H p.1 = some p.2
  off : ∀ p ∈ L, F p.1 = none
  nd : (L.map (·.1)).Nodup
  nt : ∀ p ∈ L, ∀ xs, p.2 ≠ .tup xs
  nb : ∀ p ∈ L, ∀ ps, p.2 ≠ .tbl ps
  nc : ∀ p ∈ L, ∀ c q, p.2 ≠ CodeT c q
  tb : TabT F H
  ft : ∀ P, Tabz.ts P → F P = none

section
variable {F F' F1 H H' : Hp} {L L' N : Cells} {a p : Addr} {o u : HO}
theorem At.nil (h : Same F H) (tb : TabT F H) (ft : ∀ P, Tabz.ts P → F P = none) : At F [] H := ⟨h, fun _ q => (nomatch q), fun _ q => (nomatch q), List.nodup_nil, fun _ q => (nomatch q), fun _ q => (nomatch q), fun _ q => (nomatch q), tb, ft⟩
theorem At.notT (A : At F L H) {P : Addr} (h : Tabz.ts P) (h2 : H a = none ∨ ∃ u, H a = some u ∧ ∀ ps, u ≠ .tbl ps) : P ≠ a := fun z => by
  obtain ⟨ps, e, _⟩ := A.tb P h
  rw [z] at e
  rcases h2 with h2 | ⟨u, h2, h3⟩
  · rw [h2] at e; cases e
  · rw [h2] at e; cases e; exact h3 _ rfl
theorem TabT.upd (t : TabT F H) (h : ∀ P, Tabz.ts P → P ≠ a) : TabT F (upd H a o) := fun P hP => by
  obtain ⟨ps, e, q⟩ := t P hP
  exact ⟨ps, by rw [upd_ne (h P hP)]; exact e, q⟩
theorem TabT.up (t : TabT F H) (h : ∀ c q, F c = some (CodeT c q) → F' c = some (CodeT c q)) : TabT F' H := fun P hP => by
  obtain ⟨ps, e, q, r⟩ := t P hP
  exact ⟨ps, e, q, fun n hn pos cv hc => let ⟨c, e1, e2⟩ := r n hn pos cv hc; ⟨c, e1, h c n e2⟩⟩
theorem TabT.same (t : TabT F H) (h : Same F F') : TabT F' H := t.up fun c q e => h _ _ e
theorem At.free (A : At F L H) (h : H a = none) : F a = none := A.ex.free h
theorem At.sub (A : At F L H) (hs : ∀ p ∈ L', p ∈ L) (nd : (L'.map (·.1)).Nodup) : At F L' H :=
  ⟨A.ex, fun p q => A.on p (hs p q), fun p q => A.off p (hs p q), nd, fun p q => A.nt p (hs p q), fun p q => A.nb p (hs p q), fun p q => A.nc p (hs p q), A.tb, A.ft⟩
theorem At.tail {m : Addr × HO} (A : At F (m :: L) H) : At F L H :=
  A.sub (fun p q => List.mem_cons_of_mem _ q) (List.nodup_cons.mp (by have := A.nd; rwa [List.map_cons] at this)).2
theorem At.drop (A : At F (L ++ N) H) : At F N H :=
  A.sub (fun p q => List.mem_append_right _ q) (by have h := A.nd; rw [List.map_append] at h; exact (List.nodup_append.mp h).2.1)
theorem At.left (A : At F (L ++ N) H) : At F L H :=
  A.sub (fun p q => List.mem_append_left _ q) (by have h := A.nd; rw [List.map_append] at h; exact (List.nodup_append.mp h).1)
theorem At.perm (A : At F L H) (h : L.Perm L') : At F L' H :=
  ⟨A.ex, fun p q => A.on p (h.mem_iff.mpr q), fun p q => A.off p (h.mem_iff.mpr q), (h.map (·.1)).nodup_iff.mp A.nd, fun p q => A.nt p (h.mem_iff.mpr q), fun p q => A.nb p (h.mem_iff.mpr q), fun p q => A.nc p (h.mem_iff.mpr q), A.tb, A.ft⟩
theorem same_new (h : F a = none) : Same F (upd F a o) := fun b u e => by
  rw [upd_ne (ne_of_none e h)]; exact e
/-- a new thing that stays -/
theorem At.new (A : At F L H) (h : H a = none) : At (upd F a o) L (upd H a o) := by
  have ne : ∀ p ∈ L, p.1 ≠ a := fun p q z => by
    have := A.on p q
    rw [z, h] at this; cases this
  refine ⟨fun b u e => ?_, fun p q => by rw [upd_ne (ne p q)]; exact A.on p q, fun p q => by rw [upd_ne (ne p q)]; exact A.off p q, A.nd, A.nt, A.nb, A.nc, (A.tb.upd fun P hP => A.notT hP (.inl h)).same (same_new (A.free h)), fun P hP => by rw [upd_ne (A.notT hP (.inl h))]; exact A.ft P hP⟩
  by_cases hb : b = a
  · subst hb; rw [upd_same] at e ⊢; exact e
  · rw [upd_ne hb] at e ⊢; exact A.ex b u e
/-- a new cell -/
theorem At.cell (A : At F L H) (h : H a = none) (ho : ∀ xs, o ≠ .tup xs := by intro _ z; nomatch z) (hb : ∀ ps, o ≠ .tbl ps := by intro _ z; nomatch z) (hc : ∀ c q, o ≠ CodeT c q := by intro _ _ z; nomatch z) : At F ((a, o) :: L) (upd H a o) := by
  have ne : ∀ p ∈ L, p.1 ≠ a := fun p q z => by
    have := A.on p q
    rw [z, h] at this; cases this
  refine ⟨fun b u e => ?_, fun p q => ?_, fun p q => ?_, ?_, fun p q => (List.mem_cons.mp q).elim (fun z => z ▸ ho) (A.nt p), fun p q => (List.mem_cons.mp q).elim (fun z => z ▸ hb) (A.nb p), fun p q => (List.mem_cons.mp q).elim (fun z => z ▸ hc) (A.nc p), A.tb.upd fun P hP => A.notT hP (.inl h), A.ft⟩
  · rw [upd_ne (ne_of_none (A.ex b u e) h)]; exact A.ex b u e
  · rcases List.mem_cons.mp q with z | z
    · subst z; exact upd_same
    · rw [upd_ne (ne p z)]; exact A.on p z
  · rcases List.mem_cons.mp q with z | z
    · subst z; exact A.free h
    · exact A.off p z
  · rw [List.map_cons, List.nodup_cons]
    refine ⟨fun z => ?_, A.nd⟩
    obtain ⟨q, hq, e⟩ := List.mem_map.mp z
    exact ne q hq e
theorem At.ne (A : At F ((a, o) :: L) H) : ∀ p ∈ L, p.1 ≠ a := fun p q z => by
  have h := A.nd
  rw [List.map_cons, List.nodup_cons] at h
  exact h.1 (List.mem_map.mpr ⟨p, q, z⟩)
/-- a cell is written -/
theorem At.put (A : At F ((a, o) :: L) H) (ho : ∀ xs, u ≠ .tup xs := by intro _ z; nomatch z) (hb : ∀ ps, u ≠ .tbl ps := by intro _ z; nomatch z) (hc : ∀ c q, u ≠ CodeT c q := by intro _ _ z; nomatch z) : At F ((a, u) :: L) (upd H a u) := by
  refine ⟨fun b v e => ?_, fun p q => ?_, fun p q => ?_, A.nd, fun p q => (List.mem_cons.mp q).elim (fun z => z ▸ ho) fun z => A.nt p (List.mem_cons_of_mem _ z), fun p q => (List.mem_cons.mp q).elim (fun z => z ▸ hb) fun z => A.nb p (List.mem_cons_of_mem _ z), fun p q => (List.mem_cons.mp q).elim (fun z => z ▸ hc) fun z => A.nc p (List.mem_cons_of_mem _ z), A.tb.upd fun P hP => A.notT hP (.inr ⟨o, A.on _ List.mem_cons_self, A.nb _ List.mem_cons_self⟩), A.ft⟩
  · have hb : b ≠ a := fun z => by
      have := A.off _ List.mem_cons_self
      rw [z] at e; rw [show F a = none from this] at e; cases e
    rw [upd_ne hb]; exact A.ex b v e
  · rcases List.mem_cons.mp q with z | z
    · subst z; exact upd_same
    · rw [upd_ne (A.ne p z)]; exact A.on p (List.mem_cons_of_mem _ z)
  · rcases List.mem_cons.mp q with z | z
    · subst z; exact A.off (a, o) List.mem_cons_self
    · exact A.off p (List.mem_cons_of_mem _ z)
/-- a cell stays from now on -/
theorem At.keep (A : At F ((a, o) :: L) H) : At (upd F a o) L H := by
  refine ⟨fun b v e => ?_, fun p q => A.on p (List.mem_cons_of_mem _ q), fun p q => by rw [upd_ne (A.ne p q)]; exact A.off p (List.mem_cons_of_mem _ q), A.tail.nd, A.tail.nt, A.tail.nb, A.tail.nc, A.tb.same (same_new (A.off _ List.mem_cons_self)), fun P hP => by rw [upd_ne (A.notT hP (.inr ⟨o, A.on _ List.mem_cons_self, A.nb _ List.mem_cons_self⟩))]; exact A.ft P hP⟩
  by_cases hb : b = a
  · subst hb; rw [upd_same] at e; rw [← e]; exact A.on _ List.mem_cons_self
  · rw [upd_ne hb] at e; exact A.ex b v e
/-- a cell is written, and stays from now on -/
theorem At.swap (A : At F ((a, o) :: L) H) (hb : ∀ ps, u ≠ .tbl ps) : At (upd F a u) L (upd H a u) := by
  have A1 : At (upd F a (.lst [])) L (upd H a (.lst [])) := At.keep (At.put (u := .lst []) A)
  have nT : ∀ P, Tabz.ts P → P ≠ a := fun P hP => A.notT hP (.inr ⟨o, A.on _ List.mem_cons_self, A.nb _ List.mem_cons_self⟩)
  refine ⟨fun b v e => ?_, fun p q => by rw [upd_ne (A.ne p q)]; exact A.on p (List.mem_cons_of_mem _ q), fun p q => by rw [upd_ne (A.ne p q)]; exact A.off p (List.mem_cons_of_mem _ q), A.tail.nd, A.tail.nt, A.tail.nb, A.tail.nc, (A.tb.upd nT).same (same_new (A.off _ List.mem_cons_self)), fun P hP => by rw [upd_ne (nT P hP)]; exact A.ft P hP⟩
  by_cases hb : b = a
  · subst hb; rw [upd_same] at e ⊢; exact e
  · rw [upd_ne hb] at e ⊢; exact A.ex b v e
theorem At.off1 (A : At F ((a, o) :: L) H) : F a = none := A.off _ List.mem_cons_self
theorem At.on1 (A : At F ((a, o) :: L) H) : H a = some o := A.on _ List.mem_cons_self
end

/-! ### runs -/
/-- k runs from any heap with F (or more) and the cells L; it ends with the cells as they were, F grown, R of what it gives -/
def Run {α : Type} (k : Hp → (α → Hp → Prop) → Prop) (F : Hp) (L : Cells) (R : α → Hp → Prop) : Prop :=
  ∀ F1 N H, Same F F1 → At F1 (L ++ N) H → ∀ Q : α → Hp → Prop, (∀ v F2 H2, Same F1 F2 → At F2 (L ++ N) H2 → R v F2 → Q v H2) → k H Q
section
variable {α β : Type} {k : Hp → (α → Hp → Prop) → Prop} {F F1 : Hp} {L : Cells} {R R' : α → Hp → Prop}
theorem Run.up (h : Run k F L R) (e : Same F F1) : Run k F1 L R := fun F2 N H e2 A Q q => h F2 N H (e.trans e2) A Q q
theorem Run.weak (h : Run k F L R) (hr : ∀ v F2, Same F F2 → R v F2 → R' v F2) : Run k F L R' := fun F2 N H e2 A Q q =>
  h F2 N H e2 A Q fun v F3 H3 e3 A3 r => q v F3 H3 e3 A3 (hr v F3 (e2.trans e3) r)
theorem Run.cells {M : Cells} (h : Run k F [] R) : Run k F M R := fun F2 N H e2 A Q q => h F2 (M ++ N) H e2 A Q q
theorem run_ret {v : α} (h : ∀ F1, Same F F1 → R v F1) : Run (fun H Q => Q v H) F L R := fun F1 N H e A Q q => q v F1 H (Same.refl _) A (h F1 e)
theorem run_bind {k2 : α → Hp → (β → Hp → Prop) → Prop} {S : β → Hp → Prop} (h1 : Run k F L R) (h2 : ∀ v F1, Same F F1 → R v F1 → Run (k2 v) F1 L S) : Run (fun H Q => k H fun v H1 => k2 v H1 Q) F L S := fun F1 N H e A Q q =>
  h1 F1 N H e A _ fun v F2 H2 e2 A2 r => h2 v F2 (e.trans e2) r F2 N H2 (Same.refl _) A2 Q fun w F3 H3 e3 A3 s => q w F3 H3 (e2.trans e3) A3 s
theorem run_ex {γ : Type} {kk : γ → Hp → (α → Hp → Prop) → Prop} (w : γ) (h : Run (kk w) F L R) : Run (fun H Q => ∃ w, kk w H Q) F L R := fun F1 N H e A Q q => ⟨w, h F1 N H e A Q q⟩
theorem run_and {p : Hp → Prop} (hp : ∀ F1 N H, Same F F1 → At F1 (L ++ N) H → p H) (h : Run k F L R) : Run (fun H Q => p H ∧ k H Q) F L R := fun F1 N H e A Q q => ⟨hp F1 N H e A, h F1 N H e A Q q⟩
/-- a thing is laid, and stays -/
theorem run_new {o : Addr → HO} {S : V → Hp → Prop} (h : ∀ F1 p, Same F F1 → F1 p = none → S (.ref p) (upd F1 p (o p))) : Run (fun H Q => ∀ p, H p = none → Q (.ref p) (upd H p (o p))) F L S := fun F1 N H e A Q q p hp =>
  q _ (upd F1 p (o p)) _ (same_new (A.free hp)) (A.new hp) (h F1 p e (A.free hp))
end

abbrev VP := V → Hp → Prop
/-- what a value says goes on to be so -/
class Mono {α : Type} (R : α → Hp → Prop) : Prop where
  mono : ∀ v F F', Same F F' → R v F → R v F'
theorem Mono.go {α : Type} {R : α → Hp → Prop} [Mono R] {v : α} {F F' : Hp} (h : R v F) (e : Same F F') : R v F' := Mono.mono v F F' e h

/-! ### data -/
section
variable {K : PySem.W.Frag} {F F' : Hp}
theorem sqT_up {a : Addr} {xs : List V} (e : Same F F') (h : SqT K F a xs) : SqT K F' a xs := by
  rcases h with (h | ⟨o, h⟩) | h
  · exact .inl (.inl (e _ _ h))
  · exact .inl (.inr ⟨o, e _ _ h⟩)
  · exact .inr h
theorem sqL_up {a : Addr} {xs : List V} (e : Same F F') (h : SqL K F a xs) : SqL K F' a xs := e.seq h
mutual
theorem dp_up (e : Same F F') : ∀ {v : V} {d : PyData}, Dp K F v d → Dp K F' v d
  | _, _, .non => .non
  | _, _, .bl b => .bl b
  | _, _, .int i => .int i
  | _, _, .str x => .str x
  | _, _, .lst h t => .lst (sqL_up e h) (dpA_up e t)
  | _, _, .tup h t => .tup (sqT_up e h) (dpA_up e t)
theorem dpA_up (e : Same F F') : ∀ {vs : List V} {ds : List PyData}, DpAll K F vs ds → DpAll K F' vs ds
  | _, _, .nil => .nil
  | _, _, .cons h t => .cons (dp_up e h) (dpA_up e t)
end
end
/-- the value is the data d -/
def Dt (K : PySem.W.Frag) (d : PyData) : VP := fun v F => Dp K F v d
instance {K : PySem.W.Frag} {d : PyData} : Mono (Dt K d) := ⟨fun _ _ _ e h => dp_up e h⟩
/-- it is just this one -/
def Eqv {α : Type} (x : α) : α → Hp → Prop := fun v _ => v = x
instance {α : Type} {x : α} : Mono (Eqv x) := ⟨fun _ _ _ _ h => h⟩
/-- each of the values says its own -/
def Each : List VP → List V → Hp → Prop
  | [], [], _ => True
  | R :: Rs, v :: vs, F => R v F ∧ Each Rs vs F
  | _, _, _ => False
class MonoL (Rs : List VP) : Prop where
  mono : ∀ vs F F', Same F F' → Each Rs vs F → Each Rs vs F'
instance : MonoL [] := ⟨fun vs F F' e h => by cases vs <;> exact h⟩
instance {R : VP} {Rs : List VP} [Mono R] [MonoL Rs] : MonoL (R :: Rs) := ⟨fun vs F F' e h => by
  cases vs with
  | nil => exact h
  | cons v vs => exact ⟨Mono.mono v F F' e h.1, MonoL.mono vs F F' e h.2⟩⟩
instance {Rs : List VP} [MonoL Rs] : Mono (Each Rs) := ⟨fun vs F F' e h => MonoL.mono vs F F' e h⟩
theorem each_length : ∀ {Rs : List VP} {vs : List V} {F : Hp}, Each Rs vs F → vs.length = Rs.length
  | [], [], _, _ => rfl
  | _ :: Rs, _ :: vs, F, h => by rw [List.length_cons, List.length_cons, each_length (Rs := Rs) (vs := vs) h.2]
  | [], _ :: _, _, h => h.elim
  | _ :: _, [], _, h => h.elim
theorem each_dt {K : PySem.W.Frag} {F : Hp} : ∀ {ds : List PyData} {vs : List V}, Each (ds.map (Dt K)) vs F ↔ DpAll K F vs ds
  | [], [] => ⟨fun _ => .nil, fun _ => trivial⟩
  | d :: ds, v :: vs => ⟨fun h => .cons h.1 (each_dt.mp h.2), fun h => by cases h with | cons a b => exact ⟨a, each_dt.mpr b⟩⟩
  | [], _ :: _ => ⟨fun h => h.elim, fun h => nomatch h⟩
  | _ :: _, [] => ⟨fun h => h.elim, fun h => nomatch h⟩
theorem each_app : ∀ {Rs Ss : List VP} {vs ws : List V} {F : Hp}, Each Rs vs F → Each Ss ws F → Each (Rs ++ Ss) (vs ++ ws) F
  | [], _, [], _, _, _, h => h
  | _ :: Rs, Ss, _ :: vs, ws, _, h, g => ⟨h.1, each_app (Rs := Rs) (vs := vs) h.2 g⟩
  | [], _, _ :: _, _, _, h, _ => h.elim
  | _ :: _, _, [], _, _, h, _ => h.elim
theorem each0 {vs : List V} {F : Hp} (h : Each [] vs F) : vs = [] := by
  cases vs with
  | nil => rfl
  | cons _ _ => exact h.elim
theorem each_cons {R : VP} {Rs : List VP} {vs : List V} {F : Hp} (h : Each (R :: Rs) vs F) : ∃ v ws, vs = v :: ws ∧ R v F ∧ Each Rs ws F := by
  cases vs with
  | nil => exact h.elim
  | cons v ws => exact ⟨v, ws, rfl, h.1, h.2⟩
theorem each1 {R : VP} {vs : List V} {F : Hp} (h : Each [R] vs F) : ∃ v, vs = [v] ∧ R v F := by
  obtain ⟨v, ws, rfl, h1, h2⟩ := each_cons h
  cases each0 h2
  exact ⟨v, rfl, h1⟩
theorem each2 {R S : VP} {vs : List V} {F : Hp} (h : Each [R, S] vs F) : ∃ v u, vs = [v, u] ∧ R v F ∧ S u F := by
  obtain ⟨v, ws, rfl, h1, h2⟩ := each_cons h
  obtain ⟨u, rfl, h3⟩ := each1 h2
  exact ⟨v, u, rfl, h1, h3⟩
theorem each3 {R S T : VP} {vs : List V} {F : Hp} (h : Each [R, S, T] vs F) : ∃ v u w, vs = [v, u, w] ∧ R v F ∧ S u F ∧ T w F := by
  obtain ⟨v, ws, rfl, h1, h2⟩ := each_cons h
  obtain ⟨u, w, rfl, h3, h4⟩ := each2 h2
  exact ⟨v, u, w, rfl, h1, h3, h4⟩
/-- a tuple, a list of such -/
def Tp (K : PySem.W.Frag) (Rs : List VP) : VP := fun v F => ∃ a vs, v = .ref a ∧ SqT K F a vs ∧ Each Rs vs F
def Ls (K : PySem.W.Frag) (Rs : List VP) : VP := fun v F => ∃ a vs, v = .ref a ∧ SqL K F a vs ∧ Each Rs vs F
/-- a list that stands there just so -/
def Ln (Rs : List VP) : VP := fun v F => ∃ a vs, v = .ref a ∧ F a = some (.lst vs) ∧ Each Rs vs F
instance {Rs : List VP} [MonoL Rs] : Mono (Ln Rs) := ⟨fun _ _ _ e ⟨a, vs, h, s, r⟩ => ⟨a, vs, h, e _ _ s, MonoL.mono _ _ _ e r⟩⟩
theorem Ln.ls {K : PySem.W.Frag} {Rs : List VP} {v : V} {F : Hp} (h : Ln Rs v F) : Ls K Rs v F :=
  let ⟨a, vs, h, s, r⟩ := h
  ⟨a, vs, h, .inl (.inl s), r⟩
instance {K : PySem.W.Frag} {Rs : List VP} [MonoL Rs] : Mono (Tp K Rs) := ⟨fun _ _ _ e ⟨a, vs, h, s, r⟩ => ⟨a, vs, h, sqT_up e s, MonoL.mono _ _ _ e r⟩⟩
instance {K : PySem.W.Frag} {Rs : List VP} [MonoL Rs] : Mono (Ls K Rs) := ⟨fun _ _ _ e ⟨a, vs, h, s, r⟩ => ⟨a, vs, h, sqL_up e s, MonoL.mono _ _ _ e r⟩⟩
theorem monoL_map {ι : Type} {f : ι → VP} (h : ∀ x, Mono (f x)) : ∀ xs : List ι, MonoL (xs.map f)
  | [] => inferInstanceAs (MonoL [])
  | x :: xs => by
    have := h x
    have := monoL_map h xs
    exact inferInstanceAs (MonoL (f x :: xs.map f))
instance {ι : Type} {f : ι → VP} [h : ∀ x, Mono (f x)] {xs : List ι} : MonoL (xs.map f) := monoL_map h xs
theorem tp_dt {K : PySem.W.Frag} {ds : List PyData} {v : V} {F : Hp} : Tp K (ds.map (Dt K)) v F ↔ Dt K (.tuple ds) v F :=
  ⟨fun ⟨a, vs, h, s, r⟩ => by subst h; exact .tup s (each_dt.mp r), fun h => by cases h with | tup s r => exact ⟨_, _, rfl, s, each_dt.mpr r⟩⟩
theorem ls_dt {K : PySem.W.Frag} {ds : List PyData} {v : V} {F : Hp} : Ls K (ds.map (Dt K)) v F ↔ Dt K (.list ds) v F :=
  ⟨fun ⟨a, vs, h, s, r⟩ => by subst h; exact .lst s (each_dt.mp r), fun h => by cases h with | lst s r => exact ⟨_, _, rfl, s, each_dt.mpr r⟩⟩
theorem dt_int {K : PySem.W.Frag} {i : Int} {v : V} {F : Hp} (h : Dt K (.int i) v F) : v = .int i := by cases h; rfl
theorem dt_bl {K : PySem.W.Frag} {b : Bool} {v : V} {F : Hp} (h : Dt K (.bool b) v F) : v = .bl b := by cases h; rfl
theorem vs_ints {K : PySem.W.Frag} {F : Hp} : ∀ {ns : List Int} {vs : List V}, DpAll K F vs (ns.map PyData.int) → vs = ns.map V.int
  | [], _, .nil => rfl
  | n :: ns, _, .cons h t => by
    cases h
    rw [List.map_cons, vs_ints (ns := ns) t]
theorem ints_vs {K : PySem.W.Frag} {F : Hp} : ∀ {ns : List Int}, DpAll K F (ns.map V.int) (ns.map PyData.int)
  | [] => .nil
  | n :: ns => .cons (.int n) ints_vs
end Rs

/-! Rs1: expressions, statements, loops, comprehensions as runs. -/
namespace Rs
open PySem L2
variable [Rs.Tabz]
theorem len_ok {n : Nat} (h : n ≤ 100000) : n ≤ sizeLine := Nat.le_trans h (by decide)
theorem len_lt {n : Nat} (h : n < 100000) : n < sizeLine := Nat.lt_of_lt_of_le h (by decide)
section
variable {K : PySem.W.Frag} {σ : L2.St} {F F1 : Hp} {L : Cells} {R Ra Rb Rc : VP} {Rs Ss : List VP} {ta tb tc te : TE} {t tr : TA} {tt tu : TT} {i : Nat} {v : V} {r r' : R2}
theorem r_var [Mono R] (h : σ[i]? = some (some v)) (hr : R v F) : Run (tVar i σ) F L R := run_ex v (run_and (fun _ _ _ _ _ => h) (run_ret fun _ e => Mono.go hr e))
theorem r_varE (h : σ[i]? = some (some v)) : Run (tVar i σ) F L (Eqv v) := r_var h rfl
theorem r_c [Mono R] (hr : R v F) : Run (tC v σ) F L R := run_ret fun _ e => Mono.go hr e
theorem r_int {j : Int} : Run (tC (.int j) σ) F L (Dt K (.int j)) := r_c (R := Dt K (.int j)) (.int j)
theorem r_bl {b : Bool} : Run (tC (.bl b) σ) F L (Dt K (.bool b)) := r_c (R := Dt K (.bool b)) (.bl b)
theorem r_str {x : Str} : Run (tC (.str x) σ) F L (Dt K (.str x)) := r_c (R := Dt K (.str x)) (.str x)
theorem r_op [Mono Ra] (ha : Run (ta σ) F L Ra) (hb : Run (tb σ) F L Rb) (h : ∀ x y F1, Same F F1 → Ra x F1 → Rb y F1 → Run (r x y) F1 L R) : Run (tOp r ta tb σ) F L R :=
  run_bind (k := ta σ) ha fun x F1 e1 hx => run_bind (k := tb σ) (hb.up e1) fun y F2 e2 hy => h x y F2 (e1.trans e2) (Mono.go hx e2) hy
theorem r_un {q : V → Hp → VK → Prop} (ha : Run (ta σ) F L Ra) (h : ∀ x F1, Same F F1 → Ra x F1 → Run (q x) F1 L R) : Run (tUn q ta σ) F L R := run_bind (k := ta σ) ha h
theorem r_cb {q : List V → Hp → VK → Prop} {A : List V → Hp → Prop} (ha : Run (t σ) F L A) (h : ∀ xs F1, Same F F1 → A xs F1 → Run (q xs) F1 L R) : Run (tCB q t σ) F L R := run_bind (k := t σ) ha h
theorem r_nil : Run (tNil σ) F L (Each []) := run_ret fun _ _ => True.intro
theorem r_cons [Mono R] (h : Run (te σ) F L R) (hr : Run (tr σ) F L (Each Rs)) : Run (tCons te tr σ) F L (Each (R :: Rs)) := fun F1 N H e A Q q =>
  h F1 N H e A _ fun x F2 H2 e2 A2 hx => hr F2 N H2 (e.trans e2) A2 _ fun xs F3 H3 e3 A3 hxs => q (x :: xs) F3 H3 (e2.trans e3) A3 ⟨Mono.go hx e3, hxs⟩
theorem r_tup (h : Run (t σ) F L (Each Rs)) [MonoL Rs] (hl : Rs.length ≤ 100000) : Run (tTup t σ) F L (Tp K Rs) :=
  run_bind (k := t σ) h fun xs F1 e1 hx => run_and (fun _ _ _ _ _ => len_ok (by rw [each_length hx]; exact hl)) (run_new fun F2 p e2 hp => ⟨p, xs, rfl, .inl (.inl upd_same), MonoL.mono _ _ _ (e2.trans (same_new hp)) hx⟩)
theorem r_lst (h : Run (t σ) F L (Each Rs)) [MonoL Rs] (hl : Rs.length ≤ 100000) : Run (tLst t σ) F L (Ln Rs) :=
  run_bind (k := t σ) h fun xs F1 e1 hx => run_and (fun _ _ _ _ _ => len_ok (by rw [each_length hx]; exact hl)) (run_new fun F2 p e2 hp => ⟨p, xs, rfl, upd_same, MonoL.mono _ _ _ (e2.trans (same_new hp)) hx⟩)
theorem r_ls (h : Run (te σ) F L (Ln Rs)) : Run (te σ) F L (Ls K Rs) := h.weak fun _ _ _ => Ln.ls
/-! numbers, comparisons -/
theorem r_I0i {f : Int → Int → Int} {a b : Int} (ha : Run (ta σ) F L (Dt K (.int a))) (hb : Run (tb σ) F L (Dt K (.int b))) : Run (tOp (rI0 fun i j => .int (f i j)) ta tb σ) F L (Dt K (.int (f a b))) :=
  r_op ha hb fun x y F1 e1 hx hy => by
    cases hx; cases hy
    exact run_ex a (run_ex b (run_and (fun _ _ _ _ _ => rfl) (run_and (fun _ _ _ _ _ => rfl) (run_ret fun _ _ => .int _))))
theorem r_I0b {f : Int → Int → Bool} {a b : Int} (ha : Run (ta σ) F L (Dt K (.int a))) (hb : Run (tb σ) F L (Dt K (.int b))) : Run (tOp (rI0 fun i j => .bl (f i j)) ta tb σ) F L (Dt K (.bool (f a b))) :=
  r_op ha hb fun x y F1 e1 hx hy => by
    cases hx; cases hy
    exact run_ex a (run_ex b (run_and (fun _ _ _ _ _ => rfl) (run_and (fun _ _ _ _ _ => rfl) (run_ret fun _ _ => .bl _))))
theorem r_Ii {C : Int → Int → Prop} {f : Int → Int → Int} {a b : Int} (ha : Run (ta σ) F L (Dt K (.int a))) (hb : Run (tb σ) F L (Dt K (.int b))) (hc : C a b) : Run (tOp (rI C fun i j => .int (f i j)) ta tb σ) F L (Dt K (.int (f a b))) :=
  r_op ha hb fun x y F1 e1 hx hy => by
    cases hx; cases hy
    exact run_ex a (run_ex b (run_and (fun _ _ _ _ _ => rfl) (run_and (fun _ _ _ _ _ => rfl) (run_and (fun _ _ _ _ _ => hc) (run_ret fun _ _ => .int _)))))
theorem r_U {f : Int → Int} {a : Int} (ha : Run (ta σ) F L (Dt K (.int a))) : Run (tUn (rU fun i => .int (f i)) ta σ) F L (Dt K (.int (f a))) :=
  r_un ha fun x F1 e1 hx => by
    cases hx
    exact run_ex a (run_and (fun _ _ _ _ _ => rfl) (run_ret fun _ _ => .int _))
/-- lo < x <= hi and its like -/
theorem r_chain {f g : Int → Int → Bool} {a b c : Int} (ha : Run (ta σ) F L (Dt K (.int a))) (hb : Run (tb σ) F L (Dt K (.int b))) (hc : Run (tc σ) F L (Dt K (.int c))) :
    Run (tChain (rI0 fun i j => .bl (f i j)) (rI0 fun i j => .bl (g i j)) ta tb tc σ) F L (Dt K (.bool (f a b && g b c))) :=
  run_bind (k := ta σ) ha fun x F1 e1 hx => run_bind (k := tb σ) (hb.up e1) fun y F2 e2 hy => by
    cases hx; cases hy
    refine run_bind (k := fun H Q => rI0 (fun i j => .bl (f i j)) (.int a) (.int b) H Q) (R := Eqv (.bl (f a b))) (run_ex a (run_ex b (run_and (fun _ _ _ _ _ => rfl) (run_and (fun _ _ _ _ _ => rfl) (run_ret fun _ _ => rfl))))) fun z F3 e3 hz => ?_
    cases hz
    refine run_ex (f a b) (run_and (fun _ _ _ _ _ => rfl) ?_)
    cases hf : f a b with
    | true =>
      refine fun F4 N H e4 A Q q => iteT ?_
      refine run_bind (hc.up ((e1.trans e2).trans e3)) (k2 := fun w' H4 Q => rI0 (fun i j => .bl (g i j)) (.int b) w' H4 Q) (S := Dt K (.bool (true && g b c))) (fun w F5 e5 hw => ?_) F4 N H e4 A Q q
      cases hw
      exact run_ex b (run_ex c (run_and (fun _ _ _ _ _ => rfl) (run_and (fun _ _ _ _ _ => rfl) (run_ret fun _ _ => by rw [Bool.true_and]; exact .bl _))))
    | false =>
      refine fun F4 N H e4 A Q q => iteF ?_
      exact q _ F4 H (Same.refl _) A (.bl _)
/-! tests -/
variable {a b : Bool}
theorem t_test (h : Run (te σ) F L (Dt K (.bool b))) : Run (tTest te σ) F L (Eqv b) := run_bind (k := te σ) h fun x F1 e1 hx => by
  cases hx
  exact run_ex b (run_and (fun _ _ _ _ _ => rfl) (run_ret fun _ _ => rfl))
theorem t_B (h : Run (te σ) F L (Dt K (.bool b))) : Run (tB te σ) F L (Eqv b) := run_bind (k := te σ) h fun x F1 e1 hx => by
  cases hx
  exact run_ex b (run_and (fun _ _ _ _ _ => rfl) (run_ret fun _ _ => rfl))
theorem t_yes : Run (tYes σ) F L (Eqv true) := run_ret fun _ _ => rfl
theorem t_not (h : Run (tt σ) F L (Eqv b)) : Run (tNot tt σ) F L (Eqv (!b)) := run_bind (k := tt σ) h fun x F1 e1 hx => by
  cases hx
  exact run_ret fun _ _ => rfl
theorem t_and (h : Run (tt σ) F L (Eqv a)) (h2 : a = true → Run (tu σ) F L (Eqv b)) : Run (tAnd tt tu σ) F L (Eqv (a && b)) := run_bind (k := tt σ) h fun x F1 e1 hx => by
  cases hx
  cases a with
  | true => exact fun F4 N H e4 A Q q => iteT (((h2 rfl).up e1) F4 N H e4 A Q q)
  | false => exact fun F4 N H e4 A Q q => iteF (q false F4 H (Same.refl _) A rfl)
theorem t_or (h : Run (tt σ) F L (Eqv a)) (h2 : a = false → Run (tu σ) F L (Eqv b)) : Run (tOr tt tu σ) F L (Eqv (a || b)) := run_bind (k := tt σ) h fun x F1 e1 hx => by
  cases hx
  cases a with
  | true => exact fun F4 N H e4 A Q q => iteT (q true F4 H (Same.refl _) A rfl)
  | false => exact fun F4 N H e4 A Q q => iteF (((h2 rfl).up e1) F4 N H e4 A Q q)
theorem t_is (h : Run (tt σ) F L (Eqv a)) (e : a = b) : Run (tt σ) F L (Eqv b) := e ▸ h
theorem r_and (h : Run (ta σ) F L (Dt K (.bool a))) (h2 : a = true → Run (tb σ) F L (Dt K (.bool b))) : Run (tAndV ta tb σ) F L (Dt K (.bool (a && b))) := run_bind (k := ta σ) h fun x F1 e1 hx => by
  cases hx
  refine run_ex a (run_and (fun _ _ _ _ _ => rfl) ?_)
  cases a with
  | true => exact fun F4 N H e4 A Q q => iteT (((h2 rfl).up e1) F4 N H e4 A Q q)
  | false => exact fun F4 N H e4 A Q q => iteF (q _ F4 H (Same.refl _) A (.bl false))
theorem r_not (h : Run (ta σ) F L (Dt K (.bool a))) : Run (tNotV ta σ) F L (Dt K (.bool (!a))) := run_bind (k := ta σ) h fun x F1 e1 hx => by
  cases hx
  exact run_ex a (run_and (fun _ _ _ _ _ => rfl) (run_ret fun _ _ => .bl _))
theorem r_if (h : Run (tt σ) F L (Eqv b)) (h1 : b = true → Run (ta σ) F L R) (h2 : b = false → Run (tb σ) F L R) : Run (tIf tt ta tb σ) F L R := run_bind (k := tt σ) h fun x F1 e1 hx => by
  cases hx
  cases b with
  | true => exact fun F4 N H e4 A Q q => iteT (((h1 rfl).up e1) F4 N H e4 A Q q)
  | false => exact fun F4 N H e4 A Q q => iteF (((h2 rfl).up e1) F4 N H e4 A Q q)
theorem r_is {d e : PyData} (h : Run (te σ) F L (Dt K d)) (q : d = e) : Run (te σ) F L (Dt K e) := q ▸ h
end

/-! ### promises -/
/-- a def that leaves all as it is: from arguments that say Rs it hands back what says R -/
def SpF {γ : Type} (pre : γ → Prop) (Rs : γ → List VP) (R : γ → VP) : Sp := fun vs H Q _ => ∃ g F N, pre g ∧ At F N H ∧ Each (Rs g) vs F ∧ ∀ v F' H', Same F F' → At F' N H' → R g v F' → Q v H'
section
variable {σ : L2.St} {F : Hp} {L : Cells} {γ : Type} {pre : γ → Prop} {Rs : γ → List VP} {R : γ → VP} {t : TA} {E : XK}
theorem sp_run {g : γ} (hp : pre g) {vs : List V} (h : Each (Rs g) vs F) [MonoL (Rs g)] : Run (fun H Q => SpF pre Rs R vs H Q E) F L (R g) := fun F1 N H e A Q q =>
  ⟨g, F1, L ++ N, hp, A, MonoL.mono _ _ _ e h, fun v F2 H2 e2 A2 r => q v F2 H2 e2 A2 r⟩
theorem r_call (g : γ) (hp : pre g) [MonoL (Rs g)] (h : Run (t σ) F L (Each (Rs g))) : Run (tCall (SpF pre Rs R) [] E t σ) F L (R g) := run_bind (k := t σ) h fun vs F1 e1 hv => by
  have := sp_run (R := R) (E := E) (L := L) hp hv
  rw [← List.append_nil vs] at this
  exact this
end

/-! ### statements -/
def RunS (t : TS) (σ : L2.St) (F : Hp) (L : Cells) (Nx : L2.St → Hp → Cells → Prop) (Rt : VP) : Prop :=
  ∀ F1 N H, Same F F1 → At F1 (L ++ N) H → ∀ D : Ends, (∀ σ' F' L' H', Same F1 F' → At F' (L' ++ N) H' → Nx σ' F' L' → D.nx σ' H') → (∀ v F' H', Same F1 F' → At F' N H' → Rt v F' → D.rt v H') → t D σ H
section
variable {K : PySem.W.Frag} {σ : L2.St} {F : Hp} {L : Cells} {Nx Mid : L2.St → Hp → Cells → Prop} {Rt R : VP} {t u : TS} {te ta tb : TE} {tc : TT} {i j : Nat} {b : Bool}
theorem RunS.up {F1 : Hp} (h : RunS t σ F L Nx Rt) (e : Same F F1) : RunS t σ F1 L Nx Rt := fun F2 N H e2 A D q r => h F2 N H (e.trans e2) A D q r
theorem s_seq (h : RunS t σ F L Mid Rt) (h2 : ∀ σ' F' L', Same F F' → Mid σ' F' L' → RunS u σ' F' L' Nx Rt) : RunS (tSeq t u) σ F L Nx Rt := fun F1 N H e A D q r =>
  h F1 N H e A { D with nx := u D } (fun σ' F' L' H' e' A' m => h2 σ' F' L' (e.trans e') m F' N H' (Same.refl _) A' D (fun σ2 F2 L2 H2 e2 A2 n => q σ2 F2 L2 H2 (e'.trans e2) A2 n) fun v F2 H2 e2 A2 n => r v F2 H2 (e'.trans e2) A2 n) r
theorem s_next (h : ∀ F1, Same F F1 → Nx σ F1 L) : RunS tNext σ F L Nx Rt := fun F1 N H e A D q r => q σ F1 L H (Same.refl _) A (h F1 e)
theorem q_set (h : Run (te σ) F L R) (k : ∀ v F1, Same F F1 → R v F1 → RunS u (σ.set i (some v)) F1 L Nx Rt) : RunS (tSeq (tAsg te (gName i)) u) σ F L Nx Rt := fun F1 N H e A D q r =>
  h F1 N H e A _ fun v F2 H2 e2 A2 hv => k v F2 (e.trans e2) hv F2 N H2 (Same.refl _) A2 D (fun σ3 F3 L3 H3 e3 A3 n => q σ3 F3 L3 H3 (e2.trans e3) A3 n) fun w F3 H3 e3 A3 n => r w F3 H3 (e2.trans e3) A3 n
theorem s_ret (h : Run (te σ) F L Rt) : RunS (tRet te) σ F L Nx Rt := fun F1 N H e A D q r => h F1 N H e A _ fun v F2 H2 e2 A2 hv => r v F2 H2 e2 A2.drop hv
theorem s_drop (h : Run (te σ) F L R) (k : ∀ F1, Same F F1 → Nx σ F1 L) : RunS (tDrop te) σ F L Nx Rt := fun F1 N H e A D q r =>
  h F1 N H e A _ fun v F2 H2 e2 A2 hv => q _ F2 L H2 e2 A2 (k F2 (e.trans e2))
theorem q_drop (h : Run (te σ) F L R) (k : ∀ F1, Same F F1 → RunS u σ F1 L Nx Rt) : RunS (tSeq (tDrop te) u) σ F L Nx Rt := s_seq (Mid := fun σ' F' L' => σ' = σ ∧ L' = L) (s_drop h fun _ _ => ⟨rfl, rfl⟩) fun σ' F' L' e ⟨h1, h2⟩ => by
  subst h1 h2
  exact k F' e
theorem s_if (h : Run (tc σ) F L (Eqv b)) (h1 : b = true → RunS t σ F L Nx Rt) (h2 : b = false → RunS u σ F L Nx Rt) : RunS (tIfS tc t u) σ F L Nx Rt := fun F1 N H e A D q r =>
  h F1 N H e A _ fun c F2 H2 e2 A2 hc => by
    cases hc
    cases b with
    | true => exact iteT (h1 rfl F2 N H2 (e.trans e2) A2 D (fun σ3 F3 L3 H3 e3 A3 n => q σ3 F3 L3 H3 (e2.trans e3) A3 n) fun w F3 H3 e3 A3 n => r w F3 H3 (e2.trans e3) A3 n)
    | false => exact iteF (h2 rfl F2 N H2 (e.trans e2) A2 D (fun σ3 F3 L3 H3 e3 A3 n => q σ3 F3 L3 H3 (e2.trans e3) A3 n) fun w F3 H3 e3 A3 n => r w F3 H3 (e2.trans e3) A3 n)
/-- if c: (a return, or on) ; then u -/
theorem q_if {w : TS} (h : Run (tc σ) F L (Eqv b)) (h1 : b = true → RunS (tSeq t w) σ F L Nx Rt) (h2 : b = false → RunS (tSeq u w) σ F L Nx Rt) : RunS (tSeq (tIfS tc t u) w) σ F L Nx Rt := fun F1 N H e A D q r =>
  h F1 N H e A _ fun c F2 H2 e2 A2 hc => by
    cases hc
    cases b with
    | true => exact iteT (h1 rfl F2 N H2 (e.trans e2) A2 D (fun σ3 F3 L3 H3 e3 A3 n => q σ3 F3 L3 H3 (e2.trans e3) A3 n) fun w F3 H3 e3 A3 n => r w F3 H3 (e2.trans e3) A3 n)
    | false => exact iteF (h2 rfl F2 N H2 (e.trans e2) A2 D (fun σ3 F3 L3 H3 e3 A3 n => q σ3 F3 L3 H3 (e2.trans e3) A3 n) fun w F3 H3 e3 A3 n => r w F3 H3 (e2.trans e3) A3 n)
theorem q_next (h : RunS u σ F L Nx Rt) : RunS (tSeq tNext u) σ F L Nx Rt := h
theorem q_ret (h : Run (te σ) F L Rt) : RunS (tSeq (tRet te) u) σ F L Nx Rt := fun F1 N H e A D q r => h F1 N H e A _ fun v F2 H2 e2 A2 hv => r v F2 H2 e2 A2.drop hv
theorem RunS.weak {Nx' : L2.St → Hp → Cells → Prop} (h : RunS t σ F L Nx Rt) (hn : ∀ σ' F' L', Same F F' → Nx σ' F' L' → Nx' σ' F' L') : RunS t σ F L Nx' Rt := fun F1 N H e A D q r =>
  h F1 N H e A D (fun σ' F' L' H' e' A' n => q σ' F' L' H' e' A' (hn σ' F' L' (e.trans e') n)) r
/-- the cells in another order -/
theorem RunS.perm {L' : Cells} (h : RunS t σ F L' Nx Rt) (p : L.Perm L') : RunS t σ F L Nx Rt := fun F1 N H e A D q r => h F1 N H e (A.perm (List.Perm.append_right N p)) D q r
/-- a cell stays from now on -/
theorem RunS.keep {a : Addr} {o : HO} (h : F a = none → RunS t σ (upd F a o) L Nx Rt) : RunS t σ F ((a, o) :: L) Nx Rt := fun F1 N H e A D q r => by
  have A1 : At F1 ((a, o) :: (L ++ N)) H := A
  have ha : F a = none := e.free A1.off1
  refine h ha (upd F1 a o) N H (fun c v z => ?_) A1.keep D (fun σ' F' L' H' e' A' n => q σ' F' L' H' ((same_new A1.off1).trans e') A' n) fun v F' H' e' A' n => r v F' H' ((same_new A1.off1).trans e') A' n
  by_cases hc : c = a
  · rw [hc, upd_same] at z ⊢; exact z
  · rw [upd_ne hc] at z ⊢; exact e c v z
/-! lists of one's own -/
theorem s_app {l : Addr} {xs : List V} (hl : Run (ta σ) F ((l, .lst xs) :: L) (Eqv (.ref l))) (h : Run (te σ) F ((l, .lst xs) :: L) R) (hz : xs.length < 100000)
    (k : ∀ v F1, Same F F1 → R v F1 → Nx σ F1 ((l, .lst (xs ++ [v])) :: L)) : RunS (tDrop (tBM K "list" rAppend ta (tCons te tNil))) σ F ((l, .lst xs) :: L) Nx Rt := fun F1 N H e A D q r =>
  hl F1 N H e A _ fun v F2 H2 e2 A2 hv => by
    cases hv
    refine ⟨.inl ⟨rfl, xs, .inl (.inl (At.on1 A2))⟩, ?_⟩
    refine h F2 N H2 (e.trans e2) A2 _ fun v F3 H3 e3 A3 hv => ⟨l, xs, v, rfl, rfl, At.on1 A3, len_lt hz, ?_⟩
    exact q _ F3 _ _ (e2.trans e3) (At.put A3) (k v F3 ((e.trans e2).trans e3) hv)
end

/-! ### loops -/
/-- the iterator gives things that say Rs, one behind the other -/
def Seqs (J : It) (Rs : List VP) (F1 : Hp) : Prop := ∃ G Y, Walk J Rs.length G Y ∧ (∀ F2 L H, Same F1 F2 → At F2 L H → G H) ∧
  (∀ F2 L H i x H', Same F1 F2 → At F2 L H → i < Rs.length → Y i H x H' → ∃ F3 R, Same F2 F3 ∧ At F3 L H' ∧ Rs[i]? = some R ∧ R x F3)
section
variable {K : PySem.W.Frag} {σ : L2.St} {F : Hp} {L : Cells} {Rs : List VP} {te : TE} {t : TA} {i j : Nat}
theorem each_at : ∀ {Rs : List VP} {vs : List V} {F : Hp} {i : Nat} {x : V}, Each Rs vs F → vs[i]? = some x → ∃ R, Rs[i]? = some R ∧ R x F
  | [], [], _, _, _, _, e => by simp at e
  | R :: Rs, v :: vs, F, 0, w, h, e => by
    have e' : v = w := by simpa using e
    subst e'
    exact ⟨R, rfl, h.1⟩
  | R :: Rs, v :: vs, F, i + 1, w, h, e => by
    obtain ⟨y, h1, h2⟩ := each_at (Rs := Rs) (vs := vs) (i := i) h.2 (by simpa using e)
    exact ⟨y, by simpa using h1, h2⟩
  | [], _ :: _, _, _, _, h, _ => h.elim
  | _ :: _, [], _, _, _, h, _ => h.elim
theorem seqs_tup {a : Addr} {vs : List V} {F1 : Hp} [MonoL Rs] (h : SqT K F1 a vs) (hv : Each Rs vs F1) : Seqs (Itt K a) Rs F1 := by
  rw [Seqs, ← each_length hv]
  refine ⟨_, _, walk_tup, fun F2 L H e A => sqT_up (e.trans A.ex) h, fun F2 L H i x H' e A hi y => ?_⟩
  obtain ⟨rfl, hx⟩ := y
  obtain ⟨R, h1, h2⟩ := each_at (MonoL.mono _ _ _ e hv) hx
  exact ⟨F2, R, Same.refl _, A, h1, h2⟩
theorem seqs_lst {a : Addr} {vs : List V} {F1 : Hp} [MonoL Rs] (h : SqL K F1 a vs) (hv : Each Rs vs F1) : Seqs (Itl K a) Rs F1 := by
  rw [Seqs, ← each_length hv]
  refine ⟨_, _, walk_list, fun F2 L H e A => sqL_up (e.trans A.ex) h, fun F2 L H i x H' e A hi y => ?_⟩
  obtain ⟨rfl, hx⟩ := y
  obtain ⟨R, h1, h2⟩ := each_at (MonoL.mono _ _ _ e hv) hx
  exact ⟨F2, R, Same.refl _, A, h1, h2⟩
theorem seqs_range {n : Nat} {F1 : Hp} : Seqs (Itr 0 n) ((List.range n).map fun i => Dt K (.int (i : Nat))) F1 := by
  rw [Seqs, List.length_map, List.length_range]
  refine ⟨_, _, walk_range, fun F2 L H e A => True.intro, fun F2 L H i x H' e A hi y => ?_⟩
  obtain ⟨rfl, rfl⟩ := y
  refine ⟨F2, Dt K (.int (i : Nat)), Same.refl _, A, by simp [hi], ?_⟩
  show Dp K F2 (.int (0 + (i : Int))) (.int (i : Nat))
  rw [Int.zero_add]
  exact .int _
theorem i_tup [MonoL Rs] (h : Run (te σ) F L (Tp K Rs)) : Run (iTup K te σ) F L (fun J F1 => Seqs J Rs F1) := run_bind (k := te σ) h fun v F1 e1 hv => by
  obtain ⟨a, vs, rfl, hs, hr⟩ := hv
  exact run_ex a (run_and (fun _ _ _ _ _ => rfl) (run_and (fun F2 N H e A => ⟨vs, sqT_up (e.trans A.ex) hs⟩) (run_ret fun F2 e => seqs_tup (sqT_up e hs) (MonoL.mono _ _ _ e hr))))
theorem i_lst [MonoL Rs] (h : Run (te σ) F L (Ls K Rs)) : Run (iList K te σ) F L (fun J F1 => Seqs J Rs F1) := run_bind (k := te σ) h fun v F1 e1 hv => by
  obtain ⟨a, vs, rfl, hs, hr⟩ := hv
  exact run_ex a (run_and (fun _ _ _ _ _ => rfl) (run_and (fun F2 N H e A => ⟨vs, sqL_up (e.trans A.ex) hs⟩) (run_ret fun F2 e => seqs_lst (sqL_up e hs) (MonoL.mono _ _ _ e hr))))
theorem i_range {n : Int} (h : Run (t σ) F L (Each [Dt K (.int n)])) (hn : n ≤ 100000) (h0 : -100000 ≤ n) : Run (iRng1 t σ) F L (fun J F1 => Seqs J ((List.range n.toNat).map fun i => Dt K (.int (i : Nat))) F1) := run_bind (k := t σ) h fun vs F1 e1 hv => by
  obtain ⟨v, rfl, hv1⟩ := each1 hv
  · obtain rfl := dt_int hv1
    exact run_ex n (run_and (fun _ _ _ _ _ => rfl) (run_and (fun _ _ _ _ _ => by omega) (run_and (fun _ _ _ _ _ => by omega) (run_ret fun F2 e => seqs_range))))
/-- a target takes what comes, then the rest -/
def bindG (g : TG) (x : V) (tb : TS) : TS := fun D σ H => g x σ H fun σ2 H2 => tb D σ2 H2
variable {Nx : L2.St → Hp → Cells → Prop} {Rt : VP} {tb u : TS} {g : TG} {wi : TI}
theorem g_pair {j1 j2 : Nat} {x : V} {R1 R2 : VP} (hx : Tp K [R1, R2] x F) [Mono R1] [Mono R2] (h : ∀ v1 v2, R1 v1 F → R2 v2 F → RunS tb ((σ.set j1 (some v1)).set j2 (some v2)) F L Nx Rt) :
    RunS (bindG (gTup K 2 (gCons (gName j1) (gCons (gName j2) gNil))) x tb) σ F L Nx Rt := fun F1 N H e A D q r => by
  obtain ⟨a, vs, rfl, hs, hr⟩ := hx
  obtain ⟨v1, v2, rfl, h1, h2⟩ := each2 hr
  exact ⟨a, [v1, v2], rfl, sqT_up (e.trans A.ex) hs, rfl, v1, [v2], rfl, v2, [], rfl, rfl, h v1 v2 h1 h2 F1 N H e A D q r⟩
/-- for: Inv by the turn, the slots, what stays, the cells -/
theorem s_for (Inv : Nat → L2.St → Hp → Cells → Prop) (h : Run (wi σ) F L (fun J F1 => Seqs J Rs F1)) (h0 : ∀ F1, Same F F1 → Inv 0 σ F1 L)
    (hup : ∀ i σ' F1 F2 L', Same F1 F2 → Inv i σ' F1 L' → Inv i σ' F2 L')
    (hs : ∀ i R x σ' F' L', Same F F' → Rs[i]? = some R → R x F' → Inv i σ' F' L' → RunS (bindG g x tb) σ' F' L' (Inv (i + 1)) Rt)
    (hd : ∀ σ' F' L', Same F F' → Inv Rs.length σ' F' L' → Nx σ' F' L') : RunS (tFor wi g tb) σ F L Nx Rt := fun F1 N H e A D q r =>
  h F1 N H e A _ fun J F2 H2 e2 A2 ⟨G, Y, wk, hG, hY⟩ => by
    refine for_it wk (D := D) (fun i σ' H' => ∃ F' L', Same F2 F' ∧ At F' (L' ++ N) H' ∧ Inv i σ' F' L') ⟨F2, L, Same.refl _, A2, h0 F2 (e.trans e2)⟩ (fun i σ' H' _ ⟨F', L', e', A', _⟩ => hG F' (L' ++ N) H' e' A') ?_ ?_
    · rintro i x σ' H3 H4 hi ⟨F', L', e', A', I⟩ y
      obtain ⟨F3, R, e3, A3, hR, hx⟩ := hY F' (L' ++ N) H3 i x H4 e' A' hi y
      exact hs i R x σ' F3 L' (((e.trans e2).trans e').trans e3) hR hx (hup i σ' F' F3 L' e3 I) F3 N H4 (Same.refl _) A3 { D with nx := fun σ' H' => ∃ F' L', Same F2 F' ∧ At F' (L' ++ N) H' ∧ Inv (i + 1) σ' F' L', ct := fun σ' H' => ∃ F' L', Same F2 F' ∧ At F' (L' ++ N) H' ∧ Inv (i + 1) σ' F' L', bk := D.nx }
        (fun σ5 F5 L5 H5 e5 A5 n => ⟨F5, L5, (e'.trans e3).trans e5, A5, n⟩) fun w F5 H5 e5 A5 n => r w F5 H5 (((e2.trans e').trans e3).trans e5) A5 n
    · rintro σ' H3 ⟨F', L', e', A', I⟩
      exact q σ' F' L' H3 (e2.trans e') A' (hd σ' F' L' ((e.trans e2).trans e') I)
/-- while: W by a number that falls -/
theorem s_while {tc : TT} (W : Nat → L2.St → Hp → Cells → Prop) (m0 : Nat) (h0 : W m0 σ F L) (hup : ∀ m σ' F1 F2 L', Same F1 F2 → W m σ' F1 L' → W m σ' F2 L')
    (hs : ∀ m σ' F' L', Same F F' → W m σ' F' L' → ∃ b, Run (tc σ') F' L' (Eqv b) ∧ (b = true → RunS tb σ' F' L' (fun σ2 F2 L2 => ∃ m', m' < m ∧ W m' σ2 F2 L2) Rt) ∧ (b = false → Nx σ' F' L'))
    (hnx : ∀ σ' F1 F2 L', Same F1 F2 → Nx σ' F1 L' → Nx σ' F2 L') : RunS (tWhile tc tb) σ F L Nx Rt := fun F1 N H e A D q r => by
  refine ⟨fun m σ' H' => ∃ F' L', Same F1 F' ∧ At F' (L' ++ N) H' ∧ W m σ' F' L', ⟨m0, F1, L, Same.refl _, A, hup _ _ _ _ _ e h0⟩, ?_⟩
  rintro m σ' H' ⟨F', L', e', A', w⟩
  obtain ⟨b, hb, h1, h2⟩ := hs m σ' F' L' (e.trans e') w
  refine hb F' N H' (Same.refl _) A' _ fun c F2 H2 e2 A2 hc => ?_
  cases hc
  cases b with
  | true =>
    refine iteT ⟨fun σ2 H2 => ∃ F2 L2 m', m' < m ∧ Same F1 F2 ∧ At F2 (L2 ++ N) H2 ∧ W m' σ2 F2 L2, fun σ2 H2 ⟨F2, L2, m', hm, e3, A3, w3⟩ => ⟨m', hm, F2, L2, e3, A3, w3⟩, ?_⟩
    exact h1 rfl F2 N H2 e2 A2 _ (fun σ3 F3 L3 H3 e3 A3 ⟨m', hm, w3⟩ => ⟨F3, L3, m', hm, (e'.trans e2).trans e3, A3, w3⟩) fun v F3 H3 e3 A3 n => r v F3 H3 ((e'.trans e2).trans e3) A3 n
  | false => exact iteF (q σ' F2 L' H2 (e'.trans e2) A2 (hnx _ _ _ _ e2 (h2 rfl)))
theorem q_while {tc : TT} (W : Nat → L2.St → Hp → Cells → Prop) (m0 : Nat) (h0 : W m0 σ F L) (hup : ∀ m σ' F1 F2 L', Same F1 F2 → W m σ' F1 L' → W m σ' F2 L')
    (hs : ∀ m σ' F' L', Same F F' → W m σ' F' L' → ∃ b, Run (tc σ') F' L' (Eqv b) ∧ (b = true → RunS tb σ' F' L' (fun σ2 F2 L2 => ∃ m', m' < m ∧ W m' σ2 F2 L2) Rt) ∧ (b = false → RunS u σ' F' L' Nx Rt)) : RunS (tSeq (tWhile tc tb) u) σ F L Nx Rt :=
  s_seq (Mid := fun σ' F' L' => RunS u σ' F' L' Nx Rt) (s_while W m0 h0 hup hs fun σ' F1 F2 L' e n => n.up e) fun _ _ _ _ n => n

/-! ### comprehensions -/
/-- a target that takes what comes; then the slots are such -/
def RunG (g : TG) (x : V) (σ : L2.St) (F : Hp) (L : Cells) (P : L2.St → Hp → Prop) : Prop := ∀ F1 N H, Same F F1 → At F1 (L ++ N) H → ∀ Q : L2.St → Hp → Prop, (∀ σ2 F2 H2, Same F1 F2 → At F2 (L ++ N) H2 → P σ2 F2 → Q σ2 H2) → g x σ H Q
theorem rg_name {x : V} {P : L2.St → Hp → Prop} (h : ∀ F1, Same F F1 → P (σ.set j (some x)) F1) : RunG (gName j) x σ F L P := fun F1 N H e A Q q => q _ F1 H (Same.refl _) A (h F1 e)
theorem rg_pair {j1 j2 : Nat} {x : V} {R1 R2 : VP} {P : L2.St → Hp → Prop} [Mono R1] [Mono R2] (hx : Tp K [R1, R2] x F) (h : ∀ v1 v2 F1, Same F F1 → R1 v1 F1 → R2 v2 F1 → P ((σ.set j1 (some v1)).set j2 (some v2)) F1) :
    RunG (gTup K 2 (gCons (gName j1) (gCons (gName j2) gNil))) x σ F L P := fun F1 N H e A Q q => by
  obtain ⟨a, vs, rfl, hs, hr⟩ := hx
  obtain ⟨v1, v2, rfl, h1, h2⟩ := each2 hr
  exact ⟨a, [v1, v2], rfl, sqT_up (e.trans A.ex) hs, rfl, v1, [v2], rfl, v2, [], rfl, rfl, q _ F1 H (Same.refl _) A (h v1 v2 F1 e (Mono.go h1 e) (Mono.go h2 e))⟩
theorem filter_take {ι : Type} {f : ι → Bool} {xs : List ι} {i : Nat} {x : ι} (h : xs[i]? = some x) : (xs.take (i + 1)).filter f = (xs.take i).filter f ++ (if f x then [x] else []) := by
  obtain ⟨hl, hx⟩ := List.getElem?_eq_some_iff.mp h
  rw [List.take_succ_eq_append_getElem hl, List.filter_append, hx]
  congr 1
  rw [List.filter_cons]
  cases f x <;> simp
theorem r_lcG {ι : Type} {Ri Re : ι → VP} {f : ι → Bool} {xs : List ι} {tt : TT} {te : TE} {vs : List Nat} [∀ x, Mono (Re x)] (h : Run (wi σ) F L (fun J F1 => Seqs J (xs.map Ri) F1)) (hz : xs.length ≤ 40000)
    (ht : ∀ x v F1, Same F F1 → x ∈ xs → Ri x v F1 → RunG g v (wipe σ vs) F1 L fun σ2 F2 => wipe σ2 vs = wipe σ vs ∧ Run (tt σ2) F2 L (Eqv (f x)) ∧ (f x = true → Run (te σ2) F2 L (Re x))) :
    Run (tLc wi g tt te vs σ) F L (Ln ((xs.filter f).map Re)) := fun F1 N H e A Q q =>
  h F1 N H e A _ fun J F2 H2 e2 A2 ⟨G, Y, wk, hG, hY⟩ D hD => by
    rw [List.length_map] at wk
    refine lc_it wk (Qd := fun H => Q (.ref D) H) (fun i H' => ∃ F' acc, Same F2 F' ∧ At F' ((D, .lst acc) :: (L ++ N)) H' ∧ Each (((xs.take i).filter f).map Re) acc F') ⟨F2, [], Same.refl _, A2.cell hD, by simp [Each]⟩
      (fun i H' _ ⟨F', acc, e', A', _⟩ => hG F' _ H' e' A') ?_ ?_
    · rintro i x H3 H4 hi ⟨F', acc, e', A', hacc⟩ y
      obtain ⟨F3, R, e3, A3, hR, hx⟩ := hY F' _ H3 i x H4 e' A' (by rw [List.length_map]; exact hi) y
      rw [List.getElem?_map] at hR
      have hxi : xs[i]? = some xs[i] := List.getElem?_eq_getElem hi
      rw [hxi] at hR
      cases hR
      have P0 : ((D, HO.lst acc) :: (L ++ N)).Perm (L ++ ((D, .lst acc) :: N)) := List.perm_middle.symm
      have hlen : acc.length ≤ xs.length := by
        rw [each_length hacc, List.length_map]
        exact Nat.le_trans (List.length_filter_le _ _) (List.length_take_le' _ _)
      refine ht xs[i] x F3 (((e.trans e2).trans e').trans e3) (List.getElem_mem hi) hx F3 ((D, .lst acc) :: N) H4 (Same.refl _) (A3.perm P0) _ fun σ2 F4 H5 e4 A4 ⟨hw, hb, hv⟩ => ⟨hw, ?_⟩
      refine hb F4 ((D, .lst acc) :: N) H5 (Same.refl _) A4 _ fun b F5 H6 e5 A5 hb5 => ?_
      cases hb5
      cases hf : f xs[i] with
      | true =>
        refine iteT ?_
        refine (hv hf).up e5 F5 ((D, .lst acc) :: N) H6 (Same.refl _) A5 _ fun y F6 H7 e6 A6 hy => ?_
        have A7 := A6.perm P0.symm
        refine ⟨acc, A7.on1, len_lt (by omega), F6, acc ++ [y], (((e'.trans e3).trans e4).trans e5).trans e6, A7.put, ?_⟩
        rw [filter_take hxi, hf, if_pos rfl, List.map_append]
        exact each_app (Mono.go hacc (((e3.trans e4).trans e5).trans e6)) ⟨hy, True.intro⟩
      | false =>
        refine iteF ⟨F5, acc, ((e'.trans e3).trans e4).trans e5, A5.perm P0.symm, ?_⟩
        rw [filter_take hxi, hf, if_neg Bool.false_ne_true, List.append_nil]
        exact Mono.go hacc ((e3.trans e4).trans e5)
    · rintro H3 ⟨F', acc, e', A', hacc⟩
      rw [List.take_length] at hacc
      have A1 : At F' ((D, .lst acc) :: (L ++ N)) H3 := A'
      exact q (.ref D) (upd F' D (.lst acc)) H3 ((e2.trans e').trans (same_new A1.off1)) A1.keep ⟨D, acc, rfl, upd_same, Mono.go hacc (same_new A1.off1)⟩
end
end Rs

/-! Rs2: enumerate of a tuple, sets of a list, .. at the level of the machine. -/
namespace Rs
open PySem PySem.Spec PyProof.Rows L2
variable [Rs.Tabz]
/-! ### enumerate(tuple) -/
set_option maxHeartbeats 1000000 in
theorem enum_new_tup (l : Addr) (items : Array Value) (n : Nat) (dct : Option Addr) (sl : Array (Option Value)) :
    Meets (Builtin.«enumerate.__new__» ⟨[.type "enumerate", .ref l], []⟩) (fun _ R s => s.heap.get? l = some { cls := .type "tuple", dict := dct, data := .seq items n, slots := sl } ∧
      R (.ok (.ret (.ref (s.heap.push { cls := .type "tuple_iterator", data := .fields #[.ref l, .int 0 0] }).objs.size)))
        { s with heap := (s.heap.push { cls := .type "tuple_iterator", data := .fields #[.ref l, .int 0 0] }).push { cls := .type "enumerate", data := .fields #[.none, .bool false, .ref s.heap.objs.size, rawInt 0, .none, .none] } }) :=
  .of_wp fun prog w A R s h => by
    obtain ⟨hp, g, d, tk, os⟩ := s
    obtain ⟨hl, h⟩ := h
    have hsub := sub_enumerate
    have isT : Heap.IsTuple (Shared.heap ⟨hp, g, d, tk, os⟩) l items := ⟨_, hl, rfl, n, rfl⟩
    wp_walk using AutoSeq1.wpAny_loadPart' hl
    refine wpAny_stack_any fun st => wpAny_pure ?_
    split
    · rename_i c _ _ _ _ _
      cases (c == Value.type "enumerate")
      all_goals
        wp_walk using AutoSeq1.wpAny_loadPart' hl, wpAny_pyIter_tuple isT
        exact ⟨_, rfl, h⟩
    · wp_walk using AutoSeq1.wpAny_loadPart' hl, wpAny_pyIter_tuple isT
      exact ⟨_, rfl, h⟩
section
variable {prog : Program} {w : World} {A : Around} {E : Value → Shared → Prop} {s : Shared}
theorem enum_tup {l : Addr} {items : Array Value} {Q : Value → Shared → Prop} (hL : s.heap.IsTuple l items)
    (h : ∀ h', IsEnum h' (s.heap.objs.size + 1) s.heap.objs.size 0 .none → h'.IsTupleIter s.heap.objs.size l 0 → h'.objs.size = s.heap.objs.size + 2 →
      (∀ b o, s.heap.get? b = some o → h'.get? b = some o) → Q (.ref (s.heap.objs.size + 1)) { s with heap := h' }) :
    wpAny (model prog w) A (call (.type "enumerate") [.ref l]) Q E s := by
  obtain ⟨⟨c, dct, dt, sl⟩, hl, hc, n, hd⟩ := hL
  obtain rfl : c = .type "tuple" := hc
  obtain rfl : dt = .seq items n := hd
  refine callType_new F.called_enumerate (by decide) (F.typeCall_enumerate_1 _) (F.newCall_enumerate_1 _) (fun obj => F.args_object_init_2 obj _) F.entry_enumerate_new (enum_new_tup l items n dct sl) ⟨hl, ?_⟩
  have hz : (s.heap.push { cls := .type "tuple_iterator", data := .fields #[.ref l, .int 0 0] }).objs.size = s.heap.objs.size + 1 := Heap.size_push ..
  show _ ∧ _
  rw [hz]
  have he : IsEnum ((s.heap.push { cls := .type "tuple_iterator", data := .fields #[.ref l, .int 0 0] }).push { cls := .type "enumerate", data := .fields #[.none, .bool false, .ref s.heap.objs.size, rawInt 0, .none, .none] }) (s.heap.objs.size + 1) s.heap.objs.size 0 .none := by
    have q := Heap.get?_push_size (s.heap.push { cls := .type "tuple_iterator", data := .fields #[.ref l, .int 0 0] }) (o := { cls := .type "enumerate", data := .fields #[.none, .bool false, .ref s.heap.objs.size, rawInt 0, .none, .none] }) rfl
    rw [hz] at q
    exact q
  exact ⟨⟨_, he, rfl⟩, h _ he ⟨_, Heap.get?_push_of_some _ (Heap.get?_push_size _ rfl), rfl, rfl⟩ (by rw [Heap.size_push, hz]) fun b o x => Heap.get?_push_of_some _ (Heap.get?_push_of_some _ x)⟩
end
/-- each item of the tuple at a in a new pair with its place -/
def ItEt (K : PySem.W.Frag) (a : Addr) : It :=
  ⟨fun i H => ∃ (xs : List V) (x : V), SqT K H a xs ∧ xs[i]? = some x, fun i H v H' => ∃ T x, v = .ref T ∧ H T = none ∧ H' = upd H T (.tup [.int (i : Nat), x]) ∧ ∀ xs, SqT K H a xs → xs[i]? = some x, fun i H => ∃ xs : List V, SqT K H a xs ∧ xs.length = i⟩
theorem turn_et {P : Program} {w : World} {K : PySem.W.Frag} {elts : List Expr} {kk : Nat} {tpos : Pos} (a e it : Addr) :
    Turn P w K (.Tuple elts kk tpos) (ItEt K a) [e, it] e (fun i h => (∃ old, IsEnum h e it ((i : Nat) : Int) old) ∧ h.IsTupleIter it a i ∧ e ≠ it ∧ a ≠ it ∧ a ≠ e) where
  mem := by simp
  obj := fun i h st b hb => by
    obtain ⟨⟨old, he⟩, ⟨o, ho, hc, hd⟩, _⟩ := st
    rcases (by simpa using hb : b = e ∨ b = it) with z | z
    · rw [z]; exact ⟨_, he, fun v q => nomatch q⟩
    · rw [z]; exact ⟨o, ho, fun v q => by rw [hd] at q; cases q⟩
  keep := fun i h h' st k => let ⟨⟨old, he⟩, hi, hne⟩ := st; ⟨⟨old, k e (by simp) _ he⟩, hi.at fun o q => k it (by simp) o q, hne⟩
  item := by
    intro X hP hw hK hc i pins s σ H E I hf st hg
    subst hP hw hK
    obtain ⟨⟨old, he⟩, hit, hne, hai, hae⟩ := st
    obtain ⟨xs, x, hq, hx⟩ := hg
    obtain ⟨its, rv, p, hz⟩ := I.tuple hq
    obtain ⟨u, hu, ru⟩ := rv.get hx
    have hel : e < s.heap.objs.size := Heap.lt_size he
    have hil : it < s.heap.objs.size := by obtain ⟨_, q, _⟩ := hit; exact Heap.lt_size q
    have hh : X.A.in1.handled = none := I.ok.hd hc
    have hlt : i < its.toArray.size := by
      rw [List.size_toArray]; exact (List.getElem?_eq_some_iff.mp hu).1
    have pT : s.heap.IsTuple a its.toArray := p
    refine wpAny_pyNext_enum_itemD (Draws.tuple hh it a hai its.toArray) he ⟨hit, pT⟩ hlt hne (by simp; exact ⟨hne, fun z => hae z.symm⟩) fun x' h' tk hx' ho st' hT hsz hk => ?_
    have exu : x' = u := by
      have q : its.toArray[i]? = some u := by simpa using hu
      rw [hx'] at q
      exact Option.some.inj q
    subst exu
    refine ⟨_, rfl, wpAny_letOwnedTupleGo_enum (s := { s with heap := h', toks := tk + 1 }) ho fun h'' he' sb => ?_⟩
    have hT2 : h''.get? s.heap.objs.size = some { cls := .type "tuple", data := .seq #[.int i tk, x'] } := (sb.2 _ (Nat.ne_of_gt hel)).trans hT
    have new : ObjOk X.prog X.w (upd H s.heap.objs.size (.tup [.int (i : Nat), x])) h'' s.heap.objs.size (.tup [.int (i : Nat), x]) :=
      ⟨by show 2 ≤ sizeLine; decide, [.int i tk, x'], .cons ⟨_, rfl⟩ (.cons ru .nil), ⟨_, hT2, rfl, _, rfl⟩⟩
    have I1 : Inv X pins σ (upd H s.heap.objs.size (.tup [.int (i : Nat), x])) { s with heap := h'', toks := tk + 1 } :=
      I.turnedNew (ch := [e, it]) (fun b ob hb q => (sb.2 b (fun z => hb (by simp [z]))).trans (hk b ob (fun z => hb (by simp [z])) (fun z => hb (by simp [z])) q)) hf (Nat.le_refl _) new
    refine ⟨.ref s.heap.objs.size, _, I1, rfl, ⟨_, x, rfl, I.hok.fresh (Nat.le_refl _), rfl, fun ys hy => by rw [I.tuple_inj hy hq]; exact hx⟩, ⟨⟨x', ?_⟩, st'.1.at fun o q => (sb.2 it (Ne.symm hne)).trans q, hne, hai, hae⟩, fun b hb => ?_⟩
    · rw [show ((i + 1 : Nat) : Int) = (i : Int) + 1 from by omega]
      exact he'
    · have hb' : b < s.heap.objs.size := by
        rcases (by simpa using hb : b = e ∨ b = it) with z | z
        · rw [z]; exact hel
        · rw [z]; exact hil
      rw [upd_ne (Nat.ne_of_lt hb')]
      exact (hf b hb).1
  done := by
    intro X hP hw hK hc i pins s σ H E I hf st hg
    subst hP hw hK
    obtain ⟨⟨old, he⟩, hit, hne, hai, hae⟩ := st
    obtain ⟨xs, hq, hx⟩ := hg
    obtain ⟨its, rv, p, hz⟩ := I.tuple hq
    obtain ⟨f0, f1, f2, f3, f4, f5⟩ := hf it (by simp)
    have hl := rv.length
    have hh : X.A.in1.handled = none := I.ok.hd hc
    have hi : its.toArray.size = i := by rw [List.size_toArray]; omega
    have pT : s.heap.IsTuple a its.toArray := p
    exact wpAny_pyNext_enum_endD (Draws.tuple hh it a hai its.toArray) he ⟨by rw [hi]; exact hit, pT⟩ fun h' eb => ⟨rfl, I.turned (t' := s.toks) (fun b o hb q => eb b o hb q) f0 f1 f3 f4 f5⟩
  self := fun A i s Q E st h => let ⟨⟨_, he⟩, _⟩ := st; wpAny_pyIter_enum he h
def iEnumT (K : PySem.W.Frag) (ta : TA) : TI := fun σ H R => ta σ H fun vs H1 => ∃ a xs, vs = [.ref a] ∧ SqT K H1 a xs ∧ R (ItEt K a) H1
theorem pi_enumT {X : Cx} {e : Expr} {ta : TA} {p pos tpos : Pos} {elts : List Expr} {kk : Nat} (hg : Gl X "enumerate") (hm : X.mg "enumerate" = none) (ha : PA X [e] ta) (hs : starEach [e] X.env = [(false, eval e X.env)] := by rfl) :
    PI X (.Tuple elts kk tpos) (.Call (.Name "enumerate" p) [e] [] pos) (iEnumT X.K ta) := by
  refine ⟨fun pins s σ H R I h => ?_⟩
  refine Call_ (ld_blt I hg hm boot_enumerate (PyProof.Rows.callWith_type1 (thn (ha.run pos pins s σ H _ I h) fun us s1 ⟨vs, H1, I1, r1, q1⟩ => ?_) hs rfl))
  obtain ⟨a, xs, ex, hq, q⟩ := q1
  subst ex
  obtain ⟨u, rfl, ru⟩ := r1.one
  cases (show u = Value.ref a from ru)
  obtain ⟨its, rv, p', hz⟩ := I1.tuple hq
  have pT : s1.heap.IsTuple a its.toArray := p'
  have haL : a < s1.heap.objs.size := p'.lt
  refine enum_tup pT fun h' he hit hsz hk => wpAny_pyIter_enum he ?_
  have I2 : Inv X pins σ H1 { s1 with heap := h' } := I1.kept (t' := s1.toks) hk
  refine ⟨s1.heap.objs.size + 1, [s1.heap.objs.size + 1, s1.heap.objs.size], _, _, H1, rfl, I2, turn_et a (s1.heap.objs.size + 1) s1.heap.objs.size, ⟨⟨.none, he⟩, hit, Nat.succ_ne_self _, Nat.ne_of_lt haL, Nat.ne_of_lt (Nat.lt_succ_of_lt haL)⟩, fun b hb => ?_, q⟩
  have hle : s1.heap.objs.size ≤ b := by
    rcases (by simpa using hb : b = s1.heap.objs.size + 1 ∨ b = s1.heap.objs.size) with z | z
    · rw [z]; exact Nat.le_add_right _ _
    · rw [z]; exact Nat.le_refl _
  exact I1.fpOk hle (I1.hok.fresh hle)
theorem walk_et {K : PySem.W.Frag} {a : Addr} {xs : List V} : Walk (ItEt K a) xs.length (fun H => SqT K H a xs) (YPair (fun i => some (.int (i : Nat))) (fun i => xs[i]?)) := by
  refine ⟨fun i _ hi q => ⟨xs, xs[i], q, by simp [hi]⟩, fun _ q => ⟨xs, q, rfl⟩, fun i H v H' _ q y => ?_⟩
  obtain ⟨T, x, h1, h2, h3, h4⟩ := y
  exact ⟨T, .int (i : Nat), x, h1, h2, h3, rfl, h4 xs q⟩
/-- pairs of a place and what stands there -/
def Pairs (K : PySem.W.Frag) (Rs : List VP) : List VP := Rs.mapIdx fun i R => Tp K [Dt K (.int (i : Nat)), R]
theorem seqs_et {K : PySem.W.Frag} {Rs : List VP} {a : Addr} {vs : List V} {F1 : Hp} [MonoL Rs] (h : SqT K F1 a vs) (hv : Each Rs vs F1) : Seqs (ItEt K a) (Pairs K Rs) F1 := by
  have hl : (Pairs K Rs).length = vs.length := by unfold Pairs; rw [List.length_mapIdx, each_length hv]
  rw [Seqs, hl]
  refine ⟨_, _, walk_et, fun F2 L H e A => sqT_up (e.trans A.ex) h, fun F2 L H i x H' e A hi y => ?_⟩
  obtain ⟨T, x1, x2, rfl, hT, rfl, h1, h2⟩ := y
  cases h1
  obtain ⟨R, g1, g2⟩ := each_at (MonoL.mono _ _ _ (e.trans (same_new (A.free hT))) hv) h2
  exact ⟨upd F2 T _, Tp K [Dt K (.int (i : Nat)), R], same_new (A.free hT), A.new hT, by unfold Pairs; rw [List.getElem?_mapIdx, g1]; rfl, T, _, rfl, .inl (.inl upd_same), .int _, g2, True.intro⟩
theorem i_enumT {K : PySem.W.Frag} {σ : L2.St} {F : Hp} {L : Cells} {Rs : List VP} {t : TA} [MonoL Rs] (h : Run (t σ) F L (Each [Tp K Rs])) : Run (iEnumT K t σ) F L (fun J F1 => Seqs J (Pairs K Rs) F1) := run_bind (k := t σ) h fun vs F1 e1 hv => by
  obtain ⟨v, rfl, a, ws, rfl, hs, hr⟩ := each1 hv
  · exact run_ex a (run_ex ws (run_and (fun _ _ _ _ _ => rfl) (run_and (fun F2 N H e A => sqT_up (e.trans A.ex) hs) (run_ret fun F2 e => seqs_et (sqT_up e hs) (MonoL.mono _ _ _ e hr)))))
end Rs

/-! Rs3: set(a list of ints), sorted of it. -/
namespace Rs
open PySem PySem.Spec PyProof.Rows L2
variable [Rs.Tabz]
section
variable {P : Program} {w : World} {A : Around} {E : Value → Shared → Prop} {s : Shared}
/-- the heap with a fresh set at its end -/
def withSet (w : World) (h : Heap) : Heap := h.push { cls := .type "set", dict := none, data := .set #[] 0 (.fresh 0 0 (!w.params.followText "set-order")) }
set_option maxHeartbeats 3200000 in
theorem set_listI {l : Addr} {items : Array Value} (ns : List Int) {Q : Value → Shared → Prop} (hh : A.handled = none) (hl : s.heap.IsList l items) (hit : IntsAre items.toList ns) (hb : ns.length + 1 < scanBound)
    (h : ∀ (h' : Heap) (tk c : Nat), SetR w h' s.heap.objs.size (fun j => decide (j ∈ ns)) c → c ≤ ns.length → (∀ b o, s.heap.get? b = some o → h'.get? b = some o) → Q (.ref s.heap.objs.size) { s with heap := h', toks := tk }) :
    wpAny (model P w) A (call (.type "set") [.ref l]) Q E s := by
  have isz : items.size = ns.length := (Array.length_toList (xs := items)).symm.trans (IntsAre.length hit)
  obtain ⟨c0, tl0, hmro⟩ := F.called_set.mro
  have k1 := F.called_set.made
  have k2 := F.called_set.sub
  refine wpAny_call (codeAny_of_tree ?_)
  show wpAny _ _ (callAny (.type "set") _) _ _ _
  refine wpAny_pure ⟨Code.quiet_builtin _ (by decide +kernel), codeAny_builtin F.entry_type_call ?_⟩
  rw [Around.under_plain (weight_type_call_type "set" [.ref l] []) rfl]
  have k3 := F.called_set.notType
  have k4 := F.called_set.canCreate
  have k5 := F.typeCall_set_1 (.ref l)
  repeat (any_goals (first | assumption | wp_step))
  refine codeAny_mono (code_set_led1 (.ref l) (E := E) (Q₁ := fun obj s₁ => obj = .ref s.heap.objs.size ∧ s₁ = { s with heap := withSet w s.heap }) ⟨rfl, rfl⟩) fun r s₁ hr => ?_
  match r, hr with
  | .error e, hr => exact hr
  | .ok (.next), hr => exact hr.elim
  | .ok (.brk), hr => exact hr.elim
  | .ok (.cont), hr => exact hr.elim
  | .ok (.ret obj), hr =>
    obtain ⟨rfl, rfl⟩ := hr
    have atS : (withSet w s.heap).get? s.heap.objs.size = some { cls := .type "set", dict := none, data := .set #[] 0 (.fresh 0 0 (!w.params.followText "set-order")) } := Heap.get?_push_size _ rfl
    have tyS : Shared.TypeIs { s with heap := withSet w s.heap } (.ref s.heap.objs.size) "set" := ⟨_, atS, rfl⟩
    have k6 := F.called_set.init.lookup
    have k7 := F.called_set.init.bind (.ref s.heap.objs.size)
    repeat (any_goals (first | assumption | wp_step))
    refine codeAny_mono (codeAny_call_builtin (R := wants (fun r s₂ => r = .none ∧ ∃ h' tk c, s₂ = { s with heap := h', toks := tk } ∧ SetR w h' s.heap.objs.size (fun j => decide (j ∈ ns)) c ∧ c ≤ ns.length ∧
        (∀ b o, s.heap.get? b = some o → h'.get? b = some o)) E) F.called_set.init.plain F.entry_set_init (check_set_init_1 tyS ?_)) fun r₂ s₂ hr₂ => ?_
    · obtain ⟨⟨oc, od, odt, osl⟩, hol, hcl, nl, hdl⟩ := hl
      obtain rfl : oc = .type "list" := hcl
      obtain rfl : odt = .seq items nl := hdl
      have kept : ∀ b o, s.heap.get? b = some o → (withSet w s.heap).get? b = some o := fun b o e => Heap.get?_push_of_some _ e
      have hol' := kept _ _ hol
      have k8 := F.sub_list_set
      have k9 := F.sub_list_frozenset
      have k10 : (Value.type "list" == Value.type "dict") = false := by decide
      have isL : (withSet w s.heap).IsList l items := ⟨_, hol', rfl, nl, rfl⟩
      have sz1 : (withSet w s.heap).objs.size = s.heap.objs.size + 1 := Heap.size_push ..
      unfold Builtin.«set.__init__» noKeywords Builtin.Frozenset.updateFrom
      generalize hPI : pyIter = PI
      wp_walk
      subst hPI
      refine wpAny_pyIter_list isL ?_
      refine wpAny_bind (wpAny_runValue ?_)
      have lS : l < s.heap.objs.size := Heap.lt_size hol
      have hh3 : A.in1.in1.in1.handled = none := hh
      have neI : l ≠ (withSet w s.heap).objs.size := by rw [sz1]; exact Nat.ne_of_lt (Nat.lt_succ_of_lt lS)
      have nfp : s.heap.objs.size ∉ [(withSet w s.heap).objs.size, l] := by
        rw [sz1]
        simp only [List.mem_cons, List.not_mem_nil, or_false, not_or]
        exact ⟨Nat.ne_of_lt (Nat.lt_succ_self _), Nat.ne_of_gt lS⟩
      have vals : ∀ (i : Nat) (v : Value), items[i]? = some v → ∃ k t, ns[i]? = some k ∧ v = .int k t := fun i v hv => by
        have hi : i < ns.length := isz ▸ (Array.getElem?_eq_some_iff.mp hv).1
        obtain ⟨t, e⟩ := IntsAre.int_at hit i v (by rw [Array.getElem?_toList]; exact hv)
        exact ⟨ns[i], t, List.getElem?_eq_getElem hi, by rw [e, List.getD_eq_getElem?_getD, List.getElem?_eq_getElem hi]; rfl⟩
      refine set_update_ints ((Walks.list hh3 _ l neI items).toS) s.heap.objs.size nfp ns isz hb vals (items.size - 0) 0 _ (by omega) (Nat.zero_le _) ⟨⟨_, Heap.get?_push_size _ rfl, rfl, rfl⟩, (isL.push _)⟩ ?S0 ?S1
      case S0 => exact ⟨0, Nat.le_refl 0, setR_new_at (Heap.get?_push_of_some _ atS)⟩
      case S1 =>
        intro s' c' hm hc' hS'
        obtain ⟨h', g2, d', tk', os'⟩ := s'
        obtain rfl : g2 = s.gens := hm.gens
        obtain rfl : d' = s.drawn := hm.drawn
        obtain rfl : os' = s.os := hm.os
        show wpAny _ _ _ _ _ _
        refine wpAny_pure ?_
        show wpAny _ _ (ret Value.none) _ _ _
        refine wpAny_pure ⟨rfl, h', tk', c', rfl, hS', isz ▸ hc', fun b o e => ?_⟩
        have hb0 : b < s.heap.objs.size := Heap.lt_size e
        refine hm.heap b o ?_ (Heap.get?_push_of_some _ (kept b o e))
        simp only [List.mem_cons, List.not_mem_nil, or_false, not_or]
        exact ⟨Nat.ne_of_lt hb0, by rw [sz1]; exact Nat.ne_of_lt (Nat.lt_succ_of_lt hb0)⟩
    · match r₂, hr₂ with
      | .error e, hr₂ => exact hr₂
      | .ok (.next), hr₂ => exact hr₂.elim
      | .ok (.brk), hr₂ => exact hr₂.elim
      | .ok (.cont), hr₂ => exact hr₂.elim
      | .ok (.ret r), hr₂ =>
        obtain ⟨rfl, h', tk, c', rfl, hS', hc', hk'⟩ := hr₂
        repeat (any_goals (first | assumption | wp_step))
        exact h _ _ _ hS' hc' hk'
end
section
variable {X : Cx}
theorem len_scan {n : Nat} (h : n ≤ 1000) : n + 1 < scanBound := Nat.lt_of_le_of_lt (Nat.succ_le_succ h) (by decide)
theorem ints_of {ns : List Int} {us : List Value} (r : Vals (ns.map V.int) us) : IntsAre us ns := Vals.ints r
/-- set(xs), xs a list or a tuple of at most 1000 ints -/
def rSetI (K : PySem.W.Frag) (w : World) : List V → Hp → VK → Prop := fun vs H Q => ∃ (a : Addr) (ns : List Int), vs = [.ref a] ∧ (SqL K H a (ns.map V.int) ∨ SqT K H a (ns.map V.int)) ∧ ns.length ≤ 1000 ∧
  ∀ p c, c ≤ ns.length → H p = none → Q (.ref p) (upd H p (SetO w p (fun j => decide (j ∈ ns)) c))
theorem cr_setI (hc : X.calm = true) : CallR X (.type "set") (rSetI X.K X.w) := by
  intro pins s σ H vs us Q I r h
  obtain ⟨a, ns, rfl, hs, hl, q⟩ := h
  rw [Vals.ref1 r]
  have fin : ∀ (h' : Heap) (tk c : Nat), SetR X.w h' s.heap.objs.size (fun j => decide (j ∈ ns)) c → c ≤ ns.length → (∀ b o, s.heap.get? b = some o → h'.get? b = some o) → EP X pins σ Q (.ref s.heap.objs.size) { s with heap := h', toks := tk } := fun h' tk c hS hc' hk =>
    ⟨.ref _, _, I.laid (t' := tk) hk (Nat.le_refl _) (setO_new hS), rfl, q _ c hc' (I.hok.fresh (Nat.le_refl _))⟩
  rcases hs with hs | hs
  · obtain ⟨its, rv, ⟨o, n, e, c, d, hd⟩, _⟩ := I.list hs
    exact set_listI ns (I.ok.hd hc) ⟨o, e, c, n, hd⟩ (ints_of rv) (len_scan hl) fin
  · obtain ⟨its, rv, p, _⟩ := I.tuple hs
    exact call_set_tupI ns (I.ok.hd hc) (show s.heap.IsTuple a its.toArray from p) (ints_of rv) (len_scan hl) fin
end
/-- a set of ints that stands -/
def St (w : World) (ns : List Int) : VP := fun v F => ∃ a c, v = .ref a ∧ c ≤ ns.length ∧ F a = some (SetO w a (fun j => decide (j ∈ ns)) c)
instance {w : World} {ns : List Int} : Mono (St w ns) := ⟨fun _ _ _ e ⟨a, c, h, l, r⟩ => ⟨a, c, h, l, e _ _ r⟩⟩
/-- a row of ints, as a list or a tuple -/
def seqI (ns : List Int) (v : V) (F : Hp) (K : PySem.W.Frag) : Prop := ∃ a, v = .ref a ∧ (SqL K F a (ns.map V.int) ∨ SqT K F a (ns.map V.int))
theorem seqI_t {K : PySem.W.Frag} {ns : List Int} {v : V} {F : Hp} (h : Dt K (.tuple (ns.map .int)) v F) : seqI ns v F K := by
  cases h with
  | tup s r => exact ⟨_, rfl, .inr (vs_ints r ▸ s)⟩
theorem seqI_l {K : PySem.W.Frag} {ns : List Int} {v : V} {F : Hp} (h : Dt K (.list (ns.map .int)) v F) : seqI ns v F K := by
  cases h with
  | lst s r => exact ⟨_, rfl, .inl (vs_ints r ▸ s)⟩
section
variable {K : PySem.W.Frag} {w : World} {σ : L2.St} {F : Hp} {L : Cells} {t : TA} {ns : List Int}
theorem r_set {R : VP} (h : Run (t σ) F L (Each [R])) (hr : ∀ v F1, R v F1 → seqI ns v F1 K) (hl : ns.length ≤ 1000) : Run (tCB (rSetI K w) t σ) F L (St w ns) := r_cb h fun vs F1 e1 hv => by
  obtain ⟨v, rfl, hv1⟩ := each1 hv
  obtain ⟨a, rfl, hs⟩ := hr v F1 hv1
  refine run_ex a (run_ex ns (run_and (fun _ _ _ _ _ => rfl) (run_and (fun F2 N H e A => hs.imp (sqL_up (e.trans A.ex)) (sqT_up (e.trans A.ex))) (run_and (fun _ _ _ _ _ => hl) ?_))))
  exact fun F2 N H e2 A Q q p c hc hp => q _ (upd F2 p _) _ (same_new (A.free hp)) (A.new hp) ⟨p, c, rfl, hc, upd_same⟩
theorem r_sortedSet (h : Run (t σ) F L (Each [St w ns])) (hl : ns.length < 64) (os : List Int) (h1 : os.Pairwise (· < ·)) (h2 : ∀ k, k ∈ os ↔ k ∈ ns) : Run (tCB (rSortedSet w) t σ) F L (Dt K (.list (os.map .int))) := r_cb h fun vs F1 e1 hv => by
  obtain ⟨v, rfl, a, c, rfl, hc, hs⟩ := each1 hv
  refine run_ex a (run_ex _ (run_ex c (run_and (fun _ _ _ _ _ => rfl) (run_and (fun F2 N H e A => A.ex _ _ (e _ _ hs)) (run_and (fun _ _ _ _ _ => by omega) ?_)))))
  refine fun F2 N H e2 A Q q ms p hp hm hlen hn => q _ (upd F2 p _) _ (same_new (A.free hn)) (A.new hn) ?_
  have e : ms = os := by
    refine List.Perm.eq_of_pairwise (le := (· < ·)) (fun a b _ _ x y => absurd x (Int.lt_asymm y)) hp h1 ((List.perm_ext_iff_of_nodup (hp.imp fun x => Int.ne_of_lt x) (h1.imp fun x => Int.ne_of_lt x)).mpr fun k => ?_)
    rw [hm k, h2 k, decide_eq_true_eq]
  rw [e]
  exact .lst (.inl (.inl upd_same)) ints_vs
end
end Rs

/-! Rs4: short words for calls of what is built in, of defs, of classes with slots. -/
namespace Rs
open PySem PySem.Spec PyProof.Rows L2 SlX
variable [Rs.Tabz]
/-- the names that are still the built-in ones -/
structure Bf (mg : Str → Option Value) : Prop where
  len : mg "len" = none
  range : mg "range" = none
  list : mg "list" = none
  tuple : mg "tuple" = none
  set : mg "set" = none
  sorted : mg "sorted" = none
  all : mg "all" = none
  isinstance : mg "isinstance" = none
  int : mg "int" = none
  bool : mg "bool" = none
  enumerate : mg "enumerate" = none
  zip : mg "zip" = none
  min : mg "min" = none
  max : mg "max" = none
  abs : mg "abs" = none
  str : mg "str" = none
  repr : mg "repr" = none
  dict : mg "dict" = none
section
variable {X : Cx} {e o : Expr} {es : List Expr} {ta te : TE} {t : TA} {p pos apos : Pos} {f m x : Str} {K : PySem.W.Frag}
/-- len of a text, a list, a tuple, a dict by ints and texts -/
def rLn (K : PySem.W.Frag) : List V → Hp → VK → Prop := fun xs H Q => (∃ x n, xs = [x] ∧ LenV K x H n ∧ Q (.int n) H) ∨ ∃ a kvs, xs = [V.ref a] ∧ H a = some (.dK kvs) ∧ Q (.int kvs.length) H
theorem p_len (B : Bf X.mg) (ha : PA X (e :: es) t) (hg : Gl X "len" := by rfl) (he : starEach (e :: es) X.env = (false, eval e X.env) :: starEach es X.env := by rfl) (hpl : (backTo pos (starEach es X.env)).any (·.1) = false := by rfl) :
    PE X (.Call (.Name "len" p) (e :: es) [] pos) (tCB (rLn X.K) t) := pe_callB (CallR.or call_len call_lenD) hg B.len PySem.boot_len ha (by decide) (by decide) he hpl
theorem p_all (hc : X.calm = true) (B : Bf X.mg) (ha : PA X (e :: es) t) (hg : Gl X "all" := by rfl) (he : starEach (e :: es) X.env = (false, eval e X.env) :: starEach es X.env := by rfl) (hpl : (backTo pos (starEach es X.env)).any (·.1) = false := by rfl) :
    PE X (.Call (.Name "all" p) (e :: es) [] pos) (tCB (rAll X.K) t) := pe_callB (cr_all hc) hg B.all boot_all ha (by decide) (by decide) he hpl
theorem p_isi (B : Bf X.mg) (ha : PA X (e :: es) t) (hg : Gl X "isinstance" := by rfl) (he : starEach (e :: es) X.env = (false, eval e X.env) :: starEach es X.env := by rfl) (hpl : (backTo pos (starEach es X.env)).any (·.1) = false := by rfl) :
    PE X (.Call (.Name "isinstance" p) (e :: es) [] pos) (tCB (rIsi X.K) t) := pe_callB call_isi hg B.isinstance PyProof.Rows.boot_isinstance ha (by decide) (by decide) he hpl
theorem p_isiS (u : Value) (B : Bf X.mg) (ha : PA X (e :: es) t) (hg : Gl X "isinstance" := by rfl) (he : starEach (e :: es) X.env = (false, eval e X.env) :: starEach es X.env := by rfl) (hpl : (backTo pos (starEach es X.env)).any (·.1) = false := by rfl) :
    PE X (.Call (.Name "isinstance" p) (e :: es) [] pos) (tCB (fun xs H Q => rIsi X.K xs H Q ∨ rIsiSl X.K u xs H Q) t) := pe_callB (CallR.or call_isi (call_isiSl u)) hg B.isinstance PyProof.Rows.boot_isinstance ha (by decide) (by decide) he hpl
theorem p_set (hc : X.calm = true) (B : Bf X.mg) (ha : PA X (e :: es) t) (hg : Gl X "set" := by rfl) (he : starEach (e :: es) X.env = (false, eval e X.env) :: starEach es X.env := by rfl) (hpl : (backTo pos (starEach es X.env)).any (·.1) = false := by rfl) :
    PE X (.Call (.Name "set" p) (e :: es) [] pos) (tCB (rSetI X.K X.w) t) := pe_callTy (cr_setI hc) hg B.set PyProof.Rows.boot_set ha (by decide) (by decide) he hpl
theorem p_sortedSet (hc : X.calm = true) (B : Bf X.mg) (ha : PA X (e :: es) t) (hg : Gl X "sorted" := by rfl) (he : starEach (e :: es) X.env = (false, eval e X.env) :: starEach es X.env := by rfl) (hpl : (backTo pos (starEach es X.env)).any (·.1) = false := by rfl) :
    PE X (.Call (.Name "sorted" p) (e :: es) [] pos) (tCB (rSortedSet X.w) t) := pe_callB (cr_sortedSet hc) hg B.sorted boot_sorted ha (by decide) (by decide) he hpl
theorem p_sortedL (B : Bf X.mg) (ha : PA X (e :: es) t) (hg : Gl X "sorted" := by rfl) (he : starEach (e :: es) X.env = (false, eval e X.env) :: starEach es X.env := by rfl) (hpl : (backTo pos (starEach es X.env)).any (·.1) = false := by rfl) :
    PE X (.Call (.Name "sorted" p) (e :: es) [] pos) (tCB (rSorted X.K) t) := pe_callB cr_sorted hg B.sorted boot_sorted ha (by decide) (by decide) he hpl
/-- sorted of a dict by ints -/
def rSortedDI : List V → Hp → VK → Prop := fun xs H Q => ∃ (a : Addr) (kvs : List (Key × V)) (ks : List Int), xs = [.ref a] ∧ Rd H a (.dK kvs) ∧ kvs.map (·.1) = ks.map Sum.inl ∧ ks.length < 64 ∧
    ∀ (ys : List Int) (p : Addr), ys.Perm ks → ys.Pairwise (· ≤ ·) → H p = none → Q (.ref p) (upd H p (.lst (ys.map V.int)))
theorem p_sortedDI (hc : X.calm = true) (B : Bf X.mg) (ha : PA X (e :: es) t) (hg : Gl X "sorted" := by rfl) (he : starEach (e :: es) X.env = (false, eval e X.env) :: starEach es X.env := by rfl) (hpl : (backTo pos (starEach es X.env)).any (·.1) = false := by rfl) :
    PE X (.Call (.Name "sorted" p) (e :: es) [] pos) (tCB rSortedDI t) := pe_callB (call_sortedDI hc) hg B.sorted boot_sorted ha (by decide) (by decide) he hpl
def rListOf (K : PySem.W.Frag) : List V → Hp → VK → Prop := fun xs H Q => ∃ p ys, xs = [.ref p] ∧ (SqL K H p ys ∨ SqT K H p ys) ∧ ∀ l, H l = none → Q (.ref l) (upd H l (.lst ys))
theorem p_list (B : Bf X.mg) (ha : PA X (e :: es) t) (hg : Gl X "list" := by rfl) (he : starEach (e :: es) X.env = (false, eval e X.env) :: starEach es X.env := by rfl) (hpl : (backTo pos (starEach es X.env)).any (·.1) = false := by rfl) :
    PE X (.Call (.Name "list" p) (e :: es) [] pos) (tCB (rListOf X.K) t) := pe_callTy call_list_of hg B.list PyProof.Rows.boot_list ha (by decide) (by decide) he hpl
def rTupOf (K : PySem.W.Frag) : List V → Hp → VK → Prop := fun xs H Q => ∃ p ys, xs = [.ref p] ∧ ((SqL K H p ys ∧ ∀ l, H l = none → Q (.ref l) (upd H l (.tup ys))) ∨ (SqT K H p ys ∧ Q (.ref p) H))
theorem p_tuple (B : Bf X.mg) (ha : PA X (e :: es) t) (hg : Gl X "tuple" := by rfl) (he : starEach (e :: es) X.env = (false, eval e X.env) :: starEach es X.env := by rfl) (hpl : (backTo pos (starEach es X.env)).any (·.1) = false := by rfl) :
    PE X (.Call (.Name "tuple" p) (e :: es) [] pos) (tCB (rTupOf X.K) t) := pe_callTy call_tuple_of hg B.tuple PyProof.Rows.boot_tuple ha (by decide) (by decide) he hpl
def rIntOf : List V → Hp → VK → Prop := fun xs H Q => (∃ i, xs = [.int i] ∧ Q (.int i) H) ∨ ∃ k, xs = [.bl k] ∧ Q (.int (if k then 1 else 0)) H
theorem p_int (B : Bf X.mg) (ha : PA X (e :: es) t) (hg : Gl X "int" := by rfl) (he : starEach (e :: es) X.env = (false, eval e X.env) :: starEach es X.env := by rfl) (hpl : (backTo pos (starEach es X.env)).any (·.1) = false := by rfl) :
    PE X (.Call (.Name "int" p) (e :: es) [] pos) (tCB rIntOf t) := pe_callTy call_int1 hg B.int PyProof.Rows.boot_int ha (by decide) (by decide) he hpl
def rAbs : List V → Hp → VK → Prop := fun xs H Q => ∃ i, xs = [.int i] ∧ Q (.int (if i < 0 then -i else i)) H
theorem p_abs (B : Bf X.mg) (ha : PA X (e :: es) t) (hg : Gl X "abs" := by rfl) (he : starEach (e :: es) X.env = (false, eval e X.env) :: starEach es X.env := by rfl) (hpl : (backTo pos (starEach es X.env)).any (·.1) = false := by rfl) :
    PE X (.Call (.Name "abs" p) (e :: es) [] pos) (tCB rAbs t) := pe_callB call_abs hg B.abs PyProof.Rows.boot_abs ha (by decide) (by decide) he hpl
def rMin2 : List V → Hp → VK → Prop := fun xs H Q => ∃ i j, xs = [.int i, .int j] ∧ Q (.int (if j < i then j else i)) H
theorem p_min2 (hc : X.calm = true) (B : Bf X.mg) (ha : PA X (e :: es) t) (hg : Gl X "min" := by rfl) (he : starEach (e :: es) X.env = (false, eval e X.env) :: starEach es X.env := by rfl) (hpl : (backTo pos (starEach es X.env)).any (·.1) = false := by rfl) :
    PE X (.Call (.Name "min" p) (e :: es) [] pos) (tCB rMin2 t) := pe_callB (call_min2 hc) hg B.min PyProof.Rows.boot_min ha (by decide) (by decide) he hpl
def rMax2 : List V → Hp → VK → Prop := fun xs H Q => ∃ i j, xs = [.int i, .int j] ∧ Q (.int (if j > i then j else i)) H
theorem p_max2 (hc : X.calm = true) (B : Bf X.mg) (ha : PA X (e :: es) t) (hg : Gl X "max" := by rfl) (he : starEach (e :: es) X.env = (false, eval e X.env) :: starEach es X.env := by rfl) (hpl : (backTo pos (starEach es X.env)).any (·.1) = false := by rfl) :
    PE X (.Call (.Name "max" p) (e :: es) [] pos) (tCB rMax2 t) := pe_callB (call_max2 hc) hg B.max PyProof.Rows.boot_max ha (by decide) (by decide) he hpl
/-- a built-in type's name -/
theorem p_ty {T : String} {x : Str} (hg : Gl X x) (hm : X.mg x = none) (hv : bootBuiltins x = some (.type T)) (hn : x ≠ "__name__" := by decide) (hd : (x == ("__debug__" : Str)) = false := by decide) : PE X (.Name x pos) (tC (.ty T)) := pe_bltn hg hm hv rfl hn hd
theorem p_cls {C : Addr} {x : Str} (hg : Gl X x) (hm : X.mg x = some (.ref C)) (hd : (x == ("__debug__" : Str)) = false := by decide) : PE X (.Name x pos) (tC (.ref C)) := pe_glob hg hm rfl hd
/-- a module's own int -/
def GInt (mg : Str → Option Value) (x : Str) (i : Int) : Prop := ∃ t, mg x = some (.int i t)
theorem p_gint {i : Int} {x : Str} (h : GInt X.mg x i) (hg : Gl X x := by rfl) (hd : (x == ("__debug__" : Str)) = false := by decide) : PE X (.Name x pos) (tC (.int i)) := by
  obtain ⟨t, h⟩ := h
  exact pe_glob hg h ⟨t, rfl⟩ hd
/-- a def called -/
structure Gf (P : Program) (w : World) (K : PySem.W.Frag) (mg : Str → Option Value) (base : Heap) (k : Nat) (x : Str) (sp : Sp) : Prop where
  ex : ∃ f fd ps, FnOk P w K mg base CX0 k f fd ps sp ∧ mg x = some (.ref f) ∧ PySem.W.keepIn K (.ref f) = true ∧ Binds K fd ps []
theorem p_call {k j : Nat} {sp : Sp} (c : Gf X.prog X.w X.K X.mg X.base k f sp) (hr : Room j X.A) (hk : k ≤ j) (ha : PA X (e :: es) t) (hg : Gl X f := by rfl)
    (hdb : (f == ("__debug__" : Str)) = false := by decide) (he : starEach (e :: es) X.env = (false, eval e X.env) :: starEach es X.env := by rfl) (hpl : (backTo pos (starEach es X.env)).any (·.1) = false := by rfl) :
    PE X (.Call (.Name f p) (e :: es) [] pos) (tCall sp [] E0 t) := by
  obtain ⟨g, fd, ps, F, hm, kp, b⟩ := c.ex
  exact pe_call F (hr.mono hk) hg hm kp b .nil pass0 ha hdb he hpl
/-- a method, a property of a class with slots -/
structure MetS (P : Program) (w : World) (K : PySem.W.Frag) (mg : Str → Option Value) (base : Heap) (k : Nat) (C : Addr) (m : Str) (sp : Sp) : Prop where
  ex : ∃ g, SCls K C ∧ Meth K C m g ∧ FnR P w K mg base CX0 k g sp
structure PrpS (P : Program) (w : World) (K : PySem.W.Frag) (mg : Str → Option Value) (base : Heap) (k : Nat) (C : Addr) (m : Str) (sp : Sp) : Prop where
  ex : ∃ p g, SCls K C ∧ PySem.W.findIn K (.ref C) m = some (some (.ref p)) ∧ PySem.W.specialIn K (.ref p) "__get__" = some (some (.builtin "property.__get__")) ∧ PySem.W.takesIn K (.ref p) = some true ∧
    (∃ rest, PySem.W.recIn K p "property" = some (.ref g :: rest)) ∧ FnR P w K mg base CX0 k g sp
theorem p_met {k j : Nat} {C : Addr} {sp : Sp} {pl : Sem Bool} (c : MetS X.prog X.w X.K X.mg X.base k C m sp) (hr : Room j X.A) (hk : k ≤ j) (he : PE X o ta) (ha : PA X (e :: es) t)
    (hst : starEach (e :: es) X.env = (false, eval e X.env) :: starEach es X.env := by rfl) (hpl : (backTo pos (starEach es X.env)).any (·.1) = false := by rfl)
    (ht : eval (.Call (.Attribute o m apos) (e :: es) [] pos) X.env = (do
      let ov ← eval o X.env
      standAt apos.atName
      let (f, first) ← holding [ov] (getMethod ov m pl)
      callWith pos f first (backTo pos (starEach (e :: es) X.env)) (backToKw pos (keywordEach [] X.env))) := by rfl) :
    PE X (.Call (.Attribute o m apos) (e :: es) [] pos) (tMethSl C sp E0 ta t) := by
  obtain ⟨g, sc, me, F⟩ := c.ex
  exact pe_methSl (pl := pl) he sc me F (hr.mono hk) pass0 ha hst hpl ht
theorem p_prp {k j : Nat} {C : Addr} {sp : Sp} (c : PrpS X.prog X.w X.K X.mg X.base k C f sp) (hr : Room j X.A) (hk : k + 1 ≤ j) (he : PE X e ta) (hb : attributeBase e f X.env (eval e X.env) = eval e X.env := by rfl) :
    PE X (.Attribute e f pos) (tPropSl C sp E0 ta) := by
  obtain ⟨p, g, sc, h1, h2, h3, h4, F⟩ := c.ex
  exact pe_propSl he sc h1 h2 h3 h4 F (hr.mono hk) (fun _ _ _ _ h => h.elim) hb
end
end Rs

/-! Rs5: a def keeps its promise; runs of the short words. -/
namespace Rs
open PySem PySem.Spec PyProof.Rows L2 SlX StX
variable [Rs.Tabz]
section
variable {P : Program} {w : World} {K : PySem.W.Frag} {mg : Str → Option Value} {base : Heap}
theorem gf_ok {x qual : Str} {st : Stmt} {f : Addr} {fd : FuncData} {N ps : List Str} {k : Nat} {γ : Type} {pre : γ → Prop} {Rs : γ → List VP} {R : γ → VP} (F : Fun K x qual st f fd) (S : FnScope N ps (defScope st)) (len : ∀ g, (Rs g).length = ps.length)
    (body : ∀ (cdv : Value) (A : Around) (outer : List Env) (s : Shared) (H : Hp) (E : XK) (g : γ) (vs : List V) (F0 : Hp), Room k (A.deeper (envOfC qual (defScope st) s.heap.objs.size f cdv)) → pre g → Each (Rs g) vs F0 →
      ∃ t, PSs (cxOf CX0 P w K mg base N qual (defScope st) f cdv A outer s H E).nox (defBody st) t ∧ RunS t (start N vs) F0 [] (fun _ F' _ => R g .non F') (R g)) : FnOk P w K mg base CX0 (k + 1) f fd ps (SpF pre Rs R) := by
  refine F.ok S (fun vs H Q E ⟨g, F0, N0, hp, A, hv, q⟩ => (each_length hv).trans (len g)) fun cdv A outer s H vs Q E hr ⟨g, F0, N0, hp, A0, hv, q⟩ => ?_
  obtain ⟨t, h1, h2⟩ := body cdv A outer s H E g vs F0 hr hp hv
  exact ⟨t, h1, h2 F0 N0 H (Same.refl _) A0 _ (fun _ F' L' H' e' A' n => q .non F' H' e' A'.drop n) fun v F' H' e' A' r => q v F' H' e' A' r⟩
theorem gf_mk {x : Str} {st : Stmt} {f : Addr} {fd : FuncData} {N ps : List Str} {k : Nat} {γ : Type} {pre : γ → Prop} {Rs : γ → List VP} {R : γ → VP} (F : Fun K x x st f fd) (hm : mg x = some (.ref f)) (b : Binds K fd ps []) (S : FnScope N ps (defScope st)) (len : ∀ g, (Rs g).length = ps.length)
    (body : ∀ (cdv : Value) (A : Around) (outer : List Env) (s : Shared) (H : Hp) (E : XK) (g : γ) (vs : List V) (F0 : Hp), Room k (A.deeper (envOfC x (defScope st) s.heap.objs.size f cdv)) → pre g → Each (Rs g) vs F0 →
      ∃ t, PSs (cxOf CX0 P w K mg base N x (defScope st) f cdv A outer s H E).nox (defBody st) t ∧ RunS t (start N vs) F0 [] (fun _ F' _ => R g .non F') (R g)) : Gf P w K mg base (k + 1) x (SpF pre Rs R) :=
  ⟨f, fd, ps, gf_ok F S len body, hm, F.kp, b⟩
end
section
variable {K : PySem.W.Frag} {w : World} {σ : L2.St} {F : Hp} {L : Cells} {R : VP} {Rs : List VP} {t : TA} {te : TE}
/-! len, all, isinstance, list, tuple, sorted -/
theorem r_lnT (h : Run (t σ) F L (Each [Tp K Rs])) : Run (tCB (rLn K) t σ) F L (Dt K (.int Rs.length)) := r_cb h fun vs F1 e1 hv => by
  obtain ⟨v, rfl, a, ws, rfl, hs, hr⟩ := each1 hv
  exact fun F2 N H e A Q q => .inl ⟨.ref a, ws.length, rfl, .inr ⟨ws, sqT_up (e.trans A.ex) hs, rfl⟩, q _ F2 H (Same.refl _) A (by rw [each_length hr]; exact .int _)⟩
theorem r_lnL (h : Run (t σ) F L (Each [Ls K Rs])) : Run (tCB (rLn K) t σ) F L (Dt K (.int Rs.length)) := r_cb h fun vs F1 e1 hv => by
  obtain ⟨v, rfl, a, ws, rfl, hs, hr⟩ := each1 hv
  exact fun F2 N H e A Q q => .inl ⟨.ref a, ws.length, rfl, .inl ⟨ws, sqL_up (e.trans A.ex) hs, rfl⟩, q _ F2 H (Same.refl _) A (by rw [each_length hr]; exact .int _)⟩
theorem r_lnTD {ds : List PyData} (h : Run (t σ) F L (Each [Dt K (.tuple ds)])) : Run (tCB (rLn K) t σ) F L (Dt K (.int ds.length)) := by
  have := r_lnT (K := K) (Rs := ds.map (Dt K)) (h.weak fun vs F1 e hv => by
    obtain ⟨v, rfl, h1⟩ := each1 hv
    exact ⟨tp_dt.mpr h1, True.intro⟩)
  rwa [List.length_map] at this
/-- len of a list of one's own -/
theorem r_lnC {l : Addr} {xs : List V} (hm : (l, HO.lst xs) ∈ L) (h : Run (t σ) F L (Each [Eqv (.ref l)])) : Run (tCB (rLn K) t σ) F L (Dt K (.int xs.length)) := r_cb h fun vs F1 e1 hv => by
  obtain ⟨v, rfl, hv1⟩ := each1 hv
  cases hv1
  exact fun F2 N H e A Q q => .inl ⟨.ref l, xs.length, rfl, .inl ⟨xs, .inl (.inl (A.on _ (List.mem_append_left _ hm))), rfl⟩, q _ F2 H (Same.refl _) A (.int _)⟩
theorem each_bls : ∀ {bs : List Bool} {vs : List V} {F : Hp}, Each (bs.map fun b => Dt K (.bool b)) vs F → vs = bs.map V.bl
  | [], vs, F, h => by rw [each0 h]; rfl
  | b :: bs, vs, F, h => by
    obtain ⟨v, ws, rfl, h1, h2⟩ := each_cons h
    rw [dt_bl h1, each_bls h2]; rfl
theorem r_all {bs : List Bool} (h : Run (t σ) F L (Each [Ls K (bs.map fun b => Dt K (.bool b))])) : Run (tCB (rAll K) t σ) F L (Dt K (.bool (bs.all id))) := r_cb h fun vs F1 e1 hv => by
  obtain ⟨v, rfl, a, ws, rfl, hs, hr⟩ := each1 hv
  rw [each_bls hr] at hs
  exact fun F2 N H e A Q q => ⟨a, bs, rfl, sqL_up (e.trans A.ex) hs, q _ F2 H (Same.refl _) A (.bl _)⟩
/-- isinstance(x, T) by the kind of the value -/
theorem r_isi {T : String} {ty : Value} {b : Bool} (h : Run (t σ) F L (Each [R, Eqv (.ty T)])) (hr : ∀ v F1 F2 H, R v F1 → Same F1 F2 → Same F2 H → TyX K H v ty) (hb : PySem.W.kitOne K ty (.type T) = some b) : Run (tCB (rIsi K) t σ) F L (Dt K (.bool b)) := r_cb h fun vs F1 e1 hv => by
  obtain ⟨v, u, rfl, h1, h2⟩ := each2 hv
  cases h2
  exact fun F2 N H e A Q q => ⟨v, .ty T, ty, .type T, b, rfl, .ty T, hr v F1 F2 H h1 e A.ex, hb, q _ F2 H (Same.refl _) A (.bl _)⟩
theorem r_listT [MonoL Rs] (h : Run (t σ) F L (Each [Tp K Rs])) : Run (tCB (rListOf K) t σ) F L (Ln Rs) := r_cb h fun vs F1 e1 hv => by
  obtain ⟨v, rfl, a, ws, rfl, hs, hr⟩ := each1 hv
  exact fun F2 N H e A Q q => ⟨a, ws, rfl, .inr (sqT_up (e.trans A.ex) hs), fun l hl => q _ (upd F2 l _) _ (same_new (A.free hl)) (A.new hl) ⟨l, ws, rfl, upd_same, MonoL.mono _ _ _ (e.trans (same_new (A.free hl))) hr⟩⟩
theorem r_tupL [MonoL Rs] (h : Run (t σ) F L (Each [Ls K Rs])) : Run (tCB (rTupOf K) t σ) F L (Tp K Rs) := r_cb h fun vs F1 e1 hv => by
  obtain ⟨v, rfl, a, ws, rfl, hs, hr⟩ := each1 hv
  exact fun F2 N H e A Q q => ⟨a, ws, rfl, .inl ⟨sqL_up (e.trans A.ex) hs, fun l hl => q _ (upd F2 l _) _ (same_new (A.free hl)) (A.new hl) ⟨l, ws, rfl, .inl (.inl upd_same), MonoL.mono _ _ _ (e.trans (same_new (A.free hl))) hr⟩⟩⟩
theorem r_tupD {ds : List PyData} (h : Run (t σ) F L (Each [Dt K (.list ds)])) : Run (tCB (rTupOf K) t σ) F L (Dt K (.tuple ds)) :=
  (r_tupL (K := K) (Rs := ds.map (Dt K)) (h.weak fun vs F1 e hv => by
    obtain ⟨v, rfl, h1⟩ := each1 hv
    exact ⟨ls_dt.mpr h1, True.intro⟩)).weak fun v F1 e hv => tp_dt.mp hv
/-- tuple(l), l a list of one's own -/
theorem r_tupC {l : Addr} {xs : List V} [MonoL Rs] (hm : (l, HO.lst xs) ∈ L) (h : Run (t σ) F L (Each [Eqv (.ref l)])) (hr : Each Rs xs F) : Run (tCB (rTupOf K) t σ) F L (Tp K Rs) := r_cb h fun vs F1 e1 hv => by
  obtain ⟨v, rfl, hv1⟩ := each1 hv
  cases hv1
  exact fun F2 N H e A Q q => ⟨l, xs, rfl, .inl ⟨.inl (.inl (A.on _ (List.mem_append_left _ hm))), fun p hp => q _ (upd F2 p _) _ (same_new (A.free hp)) (A.new hp) ⟨p, xs, rfl, .inl (.inl upd_same), MonoL.mono _ _ _ ((e1.trans e).trans (same_new (A.free hp))) hr⟩⟩⟩
theorem r_sortedI {ns : List Int} (h : Run (t σ) F L (Each [R])) (hr : ∀ v F1, R v F1 → ∃ a, v = .ref a ∧ SqL K F1 a (ns.map V.int)) (hl : ns.length < 64) (os : List Int) (h1 : os.Perm ns) (h2 : os.Pairwise (· ≤ ·)) : Run (tCB (rSorted K) t σ) F L (Dt K (.list (os.map .int))) := r_cb h fun vs F1 e1 hv => by
  obtain ⟨v, rfl, hv1⟩ := each1 hv
  obtain ⟨a, rfl, hs⟩ := hr v F1 hv1
  refine fun F2 N H e A Q q => ⟨a, ns, rfl, sqL_up (e.trans A.ex) hs, hl, fun ms p hp hm hn => q _ (upd F2 p _) _ (same_new (A.free hn)) (A.new hn) ?_⟩
  have e : ms = os := List.Perm.eq_of_pairwise (le := (· ≤ ·)) (fun a b _ _ x y => Int.le_antisymm x y) hm h2 (hp.trans h1.symm)
  rw [e]
  exact .lst (.inl (.inl upd_same)) ints_vs
/-! ==, in -/
theorem r_eqD {ta tb : TE} {d e : PyData} (ha : Run (ta σ) F L (Dt K d)) (hb : Run (tb σ) F L (Dt K e)) (h1 : SeqAt.shaped d = true) (h2 : SeqAt.shaped e = true) : Run (tOp (rEqD K) ta tb σ) F L (Dt K (.bool (PyData.eqv d e))) :=
  r_op ha hb fun x y F1 e1 hx hy => fun F2 N H e2 A Q q => ⟨d, e, dp_up (e2.trans A.ex) hx, dp_up (e2.trans A.ex) hy, h1, h2, q _ F2 H (Same.refl _) A (.bl _)⟩
theorem r_neD {ta tb : TE} {d e : PyData} (ha : Run (ta σ) F L (Dt K d)) (hb : Run (tb σ) F L (Dt K e)) (h1 : SeqAt.shaped d = true) (h2 : SeqAt.shaped e = true) : Run (tOp (rNeD K) ta tb σ) F L (Dt K (.bool (!PyData.eqv d e))) :=
  r_op ha hb fun x y F1 e1 hx hy => fun F2 N H e2 A Q q => ⟨d, e, dp_up (e2.trans A.ex) hx, dp_up (e2.trans A.ex) hy, h1, h2, q _ F2 H (Same.refl _) A (.bl _)⟩
theorem inV_ints {i : Int} : ∀ {ns : List Int}, inV (.int i) (ns.map V.int) = decide (i ∈ ns)
  | [] => rfl
  | n :: ns => by
    have ih := inV_ints (i := i) (ns := ns)
    unfold inV at ih ⊢
    rw [List.map_cons, List.any_cons, ih]
    have e : eqV (.int n) (.int i) = decide (n = i) := by rfl
    rw [e]
    by_cases h : n = i
    · subst h; simp
    · have h' : ¬ i = n := fun z => h z.symm
      simp [h, h']
theorem flat_ints : ∀ {ns : List Int}, (ns.map V.int).all flatV = true
  | [] => rfl
  | n :: ns => by rw [List.map_cons, List.all_cons, flat_ints (ns := ns)]; rfl
theorem r_in {ta tb : TE} {i : Int} {ns : List Int} (ha : Run (ta σ) F L (Dt K (.int i))) (hb : Run (tb σ) F L R) (hr : ∀ v F1, R v F1 → seqI ns v F1 K) : Run (tOp (rIn K false) ta tb σ) F L (Dt K (.bool (decide (i ∈ ns)))) :=
  r_op ha hb fun x y F1 e1 hx hy => by
    cases hx
    obtain ⟨a, rfl, hs⟩ := hr y F1 hy
    refine fun F2 N H e2 A Q q => ⟨a, _, rfl, hs.imp (sqL_up (e2.trans A.ex)) (sqT_up (e2.trans A.ex)), rfl, flat_ints, q _ F2 H (Same.refl _) A ?_⟩
    rw [if_neg Bool.false_ne_true, inV_ints]
    exact .bl _
theorem r_notIn {ta tb : TE} {i : Int} {ns : List Int} (ha : Run (ta σ) F L (Dt K (.int i))) (hb : Run (tb σ) F L R) (hr : ∀ v F1, R v F1 → seqI ns v F1 K) : Run (tOp (rIn K true) ta tb σ) F L (Dt K (.bool (!decide (i ∈ ns)))) :=
  r_op ha hb fun x y F1 e1 hx hy => by
    cases hx
    obtain ⟨a, rfl, hs⟩ := hr y F1 hy
    refine fun F2 N H e2 A Q q => ⟨a, _, rfl, hs.imp (sqL_up (e2.trans A.ex)) (sqT_up (e2.trans A.ex)), rfl, flat_ints, q _ F2 H (Same.refl _) A ?_⟩
    rw [if_pos rfl, inV_ints]
    exact .bl _
/-! numbers equal -/
theorem r_eqI {ta tb : TE} {i j : Int} (ha : Run (ta σ) F L (Dt K (.int i))) (hb : Run (tb σ) F L (Dt K (.int j))) : Run (tOp rEq ta tb σ) F L (Dt K (.bool (decide (i = j)))) :=
  r_op ha hb fun x y F1 e1 hx hy => by
    cases hx; cases hy
    refine fun F2 N H e2 A Q q => ⟨rfl, q _ F2 H (Same.refl _) A ?_⟩
    have e : decide (V.int i = V.int j) = decide (i = j) := by
      by_cases h : i = j
      · subst h; simp
      · simp [h]
    rw [e]; exact .bl _
theorem r_neI {ta tb : TE} {i j : Int} (ha : Run (ta σ) F L (Dt K (.int i))) (hb : Run (tb σ) F L (Dt K (.int j))) : Run (tOp rNe ta tb σ) F L (Dt K (.bool (!decide (i = j)))) :=
  r_op ha hb fun x y F1 e1 hx hy => by
    cases hx; cases hy
    refine fun F2 N H e2 A Q q => ⟨rfl, q _ F2 H (Same.refl _) A ?_⟩
    have e : decide (V.int i = V.int j) = decide (i = j) := by
      by_cases h : i = j
      · subst h; simp
      · simp [h]
    rw [e]; exact .bl _
/-! items -/
theorem r_ixT {ta tb : TE} {ds : List PyData} {n : Nat} {d : PyData} (ha : Run (ta σ) F L (Dt K (.tuple ds))) (hb : Run (tb σ) F L (Dt K (.int (n : Nat)))) (hd : ds[n]? = some d) : Run (tOp (rIxT K) ta tb σ) F L (Dt K d) :=
  r_op ha hb fun x y F1 e1 hx hy => by
    obtain ⟨a, vs, rfl, hs, hr⟩ := tp_dt.mpr hx
    cases hy
    have hn : n < vs.length := by rw [each_length hr, List.length_map]; exact (List.getElem?_eq_some_iff.mp hd).1
    obtain ⟨R', g1, g2⟩ := each_at hr (List.getElem?_eq_getElem hn)
    rw [List.getElem?_map, hd] at g1
    cases g1
    exact fun F2 N H e2 A Q q => ⟨a, vs, (n : Int), _, rfl, rfl, sqT_up (e2.trans A.ex) hs, atI_nat (List.getElem?_eq_getElem hn), q _ F2 H (Same.refl _) A (dp_up e2 g2)⟩
theorem r_ixL {ta tb : TE} {ds : List PyData} {n : Nat} {d : PyData} (ha : Run (ta σ) F L (Dt K (.list ds))) (hb : Run (tb σ) F L (Dt K (.int (n : Nat)))) (hd : ds[n]? = some d) : Run (tOp (rIxL K) ta tb σ) F L (Dt K d) :=
  r_op ha hb fun x y F1 e1 hx hy => by
    obtain ⟨a, vs, rfl, hs, hr⟩ := ls_dt.mpr hx
    cases hy
    have hn : n < vs.length := by rw [each_length hr, List.length_map]; exact (List.getElem?_eq_some_iff.mp hd).1
    obtain ⟨R', g1, g2⟩ := each_at hr (List.getElem?_eq_getElem hn)
    rw [List.getElem?_map, hd] at g1
    cases g1
    exact fun F2 N H e2 A Q q => ⟨a, vs, (n : Int), _, rfl, rfl, sqL_up (e2.trans A.ex) hs, atI_nat (List.getElem?_eq_getElem hn), q _ F2 H (Same.refl _) A (dp_up e2 g2)⟩
/-- arguments that a star hands on -/
theorem r_star {ta : TE} {ds : List PyData} (ha : Run (ta σ) F L (Dt K (.tuple ds))) (h : Run (t σ) F L (Each Rs)) : Run (tStar K ta t σ) F L (Each (ds.map (Dt K) ++ Rs)) := fun F1 N H e A Q q =>
  ha F1 N H e A _ fun x F2 H2 e2 A2 hx => by
    obtain ⟨a, vs, rfl, hs, hr⟩ := tp_dt.mpr hx
    exact ⟨a, vs, rfl, .inl (sqT_up A2.ex hs), h F2 N H2 (e.trans e2) A2 _ fun ys F3 H3 e3 A3 hy => q _ F3 H3 (e2.trans e3) A3 (each_app (Mono.go hr e3) hy)⟩
/-! comprehensions in short -/
section
variable {ι : Type} {Ri Re : ι → VP} {f : ι → Bool} {xs : List ι} {tt : TT} {wi : TI} {vs : List Nat} {j j1 j2 : Nat}
theorem r_lcN [∀ x, Mono (Re x)] (h : Run (wi σ) F L (fun J F1 => Seqs J (xs.map Ri) F1)) (hz : xs.length ≤ 40000) (hw : ∀ v, wipe ((wipe σ vs).set j (some v)) vs = wipe σ vs)
    (he : ∀ x v F1, Same F F1 → x ∈ xs → Ri x v F1 → Run (te ((wipe σ vs).set j (some v))) F1 L (Re x)) : Run (tLc wi (gName j) tYes te vs σ) F L (Ln (xs.map Re)) := by
  have q := r_lcG (f := fun _ => true) (g := gName j) (tt := tYes) (te := te) (vs := vs) h hz fun x v F1 e hx hv => rg_name (σ := wipe σ vs) fun F2 e2 => ⟨hw v, t_yes, fun _ => (he x v F1 e hx hv).up e2⟩
  rwa [show xs.filter (fun _ => true) = xs from List.filter_eq_self.mpr fun _ _ => rfl] at q
theorem r_lcP {R1 R2 : ι → VP} [∀ x, Mono (Re x)] [∀ x, Mono (R1 x)] [∀ x, Mono (R2 x)] (h : Run (wi σ) F L (fun J F1 => Seqs J (xs.map fun x => Tp K [R1 x, R2 x]) F1)) (hz : xs.length ≤ 40000) (hw : ∀ v u, wipe (((wipe σ vs).set j1 (some v)).set j2 (some u)) vs = wipe σ vs)
    (ht : ∀ x v u F1, Same F F1 → x ∈ xs → R1 x v F1 → R2 x u F1 → Run (tt (((wipe σ vs).set j1 (some v)).set j2 (some u))) F1 L (Eqv (f x)))
    (he : ∀ x v u F1, Same F F1 → x ∈ xs → R1 x v F1 → R2 x u F1 → f x = true → Run (te (((wipe σ vs).set j1 (some v)).set j2 (some u))) F1 L (Re x)) : Run (tLc wi (gTup K 2 (gCons (gName j1) (gCons (gName j2) gNil))) tt te vs σ) F L (Ln ((xs.filter f).map Re)) :=
  r_lcG (f := f) (tt := tt) (te := te) (vs := vs) h hz fun x v F1 e hx hv => rg_pair (σ := wipe σ vs) (R1 := R1 x) (R2 := R2 x) hv fun v1 v2 F2 e2 h1 h2 => ⟨hw v1 v2, ht x v1 v2 F2 (e.trans e2) hx h1 h2, fun hf => he x v1 v2 F2 (e.trans e2) hx h1 h2 hf⟩
theorem pairs_map {R0 : ι → VP} : Pairs K (xs.map R0) = xs.zipIdx.map fun p => Tp K [Dt K (.int ((p.2 : Nat) : Int)), R0 p.1] := by
  unfold Pairs
  rw [List.mapIdx_eq_zipIdx_map, List.zipIdx_map, List.map_map]
  rfl
end
end
end Rs

/-! Rs6: kinds of data, equality of rows. -/
namespace Rs
open PySem PySem.Spec PyProof.Rows L2 SlX StX
variable [Rs.Tabz]
def tyName : PyData → String
  | .none => "NoneType" | .bool _ => "bool" | .int _ => "int" | .str _ => "str" | .list _ => "list" | .tuple _ => "tuple" | .dict _ => "dict"
theorem ty_dt {K : PySem.W.Frag} {F : Hp} {d : PyData} {v : V} (h : Dp K F v d) : TyX K F v (.type (tyName d)) := by
  cases h with
  | non => exact .base .non
  | bl b => exact .base (.bl b)
  | int i => exact .base (.int i)
  | str x => exact .base (.str x)
  | lst s t =>
    rcases s with (s | ⟨o, s⟩) | ⟨o, its, n, hk, hc, hd, hs, hz, r⟩
    · exact .base (.lst s)
    · exact .base (.frz s)
    · exact .kList hk hc
  | tup s t =>
    rcases s with (s | ⟨o, s⟩) | ⟨o, its, n, hk, hc, hs, hz, r⟩
    · exact .base (.tup s)
    · exact .fTuple s
    · exact .kTuple hk hc
section
variable {K : PySem.W.Frag} {σ : L2.St} {F : Hp} {L : Cells} {t : TA}
theorem r_isiD {T : String} {d : PyData} {b : Bool} (h : Run (t σ) F L (Each [Dt K d, Eqv (.ty T)])) (hb : kitB (tyName d) T = some b) : Run (tCB (rIsi K) t σ) F L (Dt K (.bool b)) :=
  r_isi h (fun v F1 F2 H hv e1 e2 => ty_dt (dp_up e2 (dp_up e1 hv))) (kit_ty hb)
end
/-! ### rows of ints -/
theorem eqvAll_ints : ∀ {ns ms : List Int}, PyData.eqvAll (ns.map .int) (ms.map .int) = decide (ns = ms)
  | [], [] => rfl
  | [], _ :: _ => rfl
  | _ :: _, [] => rfl
  | n :: ns, m :: ms => by
    have ih := eqvAll_ints (ns := ns) (ms := ms)
    rw [List.map_cons, List.map_cons, PyData.eqvAll, ih, PyData.eqv]
    by_cases h : n = m
    · subst h; simp
    · simp [h]
theorem eqv_listI {ns ms : List Int} : PyData.eqv (.list (ns.map .int)) (.list (ms.map .int)) = decide (ns = ms) := by rw [PyData.eqv]; exact eqvAll_ints
theorem eqv_tupI {ns ms : List Int} : PyData.eqv (.tuple (ns.map .int)) (.tuple (ms.map .int)) = decide (ns = ms) := by rw [PyData.eqv]; exact eqvAll_ints
theorem eqvAll_of {α : Type} {f : α → PyData} [DecidableEq α] (h : ∀ a b, PyData.eqv (f a) (f b) = decide (a = b)) : ∀ {xs ys : List α}, PyData.eqvAll (xs.map f) (ys.map f) = decide (xs = ys)
  | [], [] => by simp [PyData.eqvAll]
  | [], _ :: _ => by simp [PyData.eqvAll]
  | _ :: _, [] => by simp [PyData.eqvAll]
  | n :: ns, m :: ms => by
    have ih := eqvAll_of h (xs := ns) (ys := ms)
    rw [List.map_cons, List.map_cons, PyData.eqvAll, ih, h]
    by_cases h : n = m
    · subst h; simp
    · simp [h]
theorem lay_ints : ∀ {ns : List Int}, PyData.canLayAll0 (ns.map .int) = true
  | [] => rfl
  | n :: ns => by rw [List.map_cons, PyData.canLayAll0, lay_ints]; rfl
theorem dep_ints : ∀ {ns : List Int}, PyData.depthAll (ns.map .int) = 0
  | [] => rfl
  | n :: ns => by rw [List.map_cons, PyData.depthAll, dep_ints]; rfl
theorem lay_all {α : Type} {f : α → PyData} (h : ∀ a, (f a).canLay0 = true) : ∀ {xs : List α}, PyData.canLayAll0 (xs.map f) = true
  | [] => rfl
  | x :: xs => by rw [List.map_cons, PyData.canLayAll0, h, lay_all h]; rfl
theorem dep_all {α : Type} {f : α → PyData} {k : Nat} (h : ∀ a, (f a).depth ≤ k) : ∀ {xs : List α}, PyData.depthAll (xs.map f) ≤ k
  | [] => Nat.zero_le _
  | x :: xs => by
    rw [List.map_cons, PyData.depthAll]
    exact Nat.max_le.mpr ⟨h x, dep_all h⟩
theorem shaped_of {d : PyData} (h1 : d.canLay0 = true) (h2 : d.depth ≤ 64) : SeqAt.shaped d = true := by
  unfold SeqAt.shaped; rw [h1, Bool.true_and]; exact decide_eq_true h2
theorem sh_listI {ns : List Int} : SeqAt.shaped (.list (ns.map .int)) = true := shaped_of (by rw [PyData.canLay0]; exact lay_ints) (by rw [PyData.depth, dep_ints]; decide)
end Rs

/-! Rs7: runs that change cells; dicts of one's own. -/
namespace Rs
open PySem PySem.Spec PyProof.Rows L2 SlX StX
variable [Rs.Tabz]
/-- k runs, the cells may be others behind it -/
def RunX {α : Type} (k : Hp → (α → Hp → Prop) → Prop) (F : Hp) (L : Cells) (P : α → Hp → Cells → Prop) : Prop :=
  ∀ F1 N H, Same F F1 → At F1 (L ++ N) H → ∀ Q : α → Hp → Prop, (∀ v F2 L2 H2, Same F1 F2 → At F2 (L2 ++ N) H2 → P v F2 L2 → Q v H2) → k H Q
section
variable {α β : Type} {k : Hp → (α → Hp → Prop) → Prop} {F F1 : Hp} {L : Cells} {R : α → Hp → Prop} {P P' : α → Hp → Cells → Prop}
theorem RunX.up (h : RunX k F L P) (e : Same F F1) : RunX k F1 L P := fun F2 N H e2 A Q q => h F2 N H (e.trans e2) A Q q
theorem Run.x (h : Run k F L R) (hp : ∀ v F2, Same F F2 → R v F2 → P v F2 L) : RunX k F L P := fun F1 N H e A Q q => h F1 N H e A Q fun v F2 H2 e2 A2 r => q v F2 L H2 e2 A2 (hp v F2 (e.trans e2) r)
theorem x_ret {v : α} (h : ∀ F1, Same F F1 → P v F1 L) : RunX (fun H Q => Q v H) F L P := fun F1 N H e A Q q => q v F1 L H (Same.refl _) A (h F1 e)
theorem RunX.perm {L' : Cells} (h : RunX k F L' P) (p : L.Perm L') : RunX k F L P := fun F1 N H e A Q q => h F1 N H e (A.perm (List.Perm.append_right N p)) Q q
theorem At.mem {H : Hp} {N : Cells} {p : Addr × HO} (A : At F (L ++ N) H) (h : p ∈ L) : H p.1 = some p.2 := A.on p (List.mem_append_left _ h)
end
section
variable {K : PySem.W.Frag} {σ : L2.St} {F : Hp} {L : Cells} {R : VP} {Rs : List VP} {t tr ta : TA} {te td ty tv : TE} {Px : V → Hp → Cells → Prop} {Pa : List V → Hp → Cells → Prop} {Nx : L2.St → Hp → Cells → Prop} {Rt : VP} {u : TS} {i j : Nat}
theorem x_cons {S : List V → Hp → Cells → Prop} (h : RunX (te σ) F L Px) (hr : ∀ v F1 L1, Same F F1 → Px v F1 L1 → RunX (tr σ) F1 L1 (fun vs F2 L2 => S (v :: vs) F2 L2)) : RunX (tCons te tr σ) F L S := fun F1 N H e A Q q =>
  h F1 N H e A _ fun v F2 L2 H2 e2 A2 p => hr v F2 L2 (e.trans e2) p F2 N H2 (Same.refl _) A2 _ fun vs F3 L3 H3 e3 A3 s => q (v :: vs) F3 L3 H3 (e2.trans e3) A3 s
/-- [..], a list of one's own -/
theorem x_lst [MonoL Rs] (h : Run (t σ) F L (Each Rs)) (hl : Rs.length ≤ 100000) : RunX (tLst t σ) F L (fun v F1 L1 => ∃ p vs, v = .ref p ∧ Each Rs vs F1 ∧ L1 = (p, .lst vs) :: L) := fun F1 N H e A Q q =>
  h F1 N H e A _ fun vs F2 H2 e2 A2 hv => ⟨len_ok (by rw [each_length hv]; exact hl), fun p hp => q _ F2 ((p, .lst vs) :: L) _ e2 (A2.cell hp) ⟨p, vs, rfl, hv, rfl⟩⟩
/-- {k: v}, a dict of one's own -/
theorem x_disp1 {n : Int} {v : V} (hk : Run (ty σ) F L (Dt K (.int n))) (hv : Run (tv σ) F L (Eqv v)) : RunX (tDisp [(ty, tv)] σ) F L (fun x F1 L1 => ∃ p, x = .ref p ∧ L1 = (p, .dK [(Sum.inl n, v)]) :: L) := fun F1 N H e A Q q p hp => by
  have A1 : At F1 (L ++ ((p, .dK []) :: N)) (upd H p (.dK [])) := (A.cell (o := .dK []) hp).perm List.perm_middle.symm
  refine hk F1 _ _ e A1 _ fun x F2 H2 e2 A2 hx => hv F2 _ H2 (e.trans e2) A2 _ fun y F3 H3 e3 A3 hy => ?_
  cases hx
  cases hy
  have A4 : At F3 ((p, .dK []) :: (L ++ N)) H3 := A3.perm List.perm_middle
  refine ⟨A4.on1, [(Sum.inl n, v)], rfl, by simp, ?_⟩
  exact q _ F3 ((p, .dK [(Sum.inl n, v)]) :: L) _ (e2.trans e3) A4.put ⟨p, rfl, rfl⟩
theorem q_setX (h : RunX (te σ) F L Px) (k : ∀ v F1 L1, Same F F1 → Px v F1 L1 → RunS u (σ.set i (some v)) F1 L1 Nx Rt) : RunS (tSeq (tAsg te (gName i)) u) σ F L Nx Rt := fun F1 N H e A D q r =>
  h F1 N H e A _ fun v F2 L2 H2 e2 A2 hv => k v F2 L2 (e.trans e2) hv F2 N H2 (Same.refl _) A2 D (fun σ3 F3 L3 H3 e3 A3 n => q σ3 F3 L3 H3 (e2.trans e3) A3 n) fun w F3 H3 e3 A3 n => r w F3 H3 (e2.trans e3) A3 n
theorem q_par {S : V → V → Hp → Cells → Prop} (h : RunX (t σ) F L (fun vs F1 L1 => ∃ v w, vs = [v, w] ∧ S v w F1 L1)) (k : ∀ v w F1 L1, Same F F1 → S v w F1 L1 → RunS u ((σ.set i (some v)).set j (some w)) F1 L1 Nx Rt) : RunS (tSeq (tPar i j t) u) σ F L Nx Rt := fun F1 N H e A D q r =>
  h F1 N H e A _ fun vs F2 L2 H2 e2 A2 ⟨v, w, hvs, hs⟩ => ⟨v, w, hvs, k v w F2 L2 (e.trans e2) hs F2 N H2 (Same.refl _) A2 D (fun σ3 F3 L3 H3 e3 A3 n => q σ3 F3 L3 H3 (e2.trans e3) A3 n) fun w F3 H3 e3 A3 n => r w F3 H3 (e2.trans e3) A3 n⟩
/-- l.pop() -/
theorem x_pop {l : Addr} {xs : List V} {y : V} (hl : Run (te σ) F ((l, .lst (xs ++ [y])) :: L) (Eqv (.ref l))) : RunX (tBM0 K "list" rPop te σ) F ((l, .lst (xs ++ [y])) :: L) (fun v F1 L1 => v = y ∧ L1 = (l, .lst xs) :: L) := fun F1 N H e A Q q =>
  hl F1 N H e A _ fun v F2 H2 e2 A2 hv => by
    cases hv
    refine ⟨.inl ⟨rfl, _, .inl (.inl (At.on1 A2))⟩, l, _, y, rfl, rfl, At.on1 A2, by simp, ?_⟩
    have q2 := q y F2 ((l, .lst xs) :: L) _ e2 (At.put (u := .lst xs) A2) ⟨rfl, rfl⟩
    rwa [List.dropLast_concat]
theorem r_dnotin {d : Addr} {kvs : List (Key × V)} {n : Int} (hm : (d, HO.dK kvs) ∈ L) (hk : Run (ty σ) F L (Dt K (.int n))) (hd : Run (td σ) F L (Eqv (.ref d))) : Run (tDNotIn ty td σ) F L (Dt K (.bool (!(valV kvs (Sum.inl n)).isSome))) := fun F1 N H e A Q q =>
  hk F1 N H e A _ fun x F2 H2 e2 A2 hx => hd F2 N H2 (e.trans e2) A2 _ fun y F3 H3 e3 A3 hy => by
    cases hx
    cases hy
    exact ⟨d, _, rfl, DGet.k (k := Sum.inl n) (At.mem A3 hm), q _ F3 H3 (e2.trans e3) A3 (.bl _)⟩
/-- d[k] = v -/
theorem q_dput {d : Addr} {kvs : List (Key × V)} {n : Int} {v : V} (hv : Run (tv σ) F ((d, .dK kvs) :: L) (Eqv v)) (hd : Run (td σ) F ((d, .dK kvs) :: L) (Eqv (.ref d))) (hk : Run (ty σ) F ((d, .dK kvs) :: L) (Dt K (.int n))) (hl : kvs.length < 100000)
    (k : ∀ F1, Same F F1 → RunS u σ F1 ((d, .dK (putK kvs (Sum.inl n) v)) :: L) Nx Rt) : RunS (tSeq (sDPut td ty tv) u) σ F ((d, .dK kvs) :: L) Nx Rt := fun F1 N H e A D q r =>
  hv F1 N H e A _ fun x F2 H2 e2 A2 hx => hd F2 N H2 (e.trans e2) A2 _ fun y F3 H3 e3 A3 hy => hk F3 N H3 ((e.trans e2).trans e3) A3 _ fun z F4 H4 e4 A4 hz => by
    cases hx
    cases hy
    cases hz
    refine ⟨d, _, rfl, DPut.k (k := Sum.inl n) (At.on1 A4) (len_lt hl), ?_⟩
    exact k F4 (((e.trans e2).trans e3).trans e4) F4 N _ (Same.refl _) (At.put A4) D (fun σ5 F5 L5 H5 e5 A5 n => q σ5 F5 L5 H5 (((e2.trans e3).trans e4).trans e5) A5 n) fun w F5 H5 e5 A5 n => r w F5 H5 (((e2.trans e3).trans e4).trans e5) A5 n
/-- sorted(d), d by ints -/
theorem r_sortedDI {d : Addr} {kvs : List (Key × V)} {ks : List Int} (hm : (d, HO.dK kvs) ∈ L) (h : Run (t σ) F L (Each [Eqv (.ref d)])) (hk : kvs.map (·.1) = ks.map Sum.inl) (hl : ks.length < 64) (os : List Int) (h1 : os.Perm ks) (h2 : os.Pairwise (· ≤ ·)) : Run (tCB rSortedDI t σ) F L (Dt K (.list (os.map .int))) := r_cb h fun vs F1 e1 hv => by
  obtain ⟨v, rfl, hv1⟩ := each1 hv
  cases hv1
  refine fun F2 N H e A Q q => ⟨d, kvs, ks, rfl, .inl (At.mem A hm), hk, hl, fun ms p hp hmm hn => q _ (upd F2 p _) _ (same_new (A.free hn)) (A.new hn) ?_⟩
  have e : ms = os := List.Perm.eq_of_pairwise (le := (· ≤ ·)) (fun a b _ _ x y => Int.le_antisymm x y) hmm h2 (hp.trans h1.symm)
  rw [e]
  exact .lst (.inl (.inl upd_same)) ints_vs
end
end Rs

/-! Ma: rows of houses, ways. -/
namespace Ma
open PySem
abbrev Rows := List (List Nat)
abbrev nI (n : Nat) : PyData := .int (n : Int)
abbrev dRow (r : List Nat) : PyData := .tuple (r.map nI)
abbrev dRows (rs : Rows) : PyData := .tuple (rs.map dRow)
abbrev Asc (r : List Nat) : Prop := r.Pairwise (· < ·)
/-- the rows of a web -/
structure Ok (rs : Rows) : Prop where
  pos : 1 ≤ rs.length
  le : rs.length ≤ 5
  asc : ∀ r ∈ rs, Asc r
  lt : ∀ r ∈ rs, ∀ x ∈ r, x < rs.length
  ne : ∀ (i : Nat) r, rs[i]? = some r → i ∉ r
abbrev row (rs : Rows) (y : Nat) : List Nat := rs.getD y []
theorem get_row {rs : Rows} {y : Nat} (h : y < rs.length) : rs[y]? = some (row rs y) := by
  rw [row, List.getD_eq_getElem?_getD, List.getElem?_eq_getElem h]; rfl
theorem Ok.row_asc {rs : Rows} (o : Ok rs) (y : Nat) : Asc (row rs y) := by
  by_cases h : y < rs.length
  · exact o.asc _ (List.mem_of_getElem? (get_row h))
  · rw [row, List.getD_eq_getElem?_getD, List.getElem?_eq_none (by omega)]; exact .nil
theorem Ok.row_lt {rs : Rows} (o : Ok rs) {y x : Nat} (h : x ∈ row rs y) : x < rs.length := by
  by_cases hy : y < rs.length
  · exact o.lt _ (List.mem_of_getElem? (get_row hy)) x h
  · rw [row, List.getD_eq_getElem?_getD, List.getElem?_eq_none (by omega)] at h; cases h
theorem Ok.row_ne {rs : Rows} (o : Ok rs) {y : Nat} : y ∉ row rs y := by
  by_cases hy : y < rs.length
  · exact o.ne y _ (get_row hy)
  · rw [row, List.getD_eq_getElem?_getD, List.getElem?_eq_none (by omega)]; simp
/-- ways lead from h to y -/
inductive Reach (rs : Rows) (h : Nat) : Nat → Prop
  | refl : Reach rs h h
  | step {x y : Nat} : Reach rs h x → y < rs.length → x ∈ row rs y → Reach rs h y
open Classical in
noncomputable def reachL (rs : Rows) (h : Nat) : List Nat := (List.range rs.length).filter fun y => decide (Reach rs h y)
open Classical in
theorem mem_reachL {rs : Rows} {h y : Nat} : y ∈ reachL rs h ↔ y < rs.length ∧ Reach rs h y := by
  unfold reachL
  rw [List.mem_filter, List.mem_range, decide_eq_true_eq]
theorem asc_range (n : Nat) : Asc (List.range n) := List.pairwise_lt_range
theorem asc_reachL {rs : Rows} {h : Nat} : Asc (reachL rs h) := (asc_range _).filter _
theorem asc_nodup {l : List Nat} (h : Asc l) : l.Nodup := h.imp fun x => Nat.ne_of_lt x
theorem asc_one {l m : List Nat} (h1 : Asc l) (h2 : Asc m) (h : ∀ k, k ∈ l ↔ k ∈ m) : l = m :=
  List.Perm.eq_of_pairwise (le := (· < ·)) (fun a b _ _ x y => absurd x (Nat.lt_asymm y)) h1 h2 ((List.perm_ext_iff_of_nodup (asc_nodup h1) (asc_nodup h2)).mpr h)
/-! ### the search -/
open Classical in
/-- who hears here among the first i houses, and is not found -/
noncomputable def newOf (rs : Rows) (here : Nat) (f : List Nat) (i : Nat) : List Nat := (List.range i).filter fun y => decide (here ∈ row rs y ∧ y ∉ f)
theorem mem_new {rs : Rows} {here : Nat} {f : List Nat} {i y : Nat} : y ∈ newOf rs here f i ↔ y < i ∧ here ∈ row rs y ∧ y ∉ f := by
  unfold newOf
  rw [List.mem_filter, List.mem_range, decide_eq_true_eq]
theorem new_yes {rs : Rows} {here : Nat} {f : List Nat} {i : Nat} (h : here ∈ row rs i ∧ i ∉ f) : newOf rs here f (i + 1) = newOf rs here f i ++ [i] := by
  unfold newOf
  rw [List.range_succ, List.filter_append]
  congr 1
  rw [List.filter_cons, decide_eq_true h]; rfl
theorem new_no {rs : Rows} {here : Nat} {f : List Nat} {i : Nat} (h : ¬ (here ∈ row rs i ∧ i ∉ f)) : newOf rs here f (i + 1) = newOf rs here f i := by
  unfold newOf
  rw [List.range_succ, List.filter_append, List.filter_cons, decide_eq_false h]
  simp
structure Dfs (rs : Rows) (h : Nat) (f wt : List Nat) : Prop where
  nd : f.Nodup
  mem : h ∈ f
  lt : ∀ x ∈ f, x < rs.length
  re : ∀ x ∈ f, Reach rs h x
  sub : ∀ x ∈ wt, x ∈ f
  cl : ∀ x ∈ f, x ∉ wt → ∀ y, y < rs.length → x ∈ row rs y → y ∈ f
theorem Dfs.start {rs : Rows} {h : Nat} (hh : h < rs.length) : Dfs rs h [h] [h] :=
  ⟨by simp, by simp, by simp [hh], fun x hx => by rw [List.mem_singleton.mp hx]; exact .refl, fun x hx => hx, fun x hx hn => absurd hx hn⟩
theorem Dfs.next {rs : Rows} {h here : Nat} {f wt : List Nat} (D : Dfs rs h f (wt ++ [here])) : Dfs rs h (f ++ newOf rs here f rs.length) (wt ++ newOf rs here f rs.length) := by
  have hf : here ∈ f := D.sub _ (by simp)
  refine ⟨?_, List.mem_append_left _ D.mem, fun x hx => ?_, fun x hx => ?_, fun x hx => ?_, fun x hx hn y hy hxy => ?_⟩
  · refine List.nodup_append.mpr ⟨D.nd, ?_, fun a ha b hb e => ?_⟩
    · unfold newOf; exact List.nodup_range.filter _
    · subst e; exact (mem_new.mp hb).2.2 ha
  · rcases List.mem_append.mp hx with z | z
    · exact D.lt x z
    · exact (mem_new.mp z).1
  · rcases List.mem_append.mp hx with z | z
    · exact D.re x z
    · have q := mem_new.mp z
      exact .step (D.re _ hf) q.1 q.2.1
  · rcases List.mem_append.mp hx with z | z
    · exact List.mem_append_left _ (D.sub x (List.mem_append_left _ z))
    · exact List.mem_append_right _ z
  · rw [List.mem_append, not_or] at hn
    rcases List.mem_append.mp hx with z | z
    · by_cases e : x = here
      · subst e
        by_cases hyf : y ∈ f
        · exact List.mem_append_left _ hyf
        · exact List.mem_append_right _ (mem_new.mpr ⟨hy, hxy, hyf⟩)
      · refine List.mem_append_left _ (D.cl x z (fun w => ?_) y hy hxy)
        rcases List.mem_append.mp w with w | w
        · exact hn.1 w
        · exact e (List.mem_singleton.mp w)
    · exact absurd z hn.2
theorem nodup_len : ∀ (n : Nat) (f : List Nat), f.Nodup → (∀ x ∈ f, x < n) → f.length ≤ n
  | 0, [], _, _ => Nat.le_refl _
  | 0, x :: _, _, h => absurd (h x List.mem_cons_self) (Nat.not_lt_zero _)
  | n + 1, f, h1, h2 => by
    have ih := nodup_len n (f.erase n) (h1.erase n) fun x hx => by
      have q := (List.Nodup.mem_erase_iff h1).mp hx
      have := h2 x q.2
      omega
    rw [List.length_erase] at ih
    split at ih <;> omega
theorem Dfs.len {rs : Rows} {h : Nat} {f wt : List Nat} (D : Dfs rs h f wt) : f.length ≤ rs.length := nodup_len _ _ D.nd D.lt
theorem Dfs.done {rs : Rows} {h : Nat} {f : List Nat} (D : Dfs rs h f []) {x : Nat} : x ∈ f ↔ x ∈ reachL rs h := by
  rw [mem_reachL]
  constructor
  · exact fun hx => ⟨D.lt x hx, D.re x hx⟩
  · rintro ⟨h0, r⟩
    clear h0
    induction r with
    | refl => exact D.mem
    | step r hy hxy ih => exact D.cl _ ih (by simp) _ hy hxy
theorem Dfs.perm {rs : Rows} {h : Nat} {f : List Nat} (D : Dfs rs h f []) : (reachL rs h).Perm f :=
  (List.perm_ext_iff_of_nodup (asc_nodup asc_reachL) D.nd).mpr fun x => D.done.symm
end Ma

/-! Rn: runs over rows of houses. -/
namespace Rs
open PySem PySem.Spec PyProof.Rows L2 SlX StX Ma
variable [Rs.Tabz]
abbrev cI (r : List Nat) : List Int := r.map fun (n : Nat) => (n : Int)
theorem row_int {r : List Nat} : r.map nI = (cI r).map PyData.int := by rw [List.map_map]; rfl
theorem dRow_int {r : List Nat} : dRow r = .tuple ((cI r).map PyData.int) := congrArg PyData.tuple row_int
theorem mem_cI {r : List Nat} {n : Nat} : ((n : Int) ∈ cI r) ↔ n ∈ r := by
  rw [cI, List.mem_map]
  constructor
  · rintro ⟨a, h, e⟩
    have e' : a = n := by omega
    rw [← e']; exact h
  · exact fun h => ⟨n, h, rfl⟩
theorem asc_cI {r : List Nat} (h : Asc r) : (cI r).Pairwise (· < ·) := List.pairwise_map.mpr (h.imp fun x => by omega)
theorem cI_inj {r q : List Nat} : cI r = cI q ↔ r = q := by
  constructor
  · intro h
    have := congrArg (List.map Int.toNat) h
    simpa [cI, List.map_map, Function.comp_def] using this
  · intro h; rw [h]
section
variable {K : PySem.W.Frag} {w : World} {σ : L2.St} {F : Hp} {L : Cells} {R : VP} {Rs : List VP} {t : TA} {te ta tb : TE}
theorem seqI_row {r : List Nat} {v : V} {F1 : Hp} (h : Dt K (dRow r) v F1) : seqI (cI r) v F1 K := seqI_t (dRow_int ▸ h)
theorem r_inN {i : Nat} {r : List Nat} (ha : Run (ta σ) F L (Dt K (nI i))) (hb : Run (tb σ) F L (Dt K (dRow r))) : Run (tOp (rIn K false) ta tb σ) F L (Dt K (.bool (decide (i ∈ r)))) :=
  r_is (r_in ha hb fun v F1 h => seqI_row h) (congrArg PyData.bool (decide_eq_decide.mpr mem_cI))
theorem r_notInN {i : Nat} {r : List Nat} (ha : Run (ta σ) F L (Dt K (nI i))) (hb : Run (tb σ) F L (Dt K (dRow r))) : Run (tOp (rIn K true) ta tb σ) F L (Dt K (.bool (!decide (i ∈ r)))) :=
  r_is (r_notIn ha hb fun v F1 h => seqI_row h) (congrArg (fun b => PyData.bool (!b)) (decide_eq_decide.mpr mem_cI))
theorem r_eqN {i j : Nat} (ha : Run (ta σ) F L (Dt K (nI i))) (hb : Run (tb σ) F L (Dt K (nI j))) : Run (tOp rEq ta tb σ) F L (Dt K (.bool (decide (i = j)))) :=
  r_is (r_eqI ha hb) (congrArg PyData.bool (decide_eq_decide.mpr (by omega)))
theorem r_neN {i j : Nat} (ha : Run (ta σ) F L (Dt K (nI i))) (hb : Run (tb σ) F L (Dt K (nI j))) : Run (tOp rNe ta tb σ) F L (Dt K (.bool (!decide (i = j)))) :=
  r_is (r_neI ha hb) (congrArg (fun b => PyData.bool (!b)) (decide_eq_decide.mpr (by omega)))
theorem r_lnN {α : Type} {f : α → PyData} {xs : List α} (h : Run (t σ) F L (Each [Dt K (.tuple (xs.map f))])) : Run (tCB (rLn K) t σ) F L (Dt K (nI xs.length)) := by
  have q := r_lnTD h
  rwa [List.length_map] at q
/-- the row of a house -/
theorem r_rowN {rs : Rows} {n : Nat} (ha : Run (ta σ) F L (Dt K (dRows rs))) (hb : Run (tb σ) F L (Dt K (nI n))) (hn : n < rs.length) : Run (tOp (rIxT K) ta tb σ) F L (Dt K (dRow (row rs n))) :=
  r_ixT ha hb (by rw [List.getElem?_map, get_row hn]; rfl)
theorem pairs_get {ds : List PyData} {i : Nat} {S : VP} (h : (Pairs K (ds.map (Dt K)))[i]? = some S) : ∃ d, ds[i]? = some d ∧ S = Tp K [Dt K (nI i), Dt K d] := by
  unfold Pairs at h
  rw [List.getElem?_mapIdx, List.getElem?_map] at h
  cases e : ds[i]? with
  | none => rw [e] at h; cases h
  | some d =>
    rw [e] at h
    cases h
    exact ⟨d, rfl, rfl⟩
theorem pairs_len {Rs : List VP} : (Pairs K Rs).length = Rs.length := by unfold Pairs; rw [List.length_mapIdx]
end
/-! ### dicts by houses -/
def kvT (f : List Nat) : List (Key × V) := f.map fun (x : Nat) => ((Sum.inl (x : Int) : Key), V.bl true)
theorem kvT_val {f : List Nat} {n : Nat} : (valV (kvT f) (Sum.inl (n : Int))).isSome = decide (n ∈ f) := by
  induction f with
  | nil => rfl
  | cons a f ih =>
    show (valV (((Sum.inl (a : Int) : Key), V.bl true) :: kvT f) _).isSome = _
    by_cases h : a = n
    · subst h; rw [valV_pos rfl]; simp
    · rw [valV_neg (fun z => h (by have := Sum.inl.inj z; omega)), ih]
      have h' : ¬ n = a := fun z => h z.symm
      simp [h']
theorem kvT_put {f : List Nat} {n : Nat} (h : n ∉ f) : putK (kvT f) (Sum.inl (n : Int)) (V.bl true) = kvT (f ++ [n]) := by
  rw [putK_new _ (by
    cases e : valV (kvT f) (Sum.inl (n : Int) : Key) with
    | none => rfl
    | some v =>
      have q := kvT_val (f := f) (n := n)
      rw [e, decide_eq_false h] at q
      cases q)]
  unfold kvT
  rw [List.map_append]; rfl
theorem kvT_len {f : List Nat} : (kvT f).length = f.length := by unfold kvT; rw [List.length_map]
abbrev vN (w : List Nat) : List V := w.map fun (n : Nat) => V.int (n : Int)
end Rs

/-! Rs8: objects with slots: made, told, asked. -/
namespace Rs
open PySem PySem.Spec PyProof.Rows L2 SlX StX
variable [Rs.Tabz]
/-- the slots is of vs are xs -/
def Got (is : List Nat) (xs : List V) (vs : List (Option V)) : Prop := is.length = xs.length ∧ ∀ (k i : Nat) (x : V), is[k]? = some i → xs[k]? = some x → vs[i]? = some (some x)
theorem got_nil : Got [] [] [] := ⟨rfl, fun k i x h => by cases h⟩
theorem Got.put {is : List Nat} {xs : List V} {vs : List (Option V)} {i : Nat} {x : V} (g : Got is xs vs) (h : i ∉ is) : Got (is ++ [i]) (xs ++ [x]) (putS i x vs) := by
  refine ⟨by rw [List.length_append, List.length_append, g.1]; rfl, fun k j y hk hy => ?_⟩
  by_cases hl : k < is.length
  · rw [List.getElem?_append_left hl] at hk
    rw [List.getElem?_append_left (by rw [← g.1]; exact hl)] at hy
    have hne : j ≠ i := fun z => h (z ▸ List.mem_of_getElem? hk)
    exact (putS_ne hne).mpr (g.2 k j y hk hy)
  · rw [List.getElem?_append_right (by omega)] at hk
    rw [List.getElem?_append_right (by rw [← g.1]; omega)] at hy
    have e0 : k - is.length = 0 := by
      cases z : k - is.length with
      | zero => rfl
      | succ m => rw [z] at hk; cases hk
    rw [e0] at hk
    rw [← g.1, e0] at hy
    cases hk; cases hy
    exact putS_get i x vs
/-- an object of the class at C with slots stands -/
def Ob (C : Addr) (is : List Nat) (Rs : List VP) : VP := fun v F => ∃ a dx vs xs, v = .ref a ∧ F a = some (SlO a C dx vs) ∧ F dx = some (.xd []) ∧ Got is xs vs ∧ Each Rs xs F
instance {C : Addr} {is : List Nat} {Rs : List VP} [MonoL Rs] : Mono (Ob C is Rs) := ⟨fun _ _ _ e ⟨a, dx, vs, xs, h, h1, h2, g, r⟩ => ⟨a, dx, vs, xs, h, e _ _ h1, e _ _ h2, g, MonoL.mono _ _ _ e r⟩⟩
def IsOb (C : Addr) : VP := fun v F => ∃ a dx vs, v = .ref a ∧ F a = some (SlO a C dx vs) ∧ F dx = some (.xd [])
instance {C : Addr} : Mono (IsOb C) := ⟨fun _ _ _ e ⟨a, dx, vs, h, h1, h2⟩ => ⟨a, dx, vs, h, e _ _ h1, e _ _ h2⟩⟩
theorem Ob.is {C : Addr} {is : List Nat} {Rs : List VP} {v : V} {F : Hp} (h : Ob C is Rs v F) : IsOb C v F := by
  obtain ⟨a, dx, vs, xs, h, h1, h2, _⟩ := h
  exact ⟨a, dx, vs, h, h1, h2⟩
theorem at_slt {C a dx : Addr} {vs : List (Option V)} {F H : Hp} {L : Cells} (A : At F L H) (h1 : F a = some (SlO a C dx vs)) (h2 : F dx = some (.xd [])) : Slt H a C dx vs := .inr ⟨A.ex _ _ h1, A.ex _ _ h2⟩
/-- a slot of the text -/
def SlF (K : PySem.W.Frag) (C : Addr) (f : Str) (i : Nat) : Prop := SCls K C ∧ ∃ p, Slot1 K C f p i
section
variable {K : PySem.W.Frag} {σ : L2.St} {F : Hp} {L : Cells} {Nx : L2.St → Hp → Cells → Prop} {Rt R : VP} {Rs : List VP} {t u : TS} {ta tv te : TE} {tt : TA} {C : Addr} {is : List Nat} {f : Str} {i : Nat} {E : XK}
theorem r_fld [MonoL Rs] {k : Nat} (s : SlF K C f i) (h : Run (ta σ) F L (Ob C is Rs)) (hk : is[k]? = some i) (hR : Rs[k]? = some R) : Run (tSl K ta f σ) F L R := fun F1 N H e A Q q => by
  refine h F1 N H e A _ fun v F2 H2 e2 A2 hv => ?_
  obtain ⟨a, dx, vs, xs, rfl, h1, h2, g, r⟩ := hv
  obtain ⟨sc, p, sp⟩ := s
  have hl : k < xs.length := by rw [← g.1]; exact (List.getElem?_eq_some_iff.mp hk).1
  obtain ⟨R', hR', hx⟩ := each_at r (List.getElem?_eq_getElem hl)
  rw [hR] at hR'
  cases hR'
  exact ⟨a, C, dx, p, vs, i, xs[k], rfl, at_slt A2 h1 h2, sc, sp, g.2 k i _ hk (List.getElem?_eq_getElem hl), q _ F2 H2 e2 A2 hx⟩
/-- of an object that is still one's own -/
theorem r_sown {a dx : Addr} {vs : List (Option V)} {v : V} [Mono R] (s : SlF K C f i) (h : Run (ta σ) F L (Eqv (.ref a))) (m1 : (a, SlO a C dx vs) ∈ L) (m2 : (dx, HO.xd []) ∈ L) (hv : vs[i]? = some (some v)) (hR : R v F) : Run (tSl K ta f σ) F L R := fun F1 N H e A Q q => by
  refine h F1 N H e A _ fun v F2 H2 e2 A2 hv' => ?_
  obtain rfl : v = .ref a := hv'
  obtain ⟨sc, p, sp⟩ := s
  exact ⟨a, C, dx, p, vs, i, _, rfl, .inr ⟨A2.mem m1, A2.mem m2⟩, sc, sp, hv, q _ F2 H2 e2 A2 (Mono.go hR (e.trans e2))⟩
inductive SCell (a C dx : Addr) : List (Option V) → HO → HO → Prop
  | new : SCell a C dx [] (.ins C dx []) (.own a)
  | old (vs : List (Option V)) : SCell a C dx vs (SlO a C dx vs) (.xd [])
theorem SCell.slt {a C dx : Addr} {vs : List (Option V)} {o o2 : HO} {H : Hp} (c : SCell a C dx vs o o2) (h1 : H a = some o) (h2 : H dx = some o2) : Slt H a C dx vs := by
  cases c with
  | new => exact .inl ⟨h1, rfl⟩
  | old => exact .inr ⟨h1, h2⟩
theorem s_slset [Mono R] {a dx : Addr} {vs : List (Option V)} {o o2 : HO} (s : SlF K C f i) (hc : SCell a C dx vs o o2) (ho : Run (ta σ) F ((a, o) :: (dx, o2) :: L) (Eqv (.ref a))) (hv : Run (tv σ) F ((a, o) :: (dx, o2) :: L) R)
    (k : ∀ v F1, Same F F1 → R v F1 → Nx σ F1 ((a, SlO a C dx (putS i v vs)) :: (dx, .xd []) :: L)) : RunS (sSl K ta tv f) σ F ((a, o) :: (dx, o2) :: L) Nx Rt := fun F1 N H e A D q r => by
  refine hv F1 N H e A _ fun v F2 H2 e2 A2 hv => ?_
  refine (ho.up (e.trans e2)) F2 N H2 (Same.refl _) A2 _ fun x F3 H3 e3 A3 hx => ?_
  obtain rfl : x = .ref a := hx
  obtain ⟨sc, p, sp⟩ := s
  refine ⟨a, C, dx, p, vs, i, rfl, hc.slt (A3.on _ List.mem_cons_self) (A3.on _ (List.mem_cons_of_mem _ List.mem_cons_self)), sc, sp, ?_⟩
  have A4 : At F3 ((a, SlO a C dx (putS i v vs)) :: (dx, .xd []) :: (L ++ N)) (slH H3 a C dx (putS i v vs)) := At.put (((A3.perm (List.Perm.swap _ _ _)).put (u := .xd [])).perm (List.Perm.swap _ _ _)) (by intro _ z; unfold SlO at z; nomatch z) (by intro _ z; unfold SlO at z; nomatch z) (fun c q => codeT_ne fun h ⟨sl, h1, _⟩ => ⟨_, _, h1, fun vs z => by cases z⟩)
  exact q σ F3 _ _ (e2.trans e3) A4 (k v F3 (e.trans (e2.trans e3)) (Mono.go hv e3))
theorem q_slset [Mono R] {a dx : Addr} {vs : List (Option V)} {o o2 : HO} (s : SlF K C f i) (hc : SCell a C dx vs o o2) (ho : Run (ta σ) F ((a, o) :: (dx, o2) :: L) (Eqv (.ref a))) (hv : Run (tv σ) F ((a, o) :: (dx, o2) :: L) R)
    (k : ∀ v F1, Same F F1 → R v F1 → RunS u σ F1 ((a, SlO a C dx (putS i v vs)) :: (dx, .xd []) :: L) Nx Rt) : RunS (tSeq (sSl K ta tv f) u) σ F ((a, o) :: (dx, o2) :: L) Nx Rt :=
  s_seq (Mid := fun σ' F' L' => ∃ v, σ' = σ ∧ R v F' ∧ L' = (a, SlO a C dx (putS i v vs)) :: (dx, .xd []) :: L) (s_slset s hc ho hv fun v F1 e hr => ⟨v, rfl, hr, rfl⟩) fun σ' F' L' e ⟨v, h1, h2, h3⟩ => by
    subst h1; subst h3; exact k v F' e h2
/-! made -/
def SpI {γ : Type} (C : Addr) (pre : γ → Prop) (Rs : γ → List VP) (R : γ → VP) : Sp := fun vs H Q _ => ∃ g F N a dx ws, vs = .ref a :: ws ∧ pre g ∧ At F ((a, .ins C dx []) :: (dx, .own a) :: N) H ∧ Each (Rs g) ws F ∧ ∀ F' H', Same F F' → At F' N H' → R g (.ref a) F' → Q .non H'
theorem r_mk {γ : Type} {pre : γ → Prop} {Rs : γ → List VP} {R : γ → VP} (g : γ) (hp : pre g) [MonoL (Rs g)] (h : Run (tt σ) F L (Each (Rs g))) : Run (tMake C (SpI C pre Rs R) [] E tt σ) F L (R g) := run_bind (k := tt σ) h fun vs F1 e1 hv => fun F2 N H e2 A Q q x dx h1 h2 h3 => by
  rw [List.append_nil]
  refine ⟨g, F2, L ++ N, x, dx, vs, rfl, hp, ?_, MonoL.mono _ _ _ e2 hv, fun F' H' e' A' hr => ⟨rfl, q _ F' H' e' A' hr⟩⟩
  refine (A.cell (o := .own x) h2).cell (o := .ins C dx []) (a := x) ?_
  rw [upd_ne h3.symm]; exact h1
end
structure MkF (P : Program) (w : World) (K : PySem.W.Frag) (mg : Str → Option Value) (base : Heap) (k : Nat) (x : Str) (C : Addr) (sp : Sp) : Prop where
  ex : ∃ f fd ps, Mk K C f ∧ FnOk P w K mg base CX0 k f fd ps sp ∧ mg x = some (.ref C) ∧ Binds K fd ps []
section
variable {X : Cx} {e o : Expr} {es : List Expr} {t : TA} {ta : TE} {p pos apos : Pos} {f x m : Str}
theorem p_mk {k j : Nat} {C : Addr} {sp : Sp} (c : MkF X.prog X.w X.K X.mg X.base k x C sp) (hr : Room j X.A) (hk : k + 1 ≤ j) (ha : PA X (e :: es) t) (hg : Gl X x := by rfl)
    (hdb : (x == ("__debug__" : Str)) = false := by decide) (he : starEach (e :: es) X.env = (false, eval e X.env) :: starEach es X.env := by rfl) (hpl : (backTo pos (starEach es X.env)).any (·.1) = false := by rfl) :
    PE X (.Call (.Name x p) (e :: es) [] pos) (tMake C sp [] E0 t) := by
  obtain ⟨f, fd, ps, M, F, hm, b⟩ := c.ex
  exact pe_make M F (hr.mono hk) hg hm b .nil pass0 ha hdb he hpl
end
section
variable {P : Program} {w : World} {K : PySem.W.Frag} {mg : Str → Option Value} {base : Heap}
theorem init_ok {x qual : Str} {st : Stmt} {f C : Addr} {fd : FuncData} {N ps : List Str} {k : Nat} {γ : Type} {pre : γ → Prop} {Rs : γ → List VP} {R : γ → VP} (F : Fun K x qual st f fd) (S : FnScope N ps (defScope st)) (len : ∀ g, (Rs g).length + 1 = ps.length)
    (body : ∀ (cdv : Value) (A : Around) (outer : List Env) (s : Shared) (H : Hp) (E : XK) (g : γ) (a dx : Addr) (vs : List V) (F0 : Hp), Room k (A.deeper (envOfC qual (defScope st) s.heap.objs.size f cdv)) → pre g → Each (Rs g) vs F0 →
      ∃ t, PSs (cxOf CX0 P w K mg base N qual (defScope st) f cdv A outer s H E).nox (defBody st) t ∧ RunS t (start N (.ref a :: vs)) F0 [(a, .ins C dx []), (dx, .own a)] (fun _ F' L' => ∃ o o2, L' = [(a, o), (dx, o2)] ∧ ∀ F2, Same F' F2 → F2 a = some o → F2 dx = some o2 → R g (.ref a) F2) (fun _ _ => False)) :
    FnOk P w K mg base CX0 (k + 1) f fd ps (SpI C pre Rs R) := by
  refine F.ok S (fun vs H Q E ⟨g, F0, N0, a, dx, ws, e, hp, A, hv, q⟩ => ?_) fun cdv A outer s H vs Q E hr ⟨g, F0, N0, a, dx, ws, e, hp, A0, hv, q⟩ => ?_
  · subst e
    rw [List.length_cons, each_length hv]; exact len g
  · subst e
    obtain ⟨t, h1, h2⟩ := body cdv A outer s H E g a dx ws F0 hr hp hv
    refine ⟨t, h1, h2 F0 N0 H (Same.refl _) A0 _ (fun _ F' L' H' e' A' n => ?_) fun v F' H' e' A' r => r.elim⟩
    obtain ⟨o, o2, rfl, n⟩ := n
    have A1 : At (upd F' a o) ((dx, o2) :: N0) H' := At.keep A'
    have A2 : At (upd (upd F' a o) dx o2) N0 H' := At.keep A1
    have hne : a ≠ dx := fun z => by
      have := A1.off1
      rw [z, upd_same] at this; cases this
    have s1 : Same F' (upd (upd F' a o) dx o2) := (same_new A'.off1).trans (same_new A1.off1)
    exact q _ H' (e'.trans s1) A2 (n _ s1 (by rw [upd_ne hne, upd_same]) upd_same)
/-- by values alone -/
theorem fnr_mk {f : Addr} {fd : FuncData} {ps : List Str} {k : Nat} {sp : Sp} (G : FnOk P w K mg base CX0 k f fd ps sp) (b : Binds K fd ps []) : FnR P w K mg base CX0 k f sp :=
  (G.raw b .nil).imp fun vs H Q E h => by rw [List.append_nil]; exact h
end
section
variable {K : PySem.W.Frag} {σ : L2.St} {F : Hp} {L : Cells} {γ : Type} {pre : γ → Prop} {Rs : γ → List VP} {R : γ → VP} {S : VP} {Ss : List VP} {ta : TE} {tt : TA} {C : Addr} {E : XK}
end
end Rs

/-! Rs9: a comprehension of two fors. -/
namespace Rs
open PySem PySem.Spec PyProof.Rows L2 SlX StX
variable [Rs.Tabz]
def flat {ι κ : Type} (ys : ι → List κ) (xs : List ι) : List (ι × κ) := xs.flatMap fun x => (ys x).map fun y => (x, y)
theorem flat_take {ι κ : Type} {ys : ι → List κ} {xs : List ι} {i : Nat} {x : ι} (h : xs[i]? = some x) : flat ys (xs.take (i + 1)) = flat ys (xs.take i) ++ (ys x).map fun y => (x, y) := by
  unfold flat
  rw [List.take_succ, h, List.flatMap_append]
  simp
theorem flat_le {ι κ : Type} {ys : ι → List κ} {xs : List ι} {i : Nat} : (flat ys (xs.take i)).length ≤ (flat ys xs).length := by
  conv => rhs; rw [← List.take_append_drop i xs]
  unfold flat
  rw [List.flatMap_append, List.length_append]
  omega
section
variable {K : PySem.W.Frag} {σ : L2.St} {F : Hp} {L : Cells} {wi wi1 : TI} {g g1 : TG} {te : TE} {vs vs1 : List Nat}
theorem r_lc2 {ι κ : Type} {Ri : ι → VP} {Rj Re : ι → κ → VP} {xs : List ι} {ys : ι → List κ} [∀ x y, Mono (Re x y)] (h : Run (wi σ) F L (fun J F1 => Seqs J (xs.map Ri) F1)) (hz : (flat ys xs).length ≤ 40000)
    (ht : ∀ x v F1, Same F F1 → x ∈ xs → Ri x v F1 → RunG g v (wipe σ vs) F1 L fun σ2 F2 => wipe σ2 vs = wipe σ vs ∧ Run (wi1 σ2) F2 L (fun J F3 => Seqs J ((ys x).map (Rj x)) F3) ∧
      ∀ y u F3, Same F2 F3 → y ∈ ys x → Rj x y u F3 → RunG g1 u (wipe σ2 vs1) F3 L fun σ3 F4 => wipe σ3 vs1 = wipe σ2 vs1 ∧ Run (te σ3) F4 L (Re x y)) :
    Run (tLc2 wi g tYes wi1 g1 tYes te vs vs1 σ) F L (Ln ((flat ys xs).map fun p => Re p.1 p.2)) := fun F1 N H e A Q q =>
  h F1 N H e A _ fun J F2 H2 e2 A2 ⟨G, Y, wk, hG, hY⟩ D hD => by
    rw [List.length_map] at wk
    let Pv : Nat → Hp → Prop := fun i H' => ∃ F' acc, Same F2 F' ∧ At F' ((D, .lst acc) :: (L ++ N)) H' ∧ Each ((flat ys (xs.take i)).map fun p => Re p.1 p.2) acc F'
    refine ⟨fun i m H => m = xs.length - i ∧ i ≤ xs.length ∧ Pv i H, ⟨xs.length, by simp, Nat.zero_le _, F2, [], Same.refl _, A2.cell hD, by simp [flat, Each]⟩, ?_⟩
    rintro i m H0 ⟨rfl, hi0, F', acc, e', A', hacc⟩
    have q0 := hG F' _ H0 e' A'
    by_cases hi : i < xs.length
    · refine .inr ⟨wk.goes i H0 hi q0, Pv (i + 1), fun H' p' => ⟨xs.length - (i + 1), by omega, rfl, hi, p'⟩, fun x H4 y0 => ?_⟩
      have y := wk.yields i H0 x H4 hi q0 y0
      obtain ⟨F3, R, e3, A3, hR, hx⟩ := hY F' _ H0 i x H4 e' A' (by rw [List.length_map]; exact hi) y
      rw [List.getElem?_map] at hR
      have hxi : xs[i]? = some xs[i] := List.getElem?_eq_getElem hi
      rw [hxi] at hR
      cases hR
      have P0 : ∀ ac : List V, ((D, HO.lst ac) :: (L ++ N)).Perm (L ++ ((D, .lst ac) :: N)) := fun ac => List.perm_middle.symm
      refine ht xs[i] x F3 (((e.trans e2).trans e').trans e3) (List.getElem_mem hi) hx F3 ((D, .lst acc) :: N) H4 (Same.refl _) (A3.perm (P0 _)) _ fun σ2 F4 H5 e4 A4 ⟨hw, hi1, hin⟩ => ⟨hw, ?_⟩
      unfold tYes
      refine iteT ?_
      refine hi1 F4 ((D, .lst acc) :: N) H5 (Same.refl _) A4 _ fun J1 F5 H6 e5 A5 ⟨G1, Y1, wk1, hG1, hY1⟩ => ?_
      rw [List.length_map] at wk1
      let Pw : Nat → Hp → Prop := fun j H' => ∃ F' acc, Same F5 F' ∧ At F' ((D, .lst acc) :: (L ++ N)) H' ∧ Each ((flat ys (xs.take i) ++ ((ys xs[i]).take j).map fun y => (xs[i], y)).map fun p => Re p.1 p.2) acc F'
      refine ⟨fun j k H => k = (ys xs[i]).length - j ∧ j ≤ (ys xs[i]).length ∧ Pw j H, ⟨_, rfl, Nat.zero_le _, F5, acc, Same.refl _, A5.perm (P0 _).symm, ?_⟩, ?_⟩
      · rw [List.take_zero, List.map_nil, List.append_nil]
        exact Mono.go hacc ((e3.trans e4).trans e5)
      · rintro j k H7 ⟨rfl, hj0, F7, ac7, e7, A7, hac7⟩
        have q7 := hG1 F7 _ H7 e7 A7
        by_cases hj : j < (ys xs[i]).length
        · refine .inr ⟨wk1.goes j H7 hj q7, Pw (j + 1), fun H' p' => ⟨_, by omega, rfl, hj, p'⟩, fun u H8 y8 => ?_⟩
          have y9 := wk1.yields j H7 u H8 hj q7 y8
          obtain ⟨F8, R, e8, A8, hR, hu⟩ := hY1 F7 _ H7 j u H8 e7 A7 (by rw [List.length_map]; exact hj) y9
          rw [List.getElem?_map] at hR
          have hyj : (ys xs[i])[j]? = some (ys xs[i])[j] := List.getElem?_eq_getElem hj
          rw [hyj] at hR
          cases hR
          refine hin (ys xs[i])[j] u F8 ((e5.trans e7).trans e8) (List.getElem_mem hj) hu F8 ((D, .lst ac7) :: N) H8 (Same.refl _) (A8.perm (P0 _)) _ fun σ3 F9 H9 e9 A9 ⟨hw3, hv⟩ => ⟨hw3, ?_⟩
          refine iteT ?_
          refine hv F9 ((D, .lst ac7) :: N) H9 (Same.refl _) A9 _ fun z F10 H10 e10 A10 hz10 => ?_
          have A11 := A10.perm (P0 _).symm
          have hlen : ac7.length ≤ (flat ys xs).length := by
            rw [each_length hac7, List.length_map]
            refine Nat.le_trans ?_ (flat_le (i := i + 1))
            rw [flat_take hxi, List.length_append, List.length_append, List.length_map, List.length_map, List.length_take]
            omega
          refine ⟨ac7, A11.on1, len_lt (by omega), F10, ac7 ++ [z], ((e7.trans e8).trans e9).trans e10, A11.put, ?_⟩
          rw [List.take_succ, hyj, Option.toList_some, List.map_append, List.map_append, List.map_append, ← List.append_assoc, ← List.map_append]
          exact each_app (Mono.go hac7 ((e8.trans e9).trans e10)) ⟨hz10, True.intro⟩
        · have ej : j = (ys xs[i]).length := by omega
          subst ej
          refine .inl ⟨wk1.stops H7 q7, F7, ac7, (((e'.trans e3).trans e4).trans e5).trans e7, A7, ?_⟩
          rw [flat_take hxi]
          rw [List.take_length] at hac7
          exact hac7
    · have ei : i = xs.length := by omega
      subst ei
      rw [List.take_length] at hacc
      refine .inl ⟨wk.stops H0 q0, ?_⟩
      have A1 : At F' ((D, .lst acc) :: (L ++ N)) H0 := A'
      exact q (.ref D) (upd F' D (.lst acc)) H0 ((e2.trans e').trans (same_new A1.off1)) A1.keep ⟨D, acc, rfl, upd_same, Mono.go hacc (same_new A1.off1)⟩
end
end Rs

/-! Rw: what a web is. -/
namespace Rs
open PySem PySem.Spec PyProof.Rows L2 SlX StX Ma
variable [Rs.Tabz]
noncomputable def reachs (rs : Rows) : Rows := (List.range rs.length).map (reachL rs)
noncomputable def rootsN (rs : Rows) : List Nat := (List.range rs.length).filter fun h => decide ((reachL rs h).length = rs.length)
def pairsN (rs : Rows) : List (Nat × Nat) := (flat (fun p : List Nat × Nat => p.1) rs.zipIdx).map fun q => (q.1.2, q.2)
abbrev dPair (p : Nat × Nat) : PyData := .tuple [nI p.1, nI p.2]
abbrev wIx : List Nat := [0, 4, 2, 3, 1]
noncomputable def webVs (K : PySem.W.Frag) (rs : Rows) : List VP := [Dt K (dRows rs), Dt K (nI rs.length), Dt K (dRows (reachs rs)), Dt K (dRow (rootsN rs)), Dt K (.tuple ((pairsN rs).map dPair))]
instance {K : PySem.W.Frag} {rs : Rows} : MonoL (webVs K rs) := by unfold webVs; infer_instance
noncomputable def webP (C : Addr) (K : PySem.W.Frag) (rs : Rows) : VP := fun v F => Ok rs ∧ Ob C wIx (webVs K rs) v F
instance {C : Addr} {K : PySem.W.Frag} {rs : Rows} : Mono (webP C K rs) := ⟨fun _ _ _ e h => ⟨h.1, Mono.go h.2 e⟩⟩
structure WebK (K : PySem.W.Frag) (C : Addr) : Prop where
  sc : SCls K C
  si : SIsi K C
  kit : PySem.W.kitOne K (.ref C) (.ref C) = some true
  heard : SlF K C "own_heard" 0
  size : SlF K C "own_size" 4
  reached : SlF K C "own_reached" 2
  roots : SlF K C "own_roots" 3
  pairs : SlF K C "own_pairs" 1
section
variable {K : PySem.W.Frag} {w : World} {σ : L2.St} {F : Hp} {L : Cells} {R : VP} {Rs : List VP} {t : TA} {te ta tb : TE} {C : Addr} {rs : Rows}
theorem r_tpD {α : Type} {f : α → PyData} {xs : List α} (h : Run (te σ) F L (Tp K (xs.map fun x => Dt K (f x)))) : Run (te σ) F L (Dt K (.tuple (xs.map f))) :=
  h.weak fun v F1 e hv => tp_dt.mp (by rw [List.map_map]; exact hv)
theorem r_lnD {α : Type} {f : α → PyData} {xs : List α} (h : Run (te σ) F L (Ln (xs.map fun x => Dt K (f x)))) : Run (te σ) F L (Dt K (.list (xs.map f))) :=
  h.weak fun v F1 e hv => ls_dt.mp (Ln.ls (by rw [List.map_map]; exact hv))
theorem r_tupLn {α : Type} {f : α → PyData} {xs : List α} (h : Run (te σ) F L (Ln (xs.map fun x => Dt K (f x)))) : Run (tCB (rTupOf K) (tCons te tNil) σ) F L (Dt K (.tuple (xs.map f))) :=
  r_tpD (r_tupL (r_cons (r_ls h) r_nil))
theorem i_enumRows {α : Type} {f : α → PyData} {xs : List α} (h : Run (te σ) F L (Dt K (.tuple (xs.map f)))) : Run (iEnumT K (tCons te tNil) σ) F L (fun J F1 => Seqs J (xs.zipIdx.map fun p => Tp K [Dt K (nI p.2), Dt K (f p.1)]) F1) := by
  have q := i_enumT (Rs := xs.map fun x => Dt K (f x)) (r_cons (h.weak fun v F1 e hv => by have := tp_dt.mpr hv; rwa [List.map_map] at this) r_nil)
  rwa [pairs_map] at q
theorem i_rangeN {n : Nat} (h : Run (te σ) F L (Dt K (nI n))) (hn : n ≤ 1000) : Run (iRng1 (tCons te tNil) σ) F L (fun J F1 => Seqs J ((List.range n).map fun i => Dt K (nI i)) F1) :=
  i_range (n := (n : Int)) (r_cons h r_nil) (by omega) (by omega)
theorem i_tupN {α : Type} {f : α → PyData} {xs : List α} (h : Run (te σ) F L (Dt K (.tuple (xs.map f)))) : Run (iTup K te σ) F L (fun J F1 => Seqs J (xs.map fun x => Dt K (f x)) F1) :=
  i_tup (h.weak fun v F1 e hv => by have := tp_dt.mpr hv; rwa [List.map_map] at this)
/-! what a web tells -/
theorem r_heard (W : WebK K C) (h : Run (ta σ) F L (webP C K rs)) : Run (tSl K ta "own_heard" σ) F L (Dt K (dRows rs)) := r_fld (k := 0) W.heard (h.weak fun _ _ _ q => q.2) rfl rfl
theorem r_size (W : WebK K C) (h : Run (ta σ) F L (webP C K rs)) : Run (tSl K ta "own_size" σ) F L (Dt K (nI rs.length)) := r_fld (k := 1) W.size (h.weak fun _ _ _ q => q.2) rfl rfl
theorem r_roots (W : WebK K C) (h : Run (ta σ) F L (webP C K rs)) : Run (tSl K ta "own_roots" σ) F L (Dt K (dRow (rootsN rs))) := r_fld (k := 3) W.roots (h.weak fun _ _ _ q => q.2) rfl rfl
theorem webP.is {v : V} {F : Hp} (h : webP C K rs v F) : IsOb C v F := h.2.is
end
theorem reachs_data {rs : Rows} : PyData.tuple ((List.range rs.length).map fun i => dRow (reachL rs i)) = dRows (reachs rs) := by
  unfold reachs dRows; rw [List.map_map]; rfl
theorem reachs_len {rs : Rows} : (reachs rs).length = rs.length := by unfold reachs; rw [List.length_map, List.length_range]
theorem zip_range {α : Type} {g : Nat → α} {n : Nat} : ((List.range n).map g).zipIdx = (List.range n).map fun i => (g i, i) := by
  apply List.ext_getElem
  · simp
  · intro i h1 h2
    simp
theorem roots_zip {rs : Rows} : ((reachs rs).zipIdx.filter fun p => decide (p.1.length = rs.length)).map (·.2) = rootsN rs := by
  unfold reachs rootsN
  rw [zip_range, List.filter_map, List.map_map]
  show List.map (fun x => x) _ = _
  rw [List.map_id']
  rfl
theorem roots_data {rs : Rows} : PyData.tuple (((reachs rs).zipIdx.filter fun p => decide (p.1.length = rs.length)).map fun p => nI p.2) = dRow (rootsN rs) := by
  rw [← roots_zip, dRow, List.map_map]; rfl
theorem pairs_flat {rs : Rows} : ((flat (fun p : List Nat × Nat => p.1) rs.zipIdx).map fun q => dPair (q.1.2, q.2)) = (pairsN rs).map dPair := by
  unfold pairsN; rw [List.map_map]; rfl
theorem flat_len {rs : Rows} (ok : Ok rs) : (flat (fun p : List Nat × Nat => p.1) rs.zipIdx).length ≤ 40000 := by
  unfold flat
  rw [List.length_flatMap]
  have h1 : ∀ x ∈ rs.zipIdx.map fun p : List Nat × Nat => (p.1.map fun y => (p, y)).length, x ≤ 5 := by
    intro x hx
    obtain ⟨p, hp, rfl⟩ := List.mem_map.mp hx
    rw [List.length_map]
    have hm : p.1 ∈ rs := by
      have := List.mem_zipIdx hp
      simp only [Nat.zero_le, Nat.sub_zero, true_and] at this
      rw [this.2]; exact List.getElem_mem _
    exact Nat.le_trans (nodup_len _ _ (asc_nodup (ok.asc _ hm)) (ok.lt _ hm)) ok.le
  have h2 : ∀ (l : List Nat), (∀ x ∈ l, x ≤ 5) → l.sum ≤ 5 * l.length := by
    intro l
    induction l with
    | nil => intro _; simp
    | cons a l ih =>
      intro h
      have := ih fun x hx => h x (List.mem_cons_of_mem _ hx)
      have := h a List.mem_cons_self
      simp only [List.sum_cons, List.length_cons]
      omega
  have h3 := h2 _ h1
  rw [List.length_map, List.length_zipIdx] at h3
  show (List.map (fun p : List Nat × Nat => (p.1.map fun y => (p, y)).length) rs.zipIdx).sum ≤ 40000
  have := ok.le
  omega
end Rs

/-! RsK: the words with K told, for blocks within a block. -/
namespace Rs
open PySem PySem.Spec PyProof.Rows L2 SlX StX
variable [Rs.Tabz]
section
variable {X : Cx} {e o : Expr} {es : List Expr} {ta te : TE} {t : TA} {p pos apos : Pos} {f m x : Str} {tg l : Expr}

theorem p_lenK (K : PySem.W.Frag) (B : Bf X.mg) (ha : PA X (e :: es) t) (hg : Gl X "len" := by rfl) (he : starEach (e :: es) X.env = (false, eval e X.env) :: starEach es X.env := by rfl) (hpl : (backTo pos (starEach es X.env)).any (·.1) = false := by rfl) (hK : X.K = K := by rfl) :
    PE X (.Call (.Name "len" p) (e :: es) [] pos) (tCB (rLn K) t) := by
  subst hK; exact p_len B ha hg he hpl

theorem p_allK (K : PySem.W.Frag) (hc : X.calm = true) (B : Bf X.mg) (ha : PA X (e :: es) t) (hg : Gl X "all" := by rfl) (he : starEach (e :: es) X.env = (false, eval e X.env) :: starEach es X.env := by rfl) (hpl : (backTo pos (starEach es X.env)).any (·.1) = false := by rfl) (hK : X.K = K := by rfl) :
    PE X (.Call (.Name "all" p) (e :: es) [] pos) (tCB (rAll K) t) := by
  subst hK; exact p_all hc B ha hg he hpl

theorem p_isiSK (K : PySem.W.Frag) (u : Value) (B : Bf X.mg) (ha : PA X (e :: es) t) (hg : Gl X "isinstance" := by rfl) (he : starEach (e :: es) X.env = (false, eval e X.env) :: starEach es X.env := by rfl) (hpl : (backTo pos (starEach es X.env)).any (·.1) = false := by rfl) (hK : X.K = K := by rfl) :
    PE X (.Call (.Name "isinstance" p) (e :: es) [] pos) (tCB (fun xs H Q => rIsi K xs H Q ∨ rIsiSl K u xs H Q) t) := by
  subst hK; exact p_isiS u B ha hg he hpl

theorem p_tupleK (K : PySem.W.Frag) (B : Bf X.mg) (ha : PA X (e :: es) t) (hg : Gl X "tuple" := by rfl) (he : starEach (e :: es) X.env = (false, eval e X.env) :: starEach es X.env := by rfl) (hpl : (backTo pos (starEach es X.env)).any (·.1) = false := by rfl) (hK : X.K = K := by rfl) :
    PE X (.Call (.Name "tuple" p) (e :: es) [] pos) (tCB (rTupOf K) t) := by
  subst hK; exact p_tuple B ha hg he hpl

theorem pi_tupK (K : PySem.W.Frag) (hl : PE X l ta) (hK : X.K = K := by rfl) : PI X tg l (iTup K ta) := by
  subst hK; exact pi_tup hl
theorem pi_listK (K : PySem.W.Frag) (hl : PE X l ta) (hK : X.K = K := by rfl) : PI X tg l (iList K ta) := by
  subst hK; exact pi_list hl
theorem ix_tupK (K : PySem.W.Frag) (hK : X.K = K := by rfl) : IxR X (rIxT K) := by subst hK; exact ix_tup
theorem ix_listK (K : PySem.W.Frag) (hK : X.K = K := by rfl) : IxR X (rIxL K) := by subst hK; exact ix_list
theorem op_in_seqK (K : PySem.W.Frag) (hK : X.K = K := by rfl) : OpR X (compareOp .In) (rIn K false) := by subst hK; exact op_in_seq
theorem op_notIn_seqK (K : PySem.W.Frag) (hK : X.K = K := by rfl) : OpR X (compareOp .NotIn) (rIn K true) := by subst hK; exact op_notIn_seq
theorem op_eqDK (K : PySem.W.Frag) (hu : X.A.units + 64 < cLine) (hK : X.K = K := by rfl) : OpR X (compareOp .Eq) (rEqD K) := by subst hK; exact op_eqD hu
theorem op_neDK (K : PySem.W.Frag) (hu : X.A.units + 64 < cLine) (hK : X.K = K := by rfl) : OpR X (compareOp .NotEq) (rNeD K) := by subst hK; exact op_neD hu
theorem pe_slK (K : PySem.W.Frag) (he : PE X e ta) (hb : attributeBase e f X.env (eval e X.env) = eval e X.env := by rfl) (hK : X.K = K := by rfl) : PE X (.Attribute e f pos) (tSl K ta f) := by
  subst hK; exact pe_sl he hb
end
end Rs

/-! RsT: tuple * int, once too. -/
namespace L2
open PySem PySem.Spec PyProof.Rows
variable [Rs.Tabz]
theorem tuple_mul1 (l : Addr) (items : Array Value) (n : Nat) (dd : Option Addr) (sl : Array (Option Value)) (u : Tok) :
    Meets (Builtin.«tuple.__mul__» ⟨[.ref l, .int 1 u], []⟩) (fun _ R s => s.heap.get? l = some { cls := .type "tuple", dict := dd, data := .seq items n, slots := sl } ∧
      ∀ tk, R (.ok (.ret (Value.ref l))) { s with toks := tk }) :=
  .of_wp fun prog w A R s h => by
    obtain ⟨hp, g, d, tk, os⟩ := s
    obtain ⟨hl, h⟩ := h
    have f1 := AutoSeq1.idx_int
    wp_walk using wpAny_loadPart' hl
    repeat (first
      | exact ⟨_, rfl, h _⟩
      | (refine wpAny_ite_false (by decide) ?_; wp_walk using wpAny_loadPart' hl)
      | (refine wpAny_ite_true (by simp) ?_; wp_walk using wpAny_loadPart' hl))
def rRep1 (K : PySem.W.Frag) : R2 := fun x y H Q => ∃ l xs, x = .ref l ∧ y = .int 1 ∧ SqT K H l xs ∧ Q (.ref l) H
section
variable {X : Cx}
theorem op_rep1 : OpR X (binaryOp .Mult) (rRep1 X.K) := by
  intro pins s σ H x y v u Q I rx ry h
  obtain ⟨l, xs, rfl, rfl, hT, q⟩ := h
  cases rx
  obtain ⟨t, rfl⟩ := ry
  obtain ⟨its, r, ⟨⟨cls, dd, data, sl⟩, ho, hc, n, hd⟩, hs⟩ := I.tuple hT
  simp only at hc hd
  subst hc hd
  refine wpAny_binaryOp_repeat_ref (T := "tuple") (U := "int") (by decide) ⟨_, ho, rfl⟩ (fun s' => typeIs_int s' 1 t) noFill_tuple_mul F.fills_int_mul F.slot_int_rmul repeat_tuple F.slot_int_index.lookup
    (call_meets F.slot_int_rmul (typeIs_int s 1 t) F.entry_int_rmul (F.args_int_rmul_2 _ _) (int_rmul_tuple 1 t l its.toArray n dd sl)
      ⟨ho, rfl, ⟨_, ho, rfl⟩, call_meets F.slot_tuple_mul ⟨_, ho, rfl⟩ F.entry_tuple_mul (F.args_tuple_mul_2 _ _) (tuple_mul1 l its.toArray n dd sl t) ⟨ho, fun tk => ?_⟩⟩)
  exact ⟨.ref l, H, I.tok _, rfl, q⟩
def rRepTA (K : PySem.W.Frag) : R2 := fun x y H Q => rRepT K x y H Q ∨ rRep1 K x y H Q
theorem op_repTA : OpR X (binaryOp .Mult) (rRepTA X.K) := fun pins s σ H x y v u Q I rx ry h => h.elim (op_repT pins s σ H x y v u Q I rx ry) (op_rep1 pins s σ H x y v u Q I rx ry)
end
end L2
namespace Rs
open PySem PySem.Spec PyProof.Rows L2 SlX StX
variable [Rs.Tabz]
section
variable {K : PySem.W.Frag} {σ : L2.St} {F : Hp} {L : Cells} {ta tb : TE}
theorem rep_flat {α : Type} {k : Nat} {x : α} : (List.replicate k [x]).flatten = List.replicate k x := by
  induction k with
  | zero => rfl
  | succ k ih => rw [List.replicate_succ, List.flatten_cons, ih]; rfl
/-- (x,) * k -/
theorem r_rep1 {d : PyData} {k : Nat} (ha : Run (ta σ) F L (Dt K (.tuple [d]))) (hb : Run (tb σ) F L (Dt K (.int (k : Nat)))) (h1 : 1 ≤ k) (h2 : k ≤ 1000) : Run (tOp (rRepTA K) ta tb σ) F L (Dt K (.tuple (List.replicate k d))) :=
  r_op ha hb fun x y F1 e hx hy => by
    cases hy
    obtain ⟨a, vs, rfl, hs, hr⟩ := tp_dt.mpr hx
    obtain ⟨v, rfl, hv⟩ := each1 hr
    by_cases hk : k = 1
    · subst hk
      refine fun F2 N H e2 A Q q => .inr ⟨a, [v], rfl, rfl, sqT_up (e2.trans A.ex) hs, q _ F2 H (Same.refl _) A (dp_up e2 hx)⟩
    · refine fun F2 N H e2 A Q q => .inl ⟨a, (k : Int), [v], rfl, rfl, sqT_up (e2.trans A.ex) hs, by simp, by omega, by omega, by simp, fun p hp => q _ (upd F2 p _) _ (same_new (A.free hp)) (A.new hp) ?_⟩
      refine tp_dt.mp ⟨p, List.replicate k v, rfl, .inl ?_, ?_⟩
      · exact .inl (by rw [upd_same, Int.toNat_natCast, rep_flat])
      · have hv' := dp_up (e2.trans (same_new (o := .tup (List.replicate (k : Int).toNat [v]).flatten) (A.free hp))) hv
        have : ∀ m : Nat, Each ((List.replicate m d).map (Dt K)) (List.replicate m v) (upd F2 p (.tup (List.replicate (k : Int).toNat [v]).flatten)) := by
          intro m
          induction m with
          | zero => exact True.intro
          | succ m ih => exact ⟨hv', ih⟩
        exact this k
end
end Rs

/-! Mb: rounds one behind the other. -/
namespace Ma
open PySem Rs
/-- whom h hears, with itself -/
def hbL (rs : Rows) (h : Nat) : List Nat := (List.range rs.length).filter fun x => decide (x ∈ row rs h ∨ x = h)
theorem mem_hb {rs : Rows} (ok : Ok rs) {h x : Nat} (hh : h < rs.length) : x ∈ hbL rs h ↔ x ∈ row rs h ∨ x = h := by
  unfold hbL
  rw [List.mem_filter, List.mem_range, decide_eq_true_eq]
  refine ⟨fun z => z.2, fun z => ⟨?_, z⟩⟩
  rcases z with z | z
  · exact ok.row_lt z
  · rw [z]; exact hh
theorem asc_hb {rs : Rows} {h : Nat} : Asc (hbL rs h) := (asc_range _).filter _
theorem hb_len {rs : Rows} {h : Nat} : (hbL rs h).length ≤ rs.length := by
  unfold hbL
  exact Nat.le_trans (List.length_filter_le _ _) (by rw [List.length_range]; exact Nat.le_refl _)
theorem hb_perm {rs : Rows} (ok : Ok rs) {h : Nat} (hh : h < rs.length) : (hbL rs h).Perm (row rs h ++ [h]) := by
  refine (List.perm_ext_iff_of_nodup (asc_nodup asc_hb) ?_).mpr fun x => by rw [mem_hb ok hh, List.mem_append, List.mem_singleton]
  rw [List.nodup_append]
  refine ⟨asc_nodup (ok.row_asc h), by simp, fun a ha b hb => ?_⟩
  rw [List.mem_singleton] at hb
  subst hb
  exact fun z => ok.row_ne (z ▸ ha)
/-- what is told to h by qs and, before, by rs -/
def toldL (rs qs : Rows) (h : Nat) : List Nat := (flat (fun near => hbL rs near) (hbL qs h)).map (·.2)
def allL (rs qs : Rows) (h : Nat) : List Nat := (List.range rs.length).filter fun x => decide (x ∈ toldL rs qs h)
def thenRow (rs qs : Rows) (h : Nat) : List Nat := (allL rs qs h).filter fun x => !decide (x = h)
/-- rs and then qs -/
def thenR (rs qs : Rows) : Rows := (List.range rs.length).map (thenRow rs qs)
theorem then_len {rs qs : Rows} : (thenR rs qs).length = rs.length := by unfold thenR; rw [List.length_map, List.length_range]
def silentR (n : Nat) : Rows := List.replicate n []
end Ma

/-! RsD: dicts by tuples of ints: put, sorted. -/
namespace L2
open PySem PySem.Spec PyProof.Rows
variable [Rs.Tabz]
section
variable {X : Cx}
end
end L2

/-! RsE: runs over dicts by tuples of ints. -/
namespace Rs
open PySem PySem.Spec PyProof.Rows L2 SlX StX Ma
variable [Rs.Tabz]
section
variable {X : Cx} {e : Expr} {es : List Expr} {t : TA} {p pos : Pos}
end
/-- a tuple that stands as .tup -/
def Tn (Rs : List VP) : VP := fun v F => ∃ a vs, v = .ref a ∧ F a = some (.tup vs) ∧ Each Rs vs F
instance {Rs : List VP} [MonoL Rs] : Mono (Tn Rs) := ⟨fun _ _ _ e ⟨a, vs, h, s, r⟩ => ⟨a, vs, h, e _ _ s, MonoL.mono _ _ _ e r⟩⟩
section
variable {K : PySem.W.Frag} {σ : L2.St} {F : Hp} {L : Cells} {R : VP} {Rs : List VP} {t : TA} {te ty td tv : TE} {Nx : L2.St → Hp → Cells → Prop} {Rt : VP} {u : TS}
theorem Tn.tp {v : V} {F : Hp} (h : Tn Rs v F) : Tp K Rs v F := by
  obtain ⟨a, vs, rfl, h1, h2⟩ := h
  exact ⟨a, vs, rfl, .inl (.inl h1), h2⟩
end
end Rs

/-! RsC: a list of ints that is written by callees, told as a thing that stays. -/
namespace Rs
open PySem PySem.Spec PyProof.Rows L2 SlX StX Ma
variable [Rs.Tabz]
/-- a list of n whole numbers, whichever -/
def ckO (n : Nat) (a : Addr) : HO := .ext fun h => ∃ (xs : List Int) (its : List Value) (c : Nat), xs.length = n ∧ Vals (xs.map V.int) its ∧ h.get? a = some { cls := .type "list", data := .seq its.toArray c }
def Ck (n : Nat) : VP := fun v F => ∃ a, v = .ref a ∧ F a = some (ckO n a)
instance {n : Nat} : Mono (Ck n) := ⟨fun _ _ _ e ⟨a, h, h1⟩ => ⟨a, h, e _ _ h1⟩⟩
section
variable {P : Program} {w : World} {K : PySem.W.Frag} {mg : Str → Option Value} {base : Heap} {A : Around} {outer : List Env} {s s' : Shared} {H H' : Hp} {a : Addr} {n : Nat}
theorem ck_open {h : Heap} (ok : HOk P w H h) (ha : H a = some (ckO n a)) (hn : n ≤ 1000) : ∃ xs : List Int, xs.length = n ∧ HOk P w (upd H a (.lst (xs.map V.int))) h := by
  obtain ⟨⟨xs, its, c, h1, h2, h3⟩, _⟩ := ok a _ ha
  refine ⟨xs, h1, ok.write (by rw [ha]; exact True.intro) (.inl rfl) (fun b u _ e => e) ⟨_, h3⟩ ⟨by rw [List.length_map, sizeLine_eq]; omega, its, c, h2, h3⟩⟩
theorem ck_shut {h : Heap} {xs : List Int} (ok : HOk P w H h) (ha : H a = some (.lst (xs.map V.int))) (hn : xs.length = n) : HOk P w (upd H a (ckO n a)) h := by
  obtain ⟨_, its, c, h2, h3⟩ := ok a _ ha
  refine ok.write (by rw [ha]; exact True.intro) (.inl rfl) (fun b u _ e => e) ⟨_, h3⟩ ⟨⟨xs, its, c, hn, h2, h3⟩, ⟨_, h3⟩, fun h1 h2 ⟨xs, its, c, q1, q2, q3⟩ st => ⟨xs, its, c, q1, q2, st _ q3⟩⟩
theorem un_same {fs : List Addr} {o : HO} {h : Heap} {u : Obj} (mu : Mut (H a)) (hu : h.get? a = some u) : Un fs [] H (upd H a o) h h := Un.write mu (.inl rfl) (fun b u _ e => e) ⟨_, hu⟩
theorem lst_at {h : Heap} {xs : List V} (ok : HOk P w H h) (ha : H a = some (.lst xs)) : ∃ u, h.get? a = some u := by
  obtain ⟨_, its, c, h2, h3⟩ := ok a _ ha
  exact ⟨_, h3⟩
theorem ck_at {h : Heap} (ok : HOk P w H h) (ha : H a = some (ckO n a)) : ∃ u, h.get? a = some u := by
  obtain ⟨_, h3, _⟩ := ok a _ ha
  exact h3
theorem env_cast {o : HO} (e : Env0 P w K mg base A outer s H) (ha : H a ≠ none) (ok : HOk P w (upd H a o) s.heap) : Env0 P w K mg base A outer s (upd H a o) :=
  ⟨e.frames, e.mod, fun b ob q => ⟨(e.bs b ob q).1, by
    have h1 := (e.bs b ob q).2
    rw [upd_ne (fun z : b = a => ha (by rw [← z]; exact h1))]; exact h1⟩, e.bsz, e.funs, fun b hb => by
    have h1 := e.frf b hb
    rw [upd_ne (fun z : b = a => ha (by rw [← z]; exact h1))]; exact h1, ok, e.bare⟩
theorem cr_cast {Q Q' : VK} {E : XK} {H0 : Hp} {r : Result} (u0 : Un (frs outer) [] H H0 s.heap s.heap) (h : CR CX0 outer P w H0 s Q' E r s') (c : ∀ v H', HOk P w H' s'.heap → Q' v H' → ∃ H'', Un (frs outer) [] H' H'' s'.heap s'.heap ∧ HOk P w H'' s'.heap ∧ Q v H'') :
    CR CX0 outer P w H s Q E r s' := by
  cases r with
  | error e => exact (show False from h).elim
  | ok fl =>
    cases fl with
    | ret u =>
      obtain ⟨v, H', e1, e2, e3, e4, e5, e6⟩ := h
      obtain ⟨H'', f1, f2, f3⟩ := c v H' e4 e6
      exact ⟨v, H'', e1, e2, (u0.trans e3).trans f1, f2, e5, f3⟩
    | next => exact h
    | brk => exact h
    | cont => exact h
/-- a def that writes to its first argument, a list of ints of one's own -/
def SpC {γ : Type} (n : Nat) (pre : γ → Prop) (Rs : γ → List VP) (R : γ → VP) : Sp := fun vs H Q _ => ∃ (g : γ) (F : Hp) (N : Cells) (a : Addr) (xs : List Int) (ws : List V), vs = .ref a :: ws ∧ pre g ∧ xs.length = n ∧ At F ((a, .lst (xs.map V.int)) :: N) H ∧ Each (Rs g) ws F ∧
  ∀ v F' H' (xs' : List Int), xs'.length = n → Same F F' → At F' ((a, .lst (xs'.map V.int)) :: N) H' → R g v F' → Q v H'
def del (F : Hp) (a : Addr) : Hp := fun b => if b = a then none else F b
theorem ck_fn {γ : Type} {pre : γ → Prop} {Rs : γ → List VP} {R : γ → VP} {k : Nat} {f : Addr} {fd : FuncData} {ps : List Str} (hn : n ≤ 1000) (hR : ∀ g v F F', R g v F → R g v F') (hRs : ∀ g vs F F', Each (Rs g) vs F → Each (Rs g) vs F')
    (G : FnOk P w K mg base CX0 k f fd ps (SpC n pre Rs R)) (len : ∀ g, (Rs g).length + 1 = ps.length) : FnOk P w K mg base CX0 k f fd ps (SpF pre (fun g => Ck n :: Rs g) R) := by
  refine ⟨fun vs H Q E ⟨g, F0, N0, hp, A, hv, q⟩ => (each_length hv).trans (len g), fun A outer s H args us vs Q E hr e0 hb r hs => ?_⟩
  obtain ⟨g, F, N, hp, hA, hv, q⟩ := hs
  obtain ⟨v, ws, rfl, ⟨a, rfl, ha⟩, hw⟩ := each_cons hv
  have hHa : H a = some (ckO n a) := hA.ex _ _ ha
  obtain ⟨xs, hx, ok1⟩ := ck_open e0.hok hHa hn
  have e1 : Env0 P w K mg base A outer s (upd H a (.lst (xs.map V.int))) := env_cast e0 (by rw [hHa]; intro z; cases z) ok1
  obtain ⟨u, hu⟩ := ck_at e0.hok hHa
  have Nne : ∀ p ∈ N, p.1 ≠ a := fun p hm z => by
    have h1 := hA.off p hm
    rw [z, ha] at h1; cases h1
  refine codeAny_mono (G.run A outer s _ args us _ (fun v H' => ∃ (F' : Hp) (xs' : List Int), xs'.length = n ∧ Same (del F a) F' ∧ At F' ((a, .lst (xs'.map V.int)) :: N) H' ∧ R g v F') E hr e1 hb r
    ⟨g, del F a, N, a, xs, ws, rfl, hp, hx, ?_, hRs g ws F _ hw, fun v F' H' xs' h1 h2 h3 h4 => ⟨F', xs', h1, h2, h3, h4⟩⟩) fun r s' hq => cr_cast (un_same (by rw [hHa]; exact True.intro) hu) hq fun v H' ok' ⟨F', xs', h1, h2, h3, h4⟩ => ?_
  · have nT : ∀ P, Tabz.ts P → P ≠ a := fun P hP => hA.notT hP (.inr ⟨_, hHa, fun ps q => by unfold ckO at q; nomatch q⟩)
    refine ⟨fun b o eb => ?_, fun p hm => ?_, fun p hm => ?_, ?_, fun p hm => ?_, fun p hm => ?_, fun p hm => ?_, (hA.tb.upd nT).up fun c q hc => ?_, fun P hP => by unfold del; rw [if_neg (nT P hP)]; exact hA.ft P hP⟩
    · unfold del at eb
      split at eb
      · cases eb
      · rename_i hne
        rw [upd_ne hne]; exact hA.ex _ _ eb
    · rcases List.mem_cons.mp hm with rfl | hm
      · exact upd_same
      · rw [upd_ne (Nne p hm)]; exact hA.on p hm
    · rcases List.mem_cons.mp hm with rfl | hm
      · unfold del; rw [if_pos rfl]
      · unfold del; rw [if_neg (Nne p hm)]; exact hA.off p hm
    · rw [List.map_cons, List.nodup_cons]
      refine ⟨fun z => ?_, hA.nd⟩
      obtain ⟨p, hm, e⟩ := List.mem_map.mp z
      exact Nne p hm e
    · rcases List.mem_cons.mp hm with rfl | hm
      · intro ys z; nomatch z
      · exact hA.nt p hm
    · rcases List.mem_cons.mp hm with rfl | hm
      · intro ys z; nomatch z
      · exact hA.nb p hm
    · rcases List.mem_cons.mp hm with rfl | hm
      · intro c q z; nomatch z
      · exact hA.nc p hm
    · have hne : c ≠ a := fun z => by
        subst z
        rw [ha] at hc
        exact codeT_ne (fun h ⟨xs, its, n, _, _, h1⟩ => ⟨_, _, h1, fun vs z => by cases z⟩) (Option.some.inj hc)
      show (if c = a then none else F c) = _
      rw [if_neg hne]; exact hc
  · have hH' : H' a = some (.lst (xs'.map V.int)) := h3.on1
    obtain ⟨u', hu'⟩ := lst_at ok' hH'
    refine ⟨upd H' a (ckO n a), un_same (by rw [hH']; exact True.intro) hu', ck_shut ok' hH' h1, ?_⟩
    have A4 : At (upd F' a (ckO n a)) N (upd H' a (ckO n a)) := At.swap (u := ckO n a) h3 (by intro ys z; unfold ckO at z; nomatch z)
    refine q v (upd F' a (ckO n a)) _ (fun b o eb => ?_) A4 (hR g v F' _ h4)
    by_cases hba : b = a
    · subst hba; rw [upd_same, ← ha]; exact eb
    · rw [upd_ne hba]
      refine h2 b o ?_
      unfold del; rw [if_neg hba]; exact eb
/-- a def that hands out a new list of ints -/
theorem ck_new {γ : Type} {pre : γ → Prop} {Rs : γ → List VP} {k : Nat} {x qual : Str} {st : Stmt} {f : Addr} {fd : FuncData} {N ps : List Str} (F : Fun K x qual st f fd) (S : FnScope N ps (defScope st)) (len : ∀ g, (Rs g).length = ps.length)
    (body : ∀ (cdv : Value) (A : Around) (outer : List Env) (s : Shared) (H : Hp) (E : XK) (g : γ) (vs : List V) (F0 : Hp), Room k (A.deeper (envOfC qual (defScope st) s.heap.objs.size f cdv)) → pre g → Each (Rs g) vs F0 →
      ∃ t, PSs (cxOf CX0 P w K mg base N qual (defScope st) f cdv A outer s H E).nox (defBody st) t ∧ RunS t (start N vs) F0 [] (fun _ _ _ => False) (fun v F' => ∃ (a : Addr) (xs : List Int), v = .ref a ∧ F' a = some (.lst (xs.map V.int)) ∧ xs.length = n ∧ F0 a = none)) :
    FnOk P w K mg base CX0 (k + 1) f fd ps (SpF pre Rs (fun _ => Ck n)) := by
  have G : FnOk P w K mg base CX0 (k + 1) f fd ps (fun vs H Q _ => ∃ g F N, pre g ∧ At F N H ∧ Each (Rs g) vs F ∧ ∀ v F' H', Same F F' → At F' N H' → (∃ (a : Addr) (xs : List Int), v = .ref a ∧ F' a = some (.lst (xs.map V.int)) ∧ xs.length = n ∧ F a = none) → Q v H') := by
    refine F.ok S (fun vs H Q E ⟨g, F0, N0, hp, A, hv, q⟩ => (each_length hv).trans (len g)) fun cdv A outer s H vs Q E hr ⟨g, F0, N0, hp, A0, hv, q⟩ => ?_
    obtain ⟨t, h1, h2⟩ := body cdv A outer s H E g vs F0 hr hp hv
    exact ⟨t, h1, h2 F0 N0 H (Same.refl _) A0 _ (fun _ F' L' H' e' A' n => n.elim) fun v F' H' e' A' r => q v F' H' e' A' r⟩
  refine ⟨fun vs H Q E ⟨g, F0, N0, hp, A, hv, q⟩ => (each_length hv).trans (len g), fun A outer s H args us vs Q E hr e0 hb r hs => ?_⟩
  obtain ⟨g, F, N, hp, hA, hv, q⟩ := hs
  refine codeAny_mono (G.run A outer s _ args us _ (fun v H' => ∃ (F' : Hp) (a : Addr) (xs : List Int), v = .ref a ∧ Same F F' ∧ At F' N H' ∧ F' a = some (.lst (xs.map V.int)) ∧ xs.length = n ∧ F a = none) E hr e0 hb r
    ⟨g, F, N, hp, hA, hv, fun v F' H' h1 h2 ⟨a, xs, h3, h4, h5, h6⟩ => ⟨F', a, xs, h3, h1, h2, h4, h5, h6⟩⟩) fun r s' hq => cr_cast (Un.refl) hq fun v H' ok' ⟨F', a, xs, h3, h1, h2, h4, h5, h6⟩ => ?_
  have hH' : H' a = some (.lst (xs.map V.int)) := h2.ex _ _ h4
  obtain ⟨u', hu'⟩ := lst_at ok' hH'
  subst h3
  refine ⟨upd H' a (ckO n a), un_same (by rw [hH']; exact True.intro) hu', ck_shut ok' hH' h5, q (.ref a) (upd F' a (ckO n a)) _ (fun b o eb => ?_) ?_ ⟨a, rfl, upd_same⟩⟩
  · rw [upd_ne (fun z => by rw [z, h6] at eb; cases eb)]; exact h1 b o eb
  · have Nne : ∀ p ∈ N, p.1 ≠ a := fun p hm z => by
      have := h2.off p hm
      rw [z, h4] at this; cases this
    refine ⟨fun b o eb => ?_, fun p hm => by rw [upd_ne (Nne p hm)]; exact h2.on p hm, fun p hm => by rw [upd_ne (Nne p hm)]; exact h2.off p hm, h2.nd, h2.nt, h2.nb, h2.nc, (h2.tb.upd fun P hP => h2.notT hP (.inr ⟨_, hH', fun ps q => nomatch q⟩)).up fun c q hc => (upd_ne (fun z => by rw [z, h4] at hc; cases hc)).trans hc, fun P hP => by rw [upd_ne (h2.notT hP (.inr ⟨_, hH', fun ps q => nomatch q⟩))]; exact h2.ft P hP⟩
    by_cases hba : b = a
    · subst hba; rw [upd_same] at eb ⊢; exact eb
    · rw [upd_ne hba] at eb ⊢; exact h2.ex b o eb
end
end Rs

/-! RsN: own == and !=, in of tuples of data, powers. -/
namespace Nq
open PySem PySem.Spec PyProof.Rows L2 SlX
variable [Rs.Tabz]
section
variable {prog : Program} {w : World} {A : Around} {E : Value → Shared → Prop} {s : Shared} {K : PySem.W.Frag} {x C L f : Addr} {h₀ : Heap} {m : Str → Option Value} {ox : Obj} {od : Option Obj} {b tb : Value}
theorem bound_ne {M : Model} {args : List Value} {Q : Option Value → Shared → Prop} (X : K.In s.heap) (I : PySem.W.InstAt s.heap x ox C od) (hs : PySem.W.findIn K (.ref C) "__ne__" = some (some (.builtin "object.__ne__")))
    (h : wpAny M A (call (.builtin "object.__ne__") (.ref x :: args)) (fun v => Q (some v)) E s) : wpAny M A (callSpecialIfBound? (.ref x) "__ne__" args) Q E s := by
  simp only [callSpecialIfBound?, bindSpecialIfBound?]
  refine wpAny_holding (wpAny_bind (wpAny_bind (wpAny_bind (I.type.here ((PySem.W.looks_findIn X hs).here ?_)))))
  simp only [F.cmp_object.ne.bind]
  refine wpAny_bind (wpAny_askSetting (wpAny_ite ?_))
  have fin : wpAny M A (call (.builtin "object.__ne__") ([.ref x] ++ args) >>= fun v => pure (some v)) Q E s := wpAny_bind (wpAny_mono h (fun v s' h' => wpAny_pure h') fun _ _ h' => h')
  split
  · exact wpAny_bind (wpAny_pure (wpAny_pure (by exact fin)))
  · exact wpAny_tryCatch (wpAny_bind (wpAny_pure (wpAny_pure (by exact fin))))
theorem ne_body {Q : Fin → Shared → Prop} (hu : A.units < cLine) (X : K.In s.heap) (I : PySem.W.InstAt s.heap x ox C od) (hs : PySem.W.findIn K (.ref C) "__eq__" = some (some (.ref f))) (hf : PySem.W.isFn K (.ref f) = true)
    (h : wpAny (model prog w) A (call (.ref f) [.ref x, b]) (fun v s' => ∃ c, v = .bool c ∧ Q (.done (.ret (.bool (!c)))) s') E s) : wpAny (model prog w) A (Builtin.«object.__ne__» ⟨[.ref x, b], []⟩) Q E s := by
  show wpAny _ _ (cRoomFor "comparison" [.ref x, b] >>= _) _ _ _
  refine wpAny_bind (wpAny_cRoomFor hu ?_)
  refine wpAny_bind (PySem.W.ifBound_K X I hs hf (wpAny_mono h (fun v s' hv => ?_) fun _ _ e => e))
  obtain ⟨c, rfl, q⟩ := hv
  show wpAny _ _ (truthy (.bool c) >>= _) _ _ _
  exact wpAny_bind (wpAny_truthy_bool (wpAny_pure q))
theorem ne_K {Q : Value → Shared → Prop} (hu : A.units + 1 < cLine) (F : Fr h₀ L s.heap m) (X₀ : K.In h₀) (I : PySem.W.InstAt s.heap x ox C od) (hb : PySem.W.Looks (model prog w) s.heap (typeOf b) tb) (hn : PySem.W.notFirst K C tb = true)
    (hs : PySem.W.findIn K (.ref C) "__ne__" = some (some (.builtin "object.__ne__"))) (hsub : PySem.W.mroIn K C (.type "object") = some true) (he : PySem.W.findIn K (.ref C) "__eq__" = some (some (.ref f))) (hf : PySem.W.isFn K (.ref f) = true)
    (h : wpAny (model prog w) A.in1 (call (.ref f) [.ref x, b]) (fun v s' => ∃ c, v = .bool c ∧ Q (.bool (!c)) s') E s) : wpAny (model prog w) A (richCompare .NotEq (.ref x) b) Q E s := by
  have X := X₀.keeps F.keep
  have one : wpAny (model prog w) A (tryCompare (.ref x) (cmpInfo .NotEq).2.1 b) (fun r s' => ∃ v, r = some v ∧ Q v s') E s := by
    unfold tryCompare
    refine wpAny_bind (bound_ne X I hs (wpAny_call (codeAny_call_builtin PySem.F.cmp_object.ne.plain PySem.F.cmpEntry_ne (PySem.W.check_slot PySem.F.cmpKind_ne PySem.F.cmpSplit_ne (I.type.andThen (PySem.W.looks_mroIn X hsub)) (PySem.F.cmpArgs_ne _ _)
      (ne_body (A := A.in1) (by show A.units + 1 < cLine; exact hu) X I he hf (wpAny_mono h (fun v s' hv => ?_) fun _ _ e => e))))))
    obtain ⟨c, rfl, q⟩ := hv
    first | exact ⟨c, rfl, wpAny_pure ⟨_, rfl, q⟩⟩ | exact ⟨c, rfl, ⟨_, rfl, q⟩⟩
  unfold richCompare
  simp only [oneThing_ref]
  refine wpAny_holding (wpAny_bind (wpAny_cRoomFor (by omega) ?_))
  refine wpAny_bind (I.type.here (wpAny_bind (hb.here ?_)))
  split
  · rename_i q
    have e : PySem.W.subIn K tb (.ref C) = some false := by
      rcases Bool.or_eq_true_iff.mp hn with e | e
      · rw [beq_iff_eq.mp e] at q; simp at q
      · exact beq_iff_eq.mp e
    refine wpAny_bind ((PySem.W.looks_subIn X e).here ?_)
    simp only [Bool.false_eq_true, if_false]
    refine wpAny_bind (wpAny_mono one (fun r s' z => ?_) fun _ _ e => e)
    obtain ⟨v, rfl, hq⟩ := z
    exact wpAny_pure hq
  · refine wpAny_bind (wpAny_pure ?_)
    simp only [Bool.false_eq_true, if_false]
    refine wpAny_bind (wpAny_mono one (fun r s' z => ?_) fun _ _ e => e)
    obtain ⟨v, rfl, hq⟩ := z
    exact wpAny_pure hq
end
section
variable {X : Cx} {CX : CXT} {C g : Addr} {n : Nat} {sp : Sp} {E : XK}
def CPowX (i j : Int) : Prop := 0 ≤ j ∧ (Builtin.Int.intBits i : Int) * j ≤ 2 ^ 27
theorem op_powX : OpR X (binaryOp .Pow) (rI CPowX fun i j => .int (i ^ j.toNat)) := opI fun _ _ _ _ _ _ _ hc q => pow_int hc.1 hc.2 q
end
end Nq

/-! RsO: runs over lists of objects, own == and !=, written lists. -/
namespace Rs
open PySem PySem.Spec PyProof.Rows L2 SlX StX Ma
variable [Rs.Tabz]
structure EqS (P : Program) (w : World) (K : PySem.W.Frag) (mg : Str → Option Value) (base : Heap) (k : Nat) (C : Addr) (sp : Sp) : Prop where
  ex : ∃ g, PySem.W.findIn K (.ref C) "__ne__" = some (some (.builtin "object.__ne__")) ∧ PySem.W.mroIn K C (.type "object") = some true ∧ PySem.W.findIn K (.ref C) "__eq__" = some (some (.ref g)) ∧ PySem.W.isFn K (.ref g) = true ∧ FnR P w K mg base CX0 k g sp
section
variable {X : Cx}
theorem op_eqO {k j : Nat} {C : Addr} {sp : Sp} (c : EqS X.prog X.w X.K X.mg X.base k C sp) (hr : Room j X.A) (hk : k + 1 ≤ j) : OpR X (compareOp .Eq) (rOwn X.K C sp E0) := by
  obtain ⟨g, h1, h2, h3, h4, F⟩ := c.ex
  exact op_own (op := .Eq) (fun _ _ => rfl) h3 h4 F (hr.mono (by omega)) pass0
end
section
variable {K : PySem.W.Frag} {σ : L2.St} {F : Hp} {L : Cells} {R : VP} {ta tb te : TE} {C : Addr} {E : XK} {S1 S2 : VP}
/-! lists -/
theorem r_cat {α : Type} {f : α → VP} [∀ x, Mono (f x)] {xs ys : List α} (ha : Run (ta σ) F L (Ln (xs.map f))) (hb : Run (tb σ) F L (Ln (ys.map f))) (h1 : xs.length + ys.length ≤ 10000) : Run (tOp rCat ta tb σ) F L (Ln ((xs ++ ys).map f)) :=
  r_op ha hb fun x y F1 e hx' hy => fun F2 N H e2 A Q q => by
    obtain ⟨a, vs, rfl, hs, hr⟩ := hx'
    obtain ⟨b, ws, rfl, hs', hr'⟩ := hy
    have hl : vs.length = xs.length := by rw [each_length hr, List.length_map]
    have hl' : ws.length = ys.length := by rw [each_length hr', List.length_map]
    refine ⟨a, b, vs, ws, rfl, rfl, A.ex _ _ (e2 _ _ hs), A.ex _ _ (e2 _ _ hs'), by rw [sizeLine_eq]; omega, fun p hp => ?_⟩
    refine q _ (upd F2 p _) _ (same_new (A.free hp)) (A.new hp) ⟨p, _, rfl, upd_same, ?_⟩
    rw [List.map_append]
    exact each_app (Mono.go hr (e2.trans (same_new (A.free hp)))) (Mono.go hr' (e2.trans (same_new (A.free hp))))
theorem cut_take {vs : List V} {n : Nat} (h : n ≤ vs.length) : cutV vs none (some (n : Int)) = vs.take n := by
  unfold cutV
  rw [HT.sIx_none, HT.sIx_nat, List.drop_zero, Nat.sub_zero, Nat.min_eq_left h]
theorem cut_drop {vs : List V} {n : Nat} (h : n ≤ vs.length) : cutV vs (some (n : Int)) none = vs.drop n := by
  unfold cutV
  rw [HT.sIx_none, HT.sIx_nat, Nat.min_eq_left h]
  exact List.take_of_length_le (by rw [List.length_drop]; omega)
/-- one of a list -/
theorem r_ixLs {Rs : List VP} [MonoL Rs] {n : Nat} {R : VP} (ha : Run (ta σ) F L (Ls K Rs)) (hb : Run (tb σ) F L (Dt K (.int (n : Nat)))) (hn : Rs[n]? = some R) : Run (tOp (rIxL K) ta tb σ) F L R :=
  r_op ha hb fun x y F1 e hx hy => fun F2 N H e2 A Q q => by
    cases hy
    obtain ⟨a, vs, rfl, hs, hr⟩ := hx
    have hr2 : Each Rs vs F2 := MonoL.mono _ _ _ e2 hr
    have hl := each_length hr2
    have hlt : n < vs.length := by rw [hl]; exact (List.getElem?_eq_some_iff.mp hn).1
    obtain ⟨R', hR', hv⟩ := each_at hr2 (List.getElem?_eq_getElem hlt)
    rw [hn] at hR'
    cases hR'
    refine ⟨a, vs, (n : Int), vs[n], rfl, rfl, sqL_up (e2.trans A.ex) hs, ?_, q _ F2 H (Same.refl _) A hv⟩
    unfold atI ixN
    rw [if_pos (by omega), if_pos (by omega)]
    simp [List.getElem?_eq_getElem hlt]
/-- one of a list of one's own -/
theorem r_ixC {l : Addr} {xs : List V} {n : Nat} {v : V} (hm : (l, HO.lst xs) ∈ L) (ha : Run (ta σ) F L (Eqv (.ref l))) (hb : Run (tb σ) F L (Dt K (.int (n : Nat)))) (hn : xs[n]? = some v) : Run (tOp (rIxL K) ta tb σ) F L (Eqv v) :=
  fun F1 N H e A Q q => ha F1 N H e A _ fun x F2 H2 e2 A2 hx => hb F2 N H2 (e.trans e2) A2 _ fun y F3 H3 e3 A3 hy => by
    cases hx
    cases hy
    have hlt : n < xs.length := (List.getElem?_eq_some_iff.mp hn).1
    refine ⟨l, xs, (n : Int), v, rfl, rfl, .inl (.inl (A3.mem hm)), ?_, q _ F3 H3 (e2.trans e3) A3 rfl⟩
    unfold atI ixN
    rw [if_pos (by omega), if_pos (by omega)]
    simpa using hn
theorem r_ixI {l : Addr} {xs : List Int} {n : Nat} {i : Int} (hm : (l, HO.lst (xs.map V.int)) ∈ L) (ha : Run (ta σ) F L (Eqv (.ref l))) (hb : Run (tb σ) F L (Dt K (.int (n : Nat)))) (hn : xs[n]? = some i) : Run (tOp (rIxL K) ta tb σ) F L (Dt K (.int i)) :=
  (r_ixC hm ha hb (v := .int i) (by rw [List.getElem?_map, hn]; rfl)).weak fun v F1 e h => by
    obtain rfl : v = .int i := h
    exact .int i
theorem r_lstN {t : TA} {Rs : List VP} (h : Run (t σ) F L (Each Rs)) [MonoL Rs] (hl : Rs.length ≤ 100000) : Run (tLst t σ) F L (fun v F1 => ∃ a vs, v = .ref a ∧ F1 a = some (.lst vs) ∧ Each Rs vs F1 ∧ F a = none) := fun F1 N H e A Q q =>
  h F1 N H e A _ fun vs F2 H2 e2 A2 hv => ⟨len_ok (by rw [each_length hv]; exact hl), fun p hp => q _ (upd F2 p _) _ (e2.trans (same_new (A2.free hp))) (A2.new hp) ⟨p, vs, rfl, upd_same, MonoL.mono _ _ _ (same_new (A2.free hp)) hv, (e.trans e2).free (A2.free hp)⟩⟩
end
end Rs

/-! RsP: any whole number; bodies that hand their cells back. -/
namespace Rs
open PySem PySem.Spec PyProof.Rows L2 SlX StX Ma
variable [Rs.Tabz]
theorem room65 {k : Nat} {A : Around} (r : Room k A) : A.units + 65 < cLine := by have := r.un; omega
def IntV : VP := fun v _ => ∃ i : Int, v = .int i
instance : Mono IntV := ⟨fun _ _ _ _ h => h⟩
def BoolV : VP := fun v _ => ∃ b : Bool, v = .bl b
instance : Mono BoolV := ⟨fun _ _ _ _ h => h⟩
/-- a number below t -/
def Bd (t : Nat) : VP := fun v _ => ∃ n : Nat, n < t ∧ v = .int n
instance {t : Nat} : Mono (Bd t) := ⟨fun _ _ _ _ h => h⟩
section
variable {K : PySem.W.Frag} {σ : L2.St} {F : Hp} {L : Cells} {R : VP} {ta tb te : TE} {t : TA} {u w : TS} {tc : TT} {i : Nat} {b : Bool}
theorem r_any {d : Int} (h : Run (te σ) F L (Dt K (.int d))) : Run (te σ) F L IntV := h.weak fun v F1 e hv => ⟨d, dt_int hv⟩
theorem r_anyI {j : Int} : Run (tC (.int j) σ) F L IntV := r_c ⟨j, rfl⟩
theorem r_lnLD {ds : List PyData} (h : Run (te σ) F L (Dt K (.list ds))) : Run (tCB (rLn K) (tCons te tNil) σ) F L (Dt K (.int ds.length)) := by
  have q := r_lnL (Rs := ds.map (Dt K)) (r_cons (h.weak fun v F e hv => ls_dt.mpr hv) r_nil)
  rwa [List.length_map] at q
theorem r_anyB {n : Nat} (h : Run (te σ) F L (Bd n)) : Run (te σ) F L IntV := h.weak fun v F1 e ⟨m, _, hv⟩ => ⟨m, hv⟩
theorem a_op0 {f : Int → Int → Int} (ha : Run (ta σ) F L IntV) (hb : Run (tb σ) F L IntV) : Run (tOp (rI0 fun i j => .int (f i j)) ta tb σ) F L IntV :=
  r_op ha hb fun x y F1 e ⟨i, hx⟩ ⟨j, hy⟩ => by
    subst hx; subst hy
    exact fun F2 N H e2 A Q q => ⟨i, j, rfl, rfl, q _ F2 H (Same.refl _) A ⟨_, rfl⟩⟩
theorem a_cmp {f : Int → Int → Bool} (ha : Run (ta σ) F L IntV) (hb : Run (tb σ) F L IntV) : Run (tOp (rI0 fun i j => .bl (f i j)) ta tb σ) F L BoolV :=
  r_op ha hb fun x y F1 e ⟨i, hx⟩ ⟨j, hy⟩ => by
    subst hx; subst hy
    exact fun F2 N H e2 A Q q => ⟨i, j, rfl, rfl, q _ F2 H (Same.refl _) A ⟨_, rfl⟩⟩
/-- a factor that is small -/
theorem a_mulL {c : Int} (ha : Run (ta σ) F L (Dt K (.int c))) (hb : Run (tb σ) F L IntV) (h : -(2 ^ 64) < c ∧ c < 2 ^ 64) : Run (tOp (rI CMul fun i j => .int (i * j)) ta tb σ) F L IntV :=
  r_op ha hb fun x y F1 e hx ⟨j, hy⟩ => by
    cases hx; subst hy
    exact fun F2 N H e2 A Q q => ⟨c, j, rfl, rfl, .inl h, q _ F2 H (Same.refl _) A ⟨_, rfl⟩⟩
theorem a_mulB {n : Nat} (ha : Run (ta σ) F L (Bd n)) (hb : Run (tb σ) F L IntV) (h : n ≤ 2 ^ 63) : Run (tOp (rI CMul fun i j => .int (i * j)) ta tb σ) F L IntV :=
  r_op ha hb fun x y F1 e ⟨m, hm, hx⟩ ⟨j, hy⟩ => by
    subst hx; subst hy
    have h1 : (n : Int) ≤ 2 ^ 63 := by exact_mod_cast h
    exact fun F2 N H e2 A Q q => ⟨m, j, rfl, rfl, .inl ⟨by omega, by omega⟩, q _ F2 H (Same.refl _) A ⟨_, rfl⟩⟩
theorem a_mod {m : Nat} (ha : Run (ta σ) F L IntV) (hb : Run (tb σ) F L (Dt K (.int (m : Nat)))) (h : 0 < m) : Run (tOp (rI (fun _ j => 0 < j) fun i j => .int (i % j)) ta tb σ) F L (Bd m) :=
  r_op ha hb fun x y F1 e ⟨i, hx⟩ hy => by
    subst hx; cases hy
    have h1 : (0 : Int) ≤ i % (m : Int) := Int.emod_nonneg _ (by omega)
    have h2 : i % (m : Int) < m := Int.emod_lt_of_pos _ (by omega)
    exact fun F2 N H e2 A Q q => ⟨i, m, rfl, rfl, by omega, q _ F2 H (Same.refl _) A ⟨(i % (m : Int)).toNat, by omega, by rw [Int.toNat_of_nonneg h1]⟩⟩
theorem a_modI {m : Int} (ha : Run (ta σ) F L IntV) (hb : Run (tb σ) F L (Dt K (.int m))) (h : 0 < m) : Run (tOp (rI (fun _ j => 0 < j) fun i j => .int (i % j)) ta tb σ) F L IntV :=
  r_op ha hb fun x y F1 e ⟨i, hx⟩ hy => by
    subst hx; cases hy
    exact fun F2 N H e2 A Q q => ⟨i, m, rfl, rfl, h, q _ F2 H (Same.refl _) A ⟨_, rfl⟩⟩
theorem a_div {m : Int} (ha : Run (ta σ) F L IntV) (hb : Run (tb σ) F L (Dt K (.int m))) (h : CDivW 0 m) : Run (tOp (rI CDivW fun i j => .int (i / j)) ta tb σ) F L IntV :=
  r_op ha hb fun x y F1 e ⟨i, hx⟩ hy => by
    subst hx; cases hy
    exact fun F2 N H e2 A Q q => ⟨i, m, rfl, rfl, h, q _ F2 H (Same.refl _) A ⟨_, rfl⟩⟩
theorem a_int (h : Run (t σ) F L (Each [IntV])) : Run (tCB rIntOf t σ) F L IntV := r_cb h fun vs F1 e1 hv => by
  obtain ⟨v, rfl, i, rfl⟩ := each1 hv
  exact fun F2 N H e2 A Q q => .inl ⟨i, rfl, q _ F2 H (Same.refl _) A ⟨i, rfl⟩⟩
theorem a_intB (h : Run (t σ) F L (Each [BoolV])) : Run (tCB rIntOf t σ) F L IntV := r_cb h fun vs F1 e1 hv => by
  obtain ⟨v, rfl, i, rfl⟩ := each1 hv
  exact fun F2 N H e2 A Q q => .inr ⟨i, rfl, q _ F2 H (Same.refl _) A ⟨_, rfl⟩⟩
theorem a_abs (h : Run (t σ) F L (Each [IntV])) : Run (tCB rAbs t σ) F L IntV := r_cb h fun vs F1 e1 hv => by
  obtain ⟨v, rfl, i, rfl⟩ := each1 hv
  exact fun F2 N H e2 A Q q => ⟨i, rfl, q _ F2 H (Same.refl _) A ⟨_, rfl⟩⟩
/-- a test of whatever truth -/
theorem a_test (h : Run (te σ) F L BoolV) : Run (tTest te σ) F L (fun _ _ => True) := run_bind (k := te σ) h fun x F1 e1 ⟨b, hx⟩ => by
  subst hx
  exact run_ex b (run_and (fun _ _ _ _ _ => rfl) (run_ret fun _ _ => True.intro))
theorem a_if (h : Run (tc σ) F L (fun _ _ => True)) (h1 : Run (ta σ) F L R) (h2 : Run (tb σ) F L R) : Run (tIf tc ta tb σ) F L R := run_bind (k := tc σ) h fun b F1 e1 _ => by
  cases b with
  | true => exact fun F2 N H e2 A Q q => iteT (h1 F2 N H (e1.trans e2) A Q q)
  | false => exact fun F2 N H e2 A Q q => iteF (h2 F2 N H (e1.trans e2) A Q q)
/-! bodies that hand their cells back -/
def RunT (t : TS) (σ : L2.St) (F : Hp) (L : Cells) (Rt : V → Hp → Cells → Prop) : Prop :=
  ∀ F1 N H, Same F F1 → At F1 (L ++ N) H → ∀ D : Ends, (∀ v F' L' H', Same F1 F' → At F' (L' ++ N) H' → Rt v F' L' → D.rt v H') → t D σ H
variable {Rt : V → Hp → Cells → Prop}
theorem u_assoc {t u w : TS} (h : RunT (tSeq t (tSeq u w)) σ F L Rt) : RunT (tSeq (tSeq t u) w) σ F L Rt := h
theorem u_next (h : RunT u σ F L Rt) : RunT (tSeq tNext u) σ F L Rt := h
theorem u_set (h : Run (te σ) F L R) (k : ∀ v F1, Same F F1 → R v F1 → RunT u (σ.set i (some v)) F1 L Rt) : RunT (tSeq (tAsg te (gName i)) u) σ F L Rt := fun F1 N H e A D r =>
  h F1 N H e A _ fun v F2 H2 e2 A2 hv => k v F2 (e.trans e2) hv F2 N H2 (Same.refl _) A2 D fun w F3 L3 H3 e3 A3 n => r w F3 L3 H3 (e2.trans e3) A3 n
theorem u_ret (h : Run (te σ) F L R) (k : ∀ v F1, Same F F1 → R v F1 → Rt v F1 L) : RunT (tRet te) σ F L Rt := fun F1 N H e A D r =>
  h F1 N H e A _ fun v F2 H2 e2 A2 hv => r v F2 L H2 e2 A2 (k v F2 (e.trans e2) hv)
theorem u_retq (h : Run (te σ) F L R) (k : ∀ v F1, Same F F1 → R v F1 → Rt v F1 L) : RunT (tSeq (tRet te) u) σ F L Rt := fun F1 N H e A D r =>
  h F1 N H e A _ fun v F2 H2 e2 A2 hv => r v F2 L H2 e2 A2 (k v F2 (e.trans e2) hv)
theorem u_if {t u w : TS} (h : Run (tc σ) F L (fun _ _ => True)) (h1 : RunT (tSeq t w) σ F L Rt) (h2 : RunT (tSeq u w) σ F L Rt) : RunT (tSeq (tIfS tc t u) w) σ F L Rt := fun F1 N H e A D r =>
  h F1 N H e A _ fun b F2 H2 e2 A2 _ => by
    cases b with
    | true => exact iteT (h1 F2 N H2 (e.trans e2) A2 D fun v F3 L3 H3 e3 A3 n => r v F3 L3 H3 (e2.trans e3) A3 n)
    | false => exact iteF (h2 F2 N H2 (e.trans e2) A2 D fun v F3 L3 H3 e3 A3 n => r v F3 L3 H3 (e2.trans e3) A3 n)
theorem u_setC [Mono R] {l : Addr} {xs : List V} {n : Nat} (hv : Run (te σ) F ((l, .lst xs) :: L) R) (ha : Run (ta σ) F ((l, .lst xs) :: L) (Eqv (.ref l))) (hb : Run (tb σ) F ((l, .lst xs) :: L) (Dt K (.int (n : Nat)))) (hn : n < xs.length)
    (k : ∀ v F1, Same F F1 → R v F1 → RunT u σ F1 ((l, .lst (xs.set n v)) :: L) Rt) : RunT (tSeq (tAsg te (gSub ta tb rSetL)) u) σ F ((l, .lst xs) :: L) Rt := fun F1 N H e A D r =>
  hv F1 N H e A _ fun v F2 H2 e2 A2 hvv => ha F2 N H2 (e.trans e2) A2 _ fun x F3 H3 e3 A3 hx => hb F3 N H3 ((e.trans e2).trans e3) A3 _ fun y F4 H4 e4 A4 hy => by
    cases hx
    cases hy
    refine ⟨l, xs, (n : Int), n, rfl, rfl, At.on1 A4, by unfold ixN; rw [if_pos (by omega), if_pos (by omega)]; simp, ?_⟩
    exact k v F4 (((e.trans e2).trans e3).trans e4) (Mono.go hvv (e3.trans e4)) F4 N _ (Same.refl _) (At.put A4) D fun w F5 L5 H5 e5 A5 n => r w F5 L5 H5 (((e2.trans e3).trans e4).trans e5) A5 n
end
section
variable {P : Program} {w : World} {K : PySem.W.Frag} {mg : Str → Option Value} {base : Heap}
theorem cell_ok {n : Nat} {x qual : Str} {st : Stmt} {f : Addr} {fd : FuncData} {N ps : List Str} {k : Nat} {γ : Type} {pre : γ → Prop} {Rs : γ → List VP} {R : γ → VP} (F : Fun K x qual st f fd) (S : FnScope N ps (defScope st)) (len : ∀ g, (Rs g).length + 1 = ps.length)
    (body : ∀ (cdv : Value) (A : Around) (outer : List Env) (s : Shared) (H : Hp) (E : XK) (g : γ) (a : Addr) (xs : List Int) (vs : List V) (F0 : Hp), Room k (A.deeper (envOfC qual (defScope st) s.heap.objs.size f cdv)) → pre g → xs.length = n → Each (Rs g) vs F0 →
      ∃ t, PSs (cxOf CX0 P w K mg base N qual (defScope st) f cdv A outer s H E).nox (defBody st) t ∧ RunT t (start N (.ref a :: vs)) F0 [(a, .lst (xs.map V.int))] (fun v F' L' => R g v F' ∧ ∃ xs' : List Int, xs'.length = n ∧ L' = [(a, .lst (xs'.map V.int))])) :
    FnOk P w K mg base CX0 (k + 1) f fd ps (SpC n pre Rs R) := by
  refine F.ok S (fun vs H Q E ⟨g, F0, N0, a, xs, ws, e, hp, hx, A, hv, q⟩ => ?_) fun cdv A outer s H vs Q E hr ⟨g, F0, N0, a, xs, ws, e, hp, hx, A0, hv, q⟩ => ?_
  · subst e
    rw [List.length_cons, each_length hv]; exact len g
  · subst e
    obtain ⟨t, h1, h2⟩ := body cdv A outer s H E g a xs ws F0 hr hp hx hv
    refine ⟨t, h1, h2 F0 N0 H (Same.refl _) A0 _ fun v F' L' H' e' A' ⟨hr, xs', hx', hl⟩ => ?_⟩
    subst hl
    exact q v F' H' xs' hx' e' A' hr
end
end Rs

/-! RsQ: runs of what is drawn. -/
namespace Rs
open PySem PySem.Spec PyProof.Rows L2 SlX StX Ma
variable [Rs.Tabz]
def NatV : VP := fun v _ => ∃ n : Nat, v = .int n
instance : Mono NatV := ⟨fun _ _ _ _ h => h⟩
def OneD (K : PySem.W.Frag) (ds : List PyData) : VP := fun v F => ∃ d ∈ ds, Dt K d v F
instance {K : PySem.W.Frag} {ds : List PyData} : Mono (OneD K ds) := ⟨fun _ _ _ e ⟨d, h, h1⟩ => ⟨d, h, dp_up e h1⟩⟩
/-- a list of numbers of which P holds -/
def LsP (K : PySem.W.Frag) (P : List Nat → Prop) : VP := fun v F => ∃ ns, P ns ∧ Dt K (.list (ns.map nI)) v F
instance {K : PySem.W.Frag} {P : List Nat → Prop} : Mono (LsP K P) := ⟨fun _ _ _ e ⟨d, h, h1⟩ => ⟨d, h, dp_up e h1⟩⟩
def TpP (K : PySem.W.Frag) (P : List Nat → Prop) : VP := fun v F => ∃ ns, P ns ∧ Dt K (dRow ns) v F
instance {K : PySem.W.Frag} {P : List Nat → Prop} : Mono (TpP K P) := ⟨fun _ _ _ e ⟨d, h, h1⟩ => ⟨d, h, dp_up e h1⟩⟩
def RwP (K : PySem.W.Frag) (P : Rows → Prop) : VP := fun v F => ∃ rs, P rs ∧ Dt K (dRows rs) v F
instance {K : PySem.W.Frag} {P : Rows → Prop} : Mono (RwP K P) := ⟨fun _ _ _ e ⟨d, h, h1⟩ => ⟨d, h, dp_up e h1⟩⟩
section
variable {K : PySem.W.Frag} {σ : L2.St} {F : Hp} {L : Cells} {R S : VP} {ta tb te : TE} {t : TA} {q : List V → Hp → VK → Prop} {E : XK} {Nx : L2.St → Hp → Cells → Prop} {Rt : VP}
theorem r_min2N {i j : Nat} (h : Run (t σ) F L (Each [Dt K (nI i), Dt K (nI j)])) : Run (tCB rMin2 t σ) F L (Dt K (nI (min i j))) := r_cb h fun vs F1 e1 hv => by
  obtain ⟨v, u, rfl, h1, h2⟩ := each2 hv
  cases h1; cases h2
  refine fun F2 N H e2 A Q q => ⟨i, j, rfl, ?_⟩
  by_cases hji : (j : Int) < i
  · rw [if_pos hji, show ((j : Nat) : Int) = ((min i j : Nat) : Int) from by omega]
    exact q _ F2 H (Same.refl _) A (.int _)
  · rw [if_neg hji, show ((i : Nat) : Int) = ((min i j : Nat) : Int) from by omega]
    exact q _ F2 H (Same.refl _) A (.int _)
theorem r_max2N {i j : Nat} (h : Run (t σ) F L (Each [Dt K (nI i), Dt K (nI j)])) : Run (tCB rMax2 t σ) F L (Dt K (nI (max i j))) := r_cb h fun vs F1 e1 hv => by
  obtain ⟨v, u, rfl, h1, h2⟩ := each2 hv
  cases h1; cases h2
  refine fun F2 N H e2 A Q q => ⟨i, j, rfl, ?_⟩
  by_cases hji : (j : Int) > i
  · rw [if_pos hji, show ((j : Nat) : Int) = ((max i j : Nat) : Int) from by omega]
    exact q _ F2 H (Same.refl _) A (.int _)
  · rw [if_neg hji, show ((i : Nat) : Int) = ((max i j : Nat) : Int) from by omega]
    exact q _ F2 H (Same.refl _) A (.int _)
end
end Rs

/-! Mc: parts. -/
namespace Ma
open PySem Rs L2
variable [Rs.Tabz]
end Ma

/-! Md: rounds and roots. -/
namespace Ma
open PySem Rs L2
variable [Rs.Tabz]
def wholeR (webs : List Rows) (n : Nat) : Rows := webs.foldl thenR (silentR n)
theorem fold_len : ∀ (l : List Rows) (z : Rows), (l.foldl thenR z).length = z.length
  | [], _ => rfl
  | _ :: l, z => by rw [List.foldl_cons, fold_len l, then_len]
/-! ### who has heard -/
theorem Reach.trans {rs : Rows} {x y z : Nat} (h1 : Reach rs x y) (h2 : Reach rs y z) : Reach rs x z := by
  induction h2 with
  | refl => exact h1
  | step _ a b ih => exact .step ih a b
open Classical in
open Classical in
/-! ### roots -/
/-! ### the closure -/
end Ma

/-! RsR: lists of webs. -/
namespace Rs
open PySem PySem.Spec PyProof.Rows L2 SlX StX Ma
variable [Rs.Tabz]
/-- a list of webs of which P holds -/
def WsP (C : Addr) (K : PySem.W.Frag) (P : List Rows → Prop) : VP := fun v F => ∃ l, P l ∧ Ln (l.map fun r => webP C K r) v F
instance {C : Addr} {K : PySem.W.Frag} {P : List Rows → Prop} : Mono (WsP C K P) := ⟨fun _ _ _ e ⟨l, h, h1⟩ => ⟨l, h, Mono.go h1 e⟩⟩
def WbP (C : Addr) (K : PySem.W.Frag) (P : Rows → Prop) : VP := fun v F => ∃ r, P r ∧ webP C K r v F
instance {C : Addr} {K : PySem.W.Frag} {P : Rows → Prop} : Mono (WbP C K P) := ⟨fun _ _ _ e ⟨l, h, h1⟩ => ⟨l, h, Mono.go h1 e⟩⟩
def NumP (P : Nat → Prop) : VP := fun v _ => ∃ n : Nat, P n ∧ v = .int n
instance {P : Nat → Prop} : Mono (NumP P) := ⟨fun _ _ _ _ h => h⟩
section
variable {K : PySem.W.Frag} {σ : L2.St} {F : Hp} {L : Cells} {R S : VP} {ta tb te : TE} {t : TA} {E : XK} {C : Addr}
/-! a for over what is drawn -/
variable {Nx : L2.St → Hp → Cells → Prop} {Rt : VP} {tb' u : TS} {g : TG} {wi : TI}
end
end Rs

/-! RsS: the length of a set of ints; lists of two starred rows. -/
namespace Rs
open PySem PySem.Spec PyProof.Rows L2 SlX StX Ma
variable [Rs.Tabz]
section
variable {X : Cx}
variable {e : Expr} {es : List Expr} {t : TA} {p pos : Pos}
end
section
variable {K : PySem.W.Frag} {w : World} {σ : L2.St} {F : Hp} {L : Cells} {t : TA} {ta tb te : TE}
end
end Rs

/-! RsU: list(range(..)), tuple(range(..)), texts. -/
namespace Rs
open PySem PySem.Spec PyProof.Rows L2 SlX StX Ma
variable [Rs.Tabz]
section
variable {X : Cx} {a : Expr} {ta : TE} {p q pos pos2 : Pos}
theorem p_listRg (hc : X.calm = true) (B : Bf X.mg) (ha : PE X a ta) (hg : Gl X "list" := by rfl) (hgr : Gl X "range" := by rfl) (na : starEach [a] X.env = (false, eval a X.env) :: starEach [] X.env := by rfl)
    (nb : starEach [.Call (.Name "range" q) [a] [] pos2] X.env = (false, eval (.Call (.Name "range" q) [a] [] pos2) X.env) :: starEach [] X.env := by rfl) :
    PE X (.Call (.Name "list" p) [.Call (.Name "range" q) [a] [] pos2] [] pos) (tLstRg (tRg1 ta)) := pe_listRg hc hg B.list (prg_1 hgr B.range ha na) nb
theorem p_str (B : Bf X.mg) {e : Expr} {es : List Expr} {t : TA} (hm : X.mg "str" = none) (ha : PA X (e :: es) t) (hg : Gl X "str" := by rfl) (he : starEach (e :: es) X.env = (false, eval e X.env) :: starEach es X.env := by rfl) (hpl : (backTo pos (starEach es X.env)).any (·.1) = false := by rfl) :
    PE X (.Call (.Name "str" p) (e :: es) [] pos) (tCB (fun xs H Q => ∃ i, xs = [.int i] ∧ i.natAbs.log2 < 1920 ∧ Q (.str (toString i)) H) t) := pe_callTy call_str_int hg hm boot_str ha (by decide) (by decide) he hpl
end
section
variable {K : PySem.W.Frag} {σ : L2.St} {F : Hp} {L : Cells} {R : VP} {t : TA} {ta tb te : TE}
theorem rgV_nat (n : Nat) : rgV 0 (n : Int) = (List.range n).map fun i : Nat => V.int ((i : Nat) : Int) := by
  unfold rgV
  rw [show ((n : Int) - 0).toNat = n from by omega]
  exact List.map_congr_left fun (i : Nat) _ => congrArg V.int (Int.zero_add _)
theorem each_ints : ∀ {xs : List Nat} {F : Hp}, Each (xs.map fun x => Dt K (nI x)) (xs.map fun i : Nat => V.int ((i : Nat) : Int)) F
  | [], _ => True.intro
  | _ :: _, _ => ⟨.int _, each_ints⟩
theorem log_small {n : Nat} (h : n ≤ 1000) : ((n : Int)).natAbs.log2 < 1920 := by
  rw [Int.natAbs_natCast]
  by_cases h0 : n = 0
  · subst h0; decide
  · exact Nat.lt_of_lt_of_le ((Nat.log2_lt h0).mpr (show n < 2 ^ 10 by omega)) (by decide)
theorem r_strI {n : Nat} (h : Run (t σ) F L (Each [Dt K (nI n)])) (hn : n ≤ 1000) : Run (tCB (fun xs H Q => ∃ i, xs = [V.int i] ∧ i.natAbs.log2 < 1920 ∧ Q (.str (toString i)) H) t σ) F L (Dt K (.str (toString (n : Int)))) := r_cb h fun vs F1 e hv => by
  obtain ⟨v, rfl, hw⟩ := each1 hv
  cases hw
  exact run_ex (n : Int) (run_and (fun _ _ _ _ _ => rfl) (run_and (fun _ _ _ _ _ => log_small hn) (run_ret fun _ _ => .str _)))
theorem r_addS {x y : PySem.Str} (ha : Run (ta σ) F L (Dt K (.str x))) (hb : Run (tb σ) F L (Dt K (.str y))) (hl : x.length + y.length ≤ 100000) : Run (tOp (fun u v H Q => ∃ i j, u = V.str i ∧ v = .str j ∧ i.length + j.length ≤ sizeLine ∧ Q (.str (i ++ j)) H) ta tb σ) F L (Dt K (.str (x ++ y))) :=
  r_op ha hb fun u v F1 e hx hy => by
    cases hx; cases hy
    exact run_ex x (run_ex y (run_and (fun _ _ _ _ _ => rfl) (run_and (fun _ _ _ _ _ => rfl) (run_and (fun _ _ _ _ _ => len_ok hl) (run_ret fun _ _ => .str _)))))
end
section
variable {X : Cx} {a b : Expr} {rest : List Expr} {ta tb : TE} {pos : Pos}
end
end Rs

/-! RsV: own len, str, in. -/
namespace Rs
open PySem PySem.Spec PyProof.Rows L2 SlX StX Ma
variable [Rs.Tabz]
section
variable {X : Cx} {CX : CXT} {C g : Addr} {n : Nat} {sp : Sp} {E : XK}
def rLenOwn (C : Addr) (sp : Sp) (E : XK) : List V → Hp → VK → Prop := fun xs H Q => ∃ a dx vs, xs = [V.ref a] ∧ Slt H a C dx vs ∧ sp [.ref a] H (fun z H' => ∃ i : Int, z = .int i ∧ 0 ≤ i ∧ i < 2 ^ 63 ∧ Q z H') E
theorem call_lenOwn (hs : PySem.W.findIn X.K (.ref C) "__len__" = some (some (.ref g))) (hf : PySem.W.isFn X.K (.ref g) = true) (F : FnR X.prog X.w X.K X.mg X.base CX n g sp) (hr : Room (n + 1) X.A) (hx : Passes CX X E) : CallR X (.builtin "len") (rLenOwn C sp E) := by
  intro pins s σ H xs us Q I r h
  obtain ⟨a, dx, vs, rfl, hsl, q⟩ := h
  obtain ⟨u, rfl, ru⟩ := r.one
  cases (show u = Value.ref a from ru)
  obtain ⟨sl, od, _, J, _⟩ := slt_inst I hsl
  obtain ⟨m, hF⟩ := I.fr
  have hr2 : Room n X.A.in1 := Room.in1 hr
  refine PySem.W.len_K hF I.ok.mod.kin J hs hf (wpAny_mono (wpAny_call (run_at (us := [.ref a]) (ws := [.ref a]) F hr2 I.env0.in1 hx I (.cons rfl .nil) q)) (fun w s' z => ?_) fun _ _ x => x)
  obtain ⟨z', H', I', rz, i, ei, h0, h1, qz⟩ := z
  subst ei
  obtain ⟨t, e⟩ := (show ∃ t, w = Value.int i t from rz)
  cases e
  exact ⟨⟨h0, h1⟩, .int i, H', I'.tok _, ⟨_, rfl⟩, qz⟩
def rStrOwn (C : Addr) (sp : Sp) (E : XK) : List V → Hp → VK → Prop := fun xs H Q => ∃ a dx vs, xs = [V.ref a] ∧ Slt H a C dx vs ∧ sp [.ref a] H (fun z H' => ∃ y : Str, z = .str y ∧ Q z H') E
theorem call_strOwn (hs : PySem.W.findIn X.K (.ref C) "__str__" = some (some (.ref g))) (hf : PySem.W.isFn X.K (.ref g) = true) (F : FnR X.prog X.w X.K X.mg X.base CX n g sp) (hr : Room (n + 2) X.A) (hx : Passes CX X E) : CallR X (.type "str") (rStrOwn C sp E) := by
  intro pins s σ H xs us Q I r h
  obtain ⟨a, dx, vs, rfl, hsl, q⟩ := h
  obtain ⟨u, rfl, ru⟩ := r.one
  cases (show u = Value.ref a from ru)
  obtain ⟨sl, od, _, J, _⟩ := slt_inst I hsl
  have hr2 : Room n X.A.in1.in1 := (show Room (n + 1) X.A.in1 from Room.in1 hr).in1
  refine PySem.W.kso_call hr2.units0 I.kIn J hs hf (wpAny_mono (wpAny_call (run_at (us := [.ref a]) (ws := [.ref a]) F hr2 I.env0.in1.in1 hx I (.cons rfl .nil) q)) (fun w s' z => ?_) fun _ _ x => x)
  obtain ⟨z', H', I', rz, y, ey, qz⟩ := z
  subst ey
  obtain ⟨t, e⟩ := (show ∃ t, w = Value.str y t from rz)
  cases e
  exact ⟨.str y, H', I', ⟨t, rfl⟩, qz⟩
def rInOwn (C : Addr) (sp : Sp) (E : XK) : R2 := fun x y H Q => ∃ a dx vs, y = V.ref a ∧ Slt H a C dx vs ∧ sp [.ref a, x] H (fun z H' => ∃ b : Bool, z = .bl b ∧ Q (.bl b) H') E
theorem op_inOwn (hs : PySem.W.findIn X.K (.ref C) "__contains__" = some (some (.ref g))) (hf : PySem.W.isFn X.K (.ref g) = true) (F : FnR X.prog X.w X.K X.mg X.base CX n g sp) (hr : Room n X.A) (hx : Passes CX X E) : OpR X (compareOp .In) (rInOwn C sp E) := by
  intro pins s σ H x y v u Q I rx ry h
  obtain ⟨a, dx, vs, rfl, hsl, q⟩ := h
  cases (show u = Value.ref a from ry)
  obtain ⟨sl, od, _, J, _⟩ := slt_inst I hsl
  obtain ⟨m, hF⟩ := I.fr
  refine PySem.W.in_K hF I.ok.mod.kin J hs hf (wpAny_mono (wpAny_call (run_at (us := [.ref a, v]) (ws := [.ref a, x]) F hr I.env0 hx I (.cons rfl (.cons rx .nil)) q)) (fun w s' z => ?_) fun _ _ x => x)
  obtain ⟨z', H', I', rz, b, eb, qz⟩ := z
  subst eb
  cases (show w = Value.bool b from rz)
  exact wpAny_truthy_bool ⟨.bl b, H', I', rfl, qz⟩
end
/-- the own len, str and in of the class at C -/
structure OwnS (P : Program) (w : World) (K : PySem.W.Frag) (mg : Str → Option Value) (base : Heap) (nm : Str) (k : Nat) (C : Addr) (sp : Sp) : Prop where
  ex : ∃ g, PySem.W.findIn K (.ref C) nm = some (some (.ref g)) ∧ PySem.W.isFn K (.ref g) = true ∧ FnR P w K mg base CX0 k g sp
section
variable {X : Cx} {k j : Nat} {C : Addr} {sp : Sp} {e : Expr} {es : List Expr} {t : TA} {p pos : Pos}
theorem p_lenO (B : Bf X.mg) (c : OwnS X.prog X.w X.K X.mg X.base "__len__" k C sp) (hr : Room j X.A) (hk : k + 1 ≤ j) (ha : PA X (e :: es) t) (hg : Gl X "len" := by rfl) (he : starEach (e :: es) X.env = (false, eval e X.env) :: starEach es X.env := by rfl) (hpl : (backTo pos (starEach es X.env)).any (·.1) = false := by rfl) :
    PE X (.Call (.Name "len" p) (e :: es) [] pos) (tCB (rLenOwn C sp E0) t) := by
  obtain ⟨g, h1, h2, F⟩ := c.ex
  exact pe_callB (call_lenOwn h1 h2 F (hr.mono hk) pass0) hg B.len PySem.boot_len ha (by decide) (by decide) he hpl
theorem p_strO (hm : X.mg "str" = none) (c : OwnS X.prog X.w X.K X.mg X.base "__str__" k C sp) (hr : Room j X.A) (hk : k + 2 ≤ j) (ha : PA X (e :: es) t) (hg : Gl X "str" := by rfl) (he : starEach (e :: es) X.env = (false, eval e X.env) :: starEach es X.env := by rfl) (hpl : (backTo pos (starEach es X.env)).any (·.1) = false := by rfl) :
    PE X (.Call (.Name "str" p) (e :: es) [] pos) (tCB (rStrOwn C sp E0) t) := by
  obtain ⟨g, h1, h2, F⟩ := c.ex
  exact pe_callTy (call_strOwn h1 h2 F (hr.mono hk) pass0) hg hm boot_str ha (by decide) (by decide) he hpl
theorem op_inO (c : OwnS X.prog X.w X.K X.mg X.base "__contains__" k C sp) (hr : Room j X.A) (hk : k ≤ j) : OpR X (compareOp .In) (rInOwn C sp E0) := by
  obtain ⟨g, h1, h2, F⟩ := c.ex
  exact op_inOwn h1 h2 F (hr.mono hk) pass0
end
section
variable {K : PySem.W.Frag} {σ : L2.St} {F : Hp} {L : Cells} {R : VP} {ta tb te : TE} {t : TA} {C : Addr} {E : XK} {S1 S2 : VP}
end
/-! f'..' -/
section
variable {K : PySem.W.Frag} {σ : L2.St} {F : Hp} {L : Cells} {te : TE}
theorem r_fmtI {n : Nat} (h : Run (te σ) F L (Dt K (nI n))) (hn : n ≤ 1000) : Run (tFmt te σ) F L (Dt K (.str (toString (n : Int)))) :=
  run_bind (k := te σ) h fun x F1 e hx => fun F2 N H e2 A Q q => by
    cases hx
    exact .inr ⟨n, rfl, log_small hn, q _ F2 H (Same.refl _) A (.str _)⟩
end
/-! words within comprehension blocks: the world told too -/
section
variable {X : Cx} {e : Expr} {es : List Expr} {t : TA} {p pos : Pos}
end
end Rs

/-! Tw0: from readings to what they ask in plain terms: no heap, no places. -/
namespace Tw
open PySem PySem.Spec PyProof.Rows L2 SlX StX Rs Ma
variable [Rs.Tabz]
/-- what is wanted of a result, of an exception -/
abbrev Wm (ε α : Type) := (α → Prop) → (ε → Prop) → Prop
@[reducible] def pur {ε α : Type} (a : α) : Wm ε α := fun Q _ => Q a
/-- how exceptions are told -/
structure Wsh (ε : Type) where
  wi : WX
  xr : ε → Value → Option Addr → Hp → Prop
  t : L2.St → Hp → Cells → Prop
  tl : ∀ σ F L M, t σ F L → t σ F (L ++ M)
section
variable {ε α β γ : Type} {Z : Wsh ε} {F F' F1 : Hp} {N M L : Cells} {X X' : ε → Prop}
def WishOk (Z : Wsh ε) (F : Hp) (N : Cells) (X : ε → Prop) : Prop := ∀ e cls d σ F1 L1 H1, Same F F1 → At F1 (L1 ++ N) H1 → Z.t σ F1 L1 → X e → Z.xr e cls d F1 → Z.wi cls d σ H1
theorem WishOk.up (h : WishOk Z F N X) (e : Same F F') : WishOk Z F' N X := fun x cls d σ F1 L1 H1 e1 => h x cls d σ F1 L1 H1 (e.trans e1)
theorem WishOk.push (h : WishOk Z F N X) : WishOk Z F (M ++ N) X := fun x cls d σ F1 L1 H1 e1 A t q r =>
  h x cls d σ F1 (L1 ++ M) H1 e1 (by rw [List.append_assoc]; exact A) (Z.tl _ _ _ _ t) q r
theorem WishOk.push1 {c : Addr × HO} (h : WishOk Z F N X) : WishOk Z F (c :: N) X := h.push (M := [c])
theorem WishOk.imp (h : WishOk Z F N X) (i : ∀ e, X' e → X e) : WishOk Z F N X' := fun x cls d σ F1 L1 H1 e1 A t q r => h x cls d σ F1 L1 H1 e1 A t (i _ q) r
/-- as Run, with the wish of exceptions -/
def RunW (Z : Wsh ε) (k : Hp → (α → Hp → Prop) → Prop) (F : Hp) (L : Cells) (R : α → Hp → Prop) (X : ε → Prop) : Prop :=
  ∀ F1 N H, Same F F1 → At F1 (L ++ N) H → WishOk Z F1 N X → ∀ Q : α → Hp → Prop, (∀ v F2 H2, Same F1 F2 → At F2 (L ++ N) H2 → R v F2 → Q v H2) → k H Q
variable {k : Hp → (α → Hp → Prop) → Prop} {R R' : α → Hp → Prop}
theorem RunW.of (h : Run k F L R) : RunW Z k F L R X := fun F1 N H e A _ Q q => h F1 N H e A Q q
theorem RunW.up (h : RunW Z k F L R X) (e : Same F F1) : RunW Z k F1 L R X := fun F2 N H e2 A w Q q => h F2 N H (e.trans e2) A w Q q
theorem RunW.weak (h : RunW Z k F L R X) (hr : ∀ v F2, Same F F2 → R v F2 → R' v F2) : RunW Z k F L R' X := fun F2 N H e2 A w Q q =>
  h F2 N H e2 A w Q fun v F3 H3 e3 A3 r => q v F3 H3 e3 A3 (hr v F3 (e2.trans e3) r)
theorem rw_bind {k2 : α → Hp → (β → Hp → Prop) → Prop} {S : β → Hp → Prop} (h1 : RunW Z k F L R X) (h2 : ∀ v F1, Same F F1 → R v F1 → RunW Z (k2 v) F1 L S X) : RunW Z (fun H Q => k H fun v H1 => k2 v H1 Q) F L S X := fun F1 N H e A w Q q =>
  h1 F1 N H e A w _ fun v F2 H2 e2 A2 r => h2 v F2 (e.trans e2) r F2 N H2 (Same.refl _) A2 (w.up e2) Q fun u F3 H3 e3 A3 s => q u F3 H3 (e2.trans e3) A3 s
theorem rw_ret {v : α} (h : ∀ F1, Same F F1 → R v F1) : RunW Z (fun H Q => Q v H) F L R X := RunW.of (run_ret h)
end

/-! ### what the slots hold -/
def SatV : List (Option VP) → L2.St → Hp → Prop
  | [], [], _ => True
  | none :: ρ, _ :: σ, F => SatV ρ σ F
  | some R :: ρ, o :: σ, F => (∃ v, o = some v ∧ R v F ∧ Mono R) ∧ SatV ρ σ F
  | _, _, _ => False
def lk : List (Option VP) → Nat → Option VP
  | [], _ => none
  | o :: _, 0 => o
  | _ :: ρ, i + 1 => lk ρ i
def st : List (Option VP) → Nat → Option VP → List (Option VP)
  | [], _, _ => []
  | _ :: ρ, 0, o => o :: ρ
  | p :: ρ, i + 1, o => p :: st ρ i o
def wipeE (ρ : List (Option VP)) : List Nat → List (Option VP)
  | [] => ρ
  | v :: vs => st (wipeE ρ vs) v none
section
variable {ρ ρ' : List (Option VP)} {σ σ' : L2.St} {F F' : Hp} {i j : Nat} {R : VP} {v : V}
theorem satV_up (e : Same F F') : ∀ {ρ σ}, SatV ρ σ F → SatV ρ σ F'
  | [], [], _ => True.intro
  | none :: ρ, _ :: σ, h => satV_up (ρ := ρ) (σ := σ) e h
  | some R :: ρ, o :: σ, ⟨⟨v, h1, h2, h3⟩, h⟩ => ⟨⟨v, h1, h3.mono _ _ _ e h2, h3⟩, satV_up (ρ := ρ) (σ := σ) e h⟩
  | [], _ :: _, h => h.elim
  | none :: _, [], h => h.elim
  | some _ :: _, [], h => h.elim
theorem satV_get : ∀ {ρ σ i}, SatV ρ σ F → lk ρ i = some R → ∃ v, σ[i]? = some (some v) ∧ R v F ∧ Mono R
  | none :: ρ, _ :: σ, 0, h, e => nomatch e
  | none :: ρ, _ :: σ, i + 1, h, e => satV_get (ρ := ρ) (σ := σ) (i := i) h e
  | some S :: ρ, o :: σ, 0, ⟨⟨v, h1, h2, h3⟩, h⟩, e => by
    cases e
    exact ⟨v, by rw [h1]; rfl, h2, h3⟩
  | some S :: ρ, o :: σ, i + 1, ⟨_, h⟩, e => satV_get (ρ := ρ) (σ := σ) (i := i) h e
  | [], _, _, _, e => nomatch e
  | none :: _, [], _, h, _ => h.elim
  | some _ :: _, [], _, h, _ => h.elim
theorem satV_none : ∀ {ρ σ i} {o : Option V}, SatV ρ σ F → SatV (st ρ i none) (σ.set i o) F
  | [], [], _, _, h => h
  | none :: ρ, _ :: σ, 0, _, h => h
  | none :: ρ, _ :: σ, i + 1, o, h => satV_none (ρ := ρ) (σ := σ) (i := i) (o := o) h
  | some S :: ρ, _ :: σ, 0, _, h => h.2
  | some S :: ρ, _ :: σ, i + 1, o, h => ⟨h.1, satV_none (ρ := ρ) (σ := σ) (i := i) (o := o) h.2⟩
  | [], _ :: _, _, _, h => h.elim
  | none :: _, [], _, _, h => h.elim
  | some _ :: _, [], _, _, h => h.elim
theorem satV_set (hr : R v F) (m : Mono R) : ∀ {ρ σ i}, SatV ρ σ F → SatV (st ρ i (some R)) (σ.set i (some v)) F
  | [], [], _, h => h
  | none :: ρ, _ :: σ, 0, h => ⟨⟨v, rfl, hr, m⟩, h⟩
  | none :: ρ, _ :: σ, i + 1, h => satV_set hr m (ρ := ρ) (σ := σ) (i := i) h
  | some S :: ρ, _ :: σ, 0, h => ⟨⟨v, rfl, hr, m⟩, h.2⟩
  | some S :: ρ, _ :: σ, i + 1, h => ⟨h.1, satV_set hr m (ρ := ρ) (σ := σ) (i := i) h.2⟩
  | [], _ :: _, _, h => h.elim
  | none :: _, [], _, h => h.elim
  | some _ :: _, [], _, h => h.elim
theorem satV_wipe (h : SatV ρ σ F) : ∀ vs, SatV (wipeE ρ vs) (wipe σ vs) F
  | [] => h
  | v :: vs => satV_none (satV_wipe h vs)
/-- some is forgotten -/
def leV : List (Option VP) → List (Option VP) → Prop
  | [], [] => True
  | _ :: ρ, none :: ρ' => leV ρ ρ'
  | some R :: ρ, some R' :: ρ' => R = R' ∧ leV ρ ρ'
  | _, _ => False
theorem satV_le : ∀ {ρ ρ' σ}, leV ρ ρ' → SatV ρ σ F → SatV ρ' σ F
  | [], [], _, _, h => h
  | none :: ρ, none :: ρ', _ :: σ, l, h => satV_le (ρ := ρ) (ρ' := ρ') (σ := σ) l h
  | some R :: ρ, none :: ρ', _ :: σ, l, h => satV_le (ρ := ρ) (ρ' := ρ') (σ := σ) l h.2
  | some R :: ρ, some R' :: ρ', o :: σ, l, h => by
    obtain ⟨l1, l2⟩ := l
    subst l1
    exact ⟨h.1, satV_le (ρ := ρ) (ρ' := ρ') (σ := σ) l2 h.2⟩
  | none :: _, some _ :: _, _, l, _ => l.elim
  | [], _ :: _, _, l, _ => l.elim
  | none :: _, [], _, l, _ => l.elim
  | some _ :: _, [], _, l, _ => l.elim
  | none :: _, none :: _, [], _, h => h.elim
  | some _ :: _, none :: _, [], _, h => h.elim
  | some _ :: _, some _ :: _, [], _, h => h.elim
end

/-! ### cells of one's own -/
/-- a cell of one's own that a slot holds; a thing of several cells -/
inductive Ow where
  | one (i : Nat) (p : Addr → HO → Hp → Prop)
  | many (i : Nat) (P : Addr → Cells → Hp → Prop)
def Ow.slot : Ow → Nat
  | .one i _ => i
  | .many i _ => i
def Ow.hold : Ow → Addr → Cells → Hp → Prop
  | .one _ p => fun a M F => ∃ o, M = [(a, o)] ∧ p a o F
  | .many _ P => P
def SatC : List Ow → L2.St → Hp → Cells → Prop
  | [], _, _, _ => True
  | .one i p :: κ, σ, F, L => ∃ a o L', L = (a, o) :: L' ∧ σ[i]? = some (some (.ref a)) ∧ (∀ F', Same F F' → p a o F') ∧ SatC κ σ F L'
  | .many i P :: κ, σ, F, L => ∃ a M L', L = M ++ L' ∧ σ[i]? = some (some (.ref a)) ∧ (∀ F', Same F F' → P a M F') ∧ SatC κ σ F L'
theorem satC_cons {c : Ow} {κ : List Ow} {σ : L2.St} {F : Hp} {L : Cells} : SatC (c :: κ) σ F L ↔ ∃ a M L', L = M ++ L' ∧ σ[c.slot]? = some (some (.ref a)) ∧ (∀ F', Same F F' → c.hold a M F') ∧ SatC κ σ F L' := by
  cases c with
  | one i p =>
    refine ⟨fun ⟨a, o, L', h1, h2, h3, h4⟩ => ⟨a, [(a, o)], L', h1, h2, fun F' e => ⟨o, rfl, h3 F' e⟩, h4⟩, fun ⟨a, M, L', h1, h2, h3, h4⟩ => ?_⟩
    obtain ⟨o, hM, _⟩ := h3 F (Same.refl _)
    subst hM
    refine ⟨a, o, L', h1, h2, fun F' e => ?_, h4⟩
    obtain ⟨o', hM, hp⟩ := h3 F' e
    cases hM
    exact hp
  | many i P => exact Iff.rfl
/-- a list of one's own -/
def ownL (Rs : List VP) : Addr → HO → Hp → Prop := fun _ o F => ∃ vs, o = .lst vs ∧ Each Rs vs F
def freeC (i : Nat) : List Ow → Bool
  | [] => true
  | c :: κ => !(Nat.beq c.slot i) && freeC i κ
def freeCs (vs : List Nat) (κ : List Ow) : Bool := vs.all fun v => freeC v κ
section
variable {κ κ' : List Ow} {σ σ' : L2.St} {F F' : Hp} {L M : Cells} {i j : Nat} {v : V} {o : Option V}
theorem satC_up (e : Same F F') : ∀ {κ L}, SatC κ σ F L → SatC κ σ F' L
  | [], _, _ => True.intro
  | c :: κ, _, h => let ⟨a, o, L', h1, h2, h3, h4⟩ := satC_cons.mp h; satC_cons.mpr ⟨a, o, L', h1, h2, fun F2 e2 => h3 F2 (e.trans e2), satC_up e h4⟩
theorem satC_set : ∀ {κ L}, freeC i κ = true → SatC κ σ F L → SatC κ (σ.set i o) F L
  | [], _, _, _ => True.intro
  | c :: κ, _, f, h => by
    obtain ⟨a, o, L', h1, h2, h3, h4⟩ := satC_cons.mp h
    rw [freeC, Bool.and_eq_true] at f
    obtain ⟨f1, f2⟩ := f
    refine satC_cons.mpr ⟨a, o, L', h1, ?_, h3, satC_set f2 h4⟩
    rw [List.getElem?_set_ne, h2]
    intro z
    rw [z, Nat.beq_refl] at f1
    cases f1
theorem satC_wipe (h : SatC κ σ F L) : ∀ {vs}, freeCs vs κ = true → SatC κ (wipe σ vs) F L
  | [], _ => h
  | v :: vs, f => by
    rw [freeCs, List.all_cons, Bool.and_eq_true] at f
    exact satC_set f.1 (satC_wipe h f.2)
/-- the same slots hold the same -/
theorem satC_agree {js : List Nat} (ag : ∀ i, i ∉ js → σ'[i]? = σ[i]?) : ∀ {κ L}, freeCs js κ = true → SatC κ σ F L → SatC κ σ' F L
  | [], _, _, _ => True.intro
  | c :: κ, _, f, h => by
    obtain ⟨a, o, L', h1, h2, h3, h4⟩ := satC_cons.mp h
    refine satC_cons.mpr ⟨a, o, L', h1, ?_, h3, satC_agree ag ?_ h4⟩
    · rw [ag, h2]
      intro z
      have := List.all_eq_true.mp f _ z
      rw [freeC, Bool.and_eq_true, Nat.beq_refl] at this
      exact absurd this.1 (by decide)
    · refine List.all_eq_true.mpr fun x hx => ?_
      have := List.all_eq_true.mp f x hx
      rw [freeC, Bool.and_eq_true] at this
      exact this.2
/-- two things change places -/
theorem satC_swap {c d : Ow} (h : SatC (c :: d :: κ) σ F L) : ∃ L2, L.Perm L2 ∧ SatC (d :: c :: κ) σ F L2 := by
  obtain ⟨a, M, L', h1, h2, h3, h4⟩ := satC_cons.mp h
  obtain ⟨a', M', L'', h1', h2', h3', h4'⟩ := satC_cons.mp h4
  subst h1 h1'
  refine ⟨M' ++ (M ++ L''), ?_, satC_cons.mpr ⟨a', M', _, rfl, h2', h3', satC_cons.mpr ⟨a, M, L'', rfl, h2, h3, h4'⟩⟩⟩
  rw [← List.append_assoc, ← List.append_assoc]
  exact List.perm_append_comm.append_right _
end

/-! ### the judgements -/
section
variable {ε α β γ δ S : Type}
structure TrE (Z : Wsh ε) (ρ : List (Option VP)) (κ : List Ow) (te : TE) (m : Wm ε α) (R : α → VP) : Prop where
  mono : ∀ a, Mono (R a)
  run : ∀ σ F L, SatV ρ σ F → SatC κ σ F L → ∀ Q X, m Q X → RunW Z (te σ) F L (fun v F1 => ∃ a, Q a ∧ R a v F1) X
structure TrT (Z : Wsh ε) (ρ : List (Option VP)) (κ : List Ow) (tt : TT) (m : Wm ε Bool) : Prop where
  run : ∀ σ F L, SatV ρ σ F → SatC κ σ F L → ∀ Q X, m Q X → RunW Z (tt σ) F L (fun b _ => Q b) X
structure TrA (Z : Wsh ε) (ρ : List (Option VP)) (κ : List Ow) (ta : TA) (m : Wm ε γ) (Rs : γ → List VP) : Prop where
  mono : ∀ g, MonoL (Rs g)
  run : ∀ σ F L, SatV ρ σ F → SatC κ σ F L → ∀ Q X, m Q X → RunW Z (ta σ) F L (fun vs F1 => ∃ g, Q g ∧ Each (Rs g) vs F1) X
structure TrI (Z : Wsh ε) (ρ : List (Option VP)) (κ : List Ow) (wi : TI) (m : Wm ε (List β)) (Rx : β → VP) : Prop where
  mono : ∀ a, Mono (Rx a)
  run : ∀ σ F L, SatV ρ σ F → SatC κ σ F L → ∀ Q X, m Q X → RunW Z (wi σ) F L (fun J F1 => ∃ xs, Q xs ∧ Seqs J (xs.map Rx) F1) X
/-- what a block ends with: on, or a value handed back -/
abbrev Ws (ε S α : Type) := (S → Prop) → (α → Prop) → (ε → Prop) → Prop
def RunSW (Z : Wsh ε) (t : TS) (σ : L2.St) (F : Hp) (L : Cells) (Nx : L2.St → Hp → Cells → Prop) (Rt : VP) (X : ε → Prop) : Prop :=
  ∀ F1 N H, Same F F1 → At F1 (L ++ N) H → WishOk Z F1 N X → ∀ D : Ends, (∀ σ' F' L' H', Same F1 F' → At F' (L' ++ N) H' → Nx σ' F' L' → D.nx σ' H') → (∀ v F' H', Same F1 F' → At F' N H' → Rt v F' → D.rt v H') → t D σ H
structure TrS (Z : Wsh ε) (ρ : List (Option VP)) (κ : List Ow) (t : TS) (m : Ws ε S α) (ρ2 : S → List (Option VP)) (κ2 : S → List Ow) (R : α → VP) : Prop where
  run : ∀ σ F L, SatV ρ σ F → SatC κ σ F L → ∀ Nx Rt X, m Nx Rt X → RunSW Z t σ F L (fun σ' F' L' => ∃ s, Nx s ∧ SatV (ρ2 s) σ' F' ∧ SatC (κ2 s) σ' F' L') (fun v F' => ∃ a, Rt a ∧ R a v F') X
end
end Tw

/-! Tw1: expressions. -/
namespace Tw
open PySem PySem.Spec PyProof.Rows L2 SlX StX Rs Ma
variable [Rs.Tabz]
/-! ### families of values -/
def dInt : Int → PyData := fun i => .int i
def dN : Nat → PyData := fun n => .int (n : Nat)
def dB : Bool → PyData := fun b => .bool b
def dS : Str → PyData := fun x => .str x
def dU : Unit → PyData := fun _ => .none
def dT {α : Type} (d : α → PyData) : List α → PyData := fun xs => .tuple (xs.map d)
def dL {α : Type} (d : α → PyData) : List α → PyData := fun xs => .list (xs.map d)
def dP {α β : Type} (d : α → PyData) (e : β → PyData) : α × β → PyData := fun p => .tuple [d p.1, e p.2]
def dP3 {α β γ : Type} (d : α → PyData) (e : β → PyData) (f : γ → PyData) : α × β × γ → PyData := fun p => .tuple [d p.1, e p.2.1, f p.2.2]
def dA : PyData → PyData := fun d => d
def fD (K : PySem.W.Frag) {α : Type} (d : α → PyData) : α → VP := fun a => Dt K (d a)
def fTp (K : PySem.W.Frag) {α : Type} (R : α → VP) : List α → VP := fun xs => Tp K (xs.map R)
def fLn {α : Type} (R : α → VP) : List α → VP := fun xs => Ln (xs.map R)
def fP (K : PySem.W.Frag) {α β : Type} (R : α → VP) (S : β → VP) : α × β → VP := fun p => Tp K [R p.1, S p.2]
instance {K : PySem.W.Frag} {α : Type} {d : α → PyData} {a : α} : Mono (fD K d a) := inferInstanceAs (Mono (Dt K (d a)))
instance {K : PySem.W.Frag} {α : Type} {R : α → VP} [∀ a, Mono (R a)] {xs : List α} : Mono (fTp K R xs) := inferInstanceAs (Mono (Tp K (xs.map R)))
instance {α : Type} {R : α → VP} [∀ a, Mono (R a)] {xs : List α} : Mono (fLn R xs) := inferInstanceAs (Mono (Ln (xs.map R)))
instance {K : PySem.W.Frag} {α β : Type} {R : α → VP} {S : β → VP} [∀ a, Mono (R a)] [∀ a, Mono (S a)] {p : α × β} : Mono (fP K R S p) := inferInstanceAs (Mono (Tp K [R p.1, S p.2]))
/-- data of which == tells whether it is the same -/
class Nice {α : Type} [DecidableEq α] (d : α → PyData) (n : outParam Nat) : Prop where
  lay : ∀ a, (d a).canLay0 = true
  dep : ∀ a, (d a).depth ≤ n
  eq : ∀ a b, PyData.eqv (d a) (d b) = decide (a = b)
instance : Nice dInt 0 := ⟨fun _ => rfl, fun _ => Nat.zero_le _, fun a b => by
  show (a == b) = _
  by_cases h : a = b
  · subst h; simp
  · simp [h]⟩
instance : Nice dN 0 := ⟨fun _ => rfl, fun _ => Nat.zero_le _, fun a b => by
  show (((a : Nat) : Int) == ((b : Nat) : Int)) = _
  by_cases h : a = b
  · subst h; simp
  · have h' : ¬ ((a : Nat) : Int) = ((b : Nat) : Int) := by omega
    simp [h, h']⟩
instance : Nice dB 0 := ⟨fun _ => rfl, fun _ => Nat.zero_le _, fun a b => by
  show (a == b) = _
  by_cases h : a = b
  · subst h; simp
  · simp [h]⟩
instance {α : Type} [DecidableEq α] {d : α → PyData} {n : Nat} [h : Nice d n] : Nice (dT d) (n + 1) := ⟨fun a => by rw [dT, PyData.canLay0]; exact lay_all h.lay, fun a => by
  rw [dT, PyData.depth]
  have := dep_all h.dep (xs := a)
  omega, fun a b => by rw [dT, dT, PyData.eqv]; exact eqvAll_of h.eq⟩
instance {α : Type} [DecidableEq α] {d : α → PyData} {n : Nat} [h : Nice d n] : Nice (dL d) (n + 1) := ⟨fun a => by rw [dL, PyData.canLay0]; exact lay_all h.lay, fun a => by
  rw [dL, PyData.depth]
  have := dep_all h.dep (xs := a)
  omega, fun a b => by rw [dL, dL, PyData.eqv]; exact eqvAll_of h.eq⟩
instance {α β : Type} [DecidableEq α] [DecidableEq β] {d : α → PyData} {e : β → PyData} {n m : Nat} [h : Nice d n] [g : Nice e m] : Nice (dP d e) (n + m + 1) := ⟨fun a => by
  simp only [dP, PyData.canLay0, PyData.canLayAll0, h.lay, g.lay, Bool.and_self], fun a => by
  have h1 := h.dep a.1
  have h2 := g.dep a.2
  simp only [dP, PyData.depth, PyData.depthAll]
  omega, fun a b => by
  simp only [dP, PyData.eqv, PyData.eqvAll, h.eq, g.eq, Bool.and_true]
  obtain ⟨a1, a2⟩ := a
  obtain ⟨b1, b2⟩ := b
  by_cases h1 : a1 = b1 <;> by_cases h2 : a2 = b2 <;> simp [h1, h2]⟩
theorem nice_shaped {α : Type} [DecidableEq α] {d : α → PyData} {n : Nat} [h : Nice d n] (hn : n ≤ 64) (a : α) : SeqAt.shaped (d a) = true := shaped_of (h.lay a) (Nat.le_trans (h.dep a) hn)
theorem nice_any {α : Type} [DecidableEq α] {d : α → PyData} {n : Nat} [h : Nice d n] {a : α} : ∀ {xs : List α}, ((xs.map d).any fun z => PyData.eqv z (d a)) = decide (a ∈ xs)
  | [] => rfl
  | x :: xs => by
    rw [List.map_cons, List.any_cons, h.eq, nice_any (xs := xs)]
    by_cases h1 : x = a
    · subst h1; simp
    · have h2 : ¬ a = x := fun z => h1 z.symm
      simp [h1, h2]

section
variable {ε α β γ δ : Type} {Z : Wsh ε} {ρ : List (Option VP)} {κ : List Ow} {K : PySem.W.Frag} {w : World} {te ta tb tc : TE} {tt tu : TT} {t : TA} {ma : Wm ε α} {mb : Wm ε β} {m : Wm ε α} {Ra R : α → VP} {Rb : β → VP} {Rc : γ → VP} {r r' : R2} {i j : Nat}
theorem TrE.of [∀ a, Mono (R a)] (h : ∀ σ F L, SatV ρ σ F → SatC κ σ F L → ∀ Q X, m Q X → Run (te σ) F L (fun v F1 => ∃ a, Q a ∧ R a v F1)) : TrE Z ρ κ te m R := ⟨inferInstance, fun σ F L s c Q X q => .of (h σ F L s c Q X q)⟩
theorem tr_c {v : V} {a : α} [∀ a, Mono (R a)] (h : ∀ F, R a v F) : TrE Z ρ κ (tC v) (pur a) R := .of fun σ F L s c Q X q => run_ret fun F1 e => ⟨a, q, h F1⟩
theorem tr_int {j : Int} : TrE Z ρ κ (tC (.int j)) (pur j) (fD K dInt) := tr_c (R := fD K dInt) fun F => .int j
theorem tr_nat (n : Nat) : TrE Z ρ κ (tC (.int (n : Nat))) (pur n) (fD K dN) := tr_c (R := fD K dN) fun F => .int _
theorem tr_bl {b : Bool} : TrE Z ρ κ (tC (.bl b)) (pur b) (fD K dB) := tr_c (R := fD K dB) fun F => .bl b
theorem tr_str {x : Str} : TrE Z ρ κ (tC (.str x)) (pur x) (fD K dS) := tr_c (R := fD K dS) fun F => .str x
theorem tr_non : TrE Z ρ κ (tC .non) (pur ()) (fD K dU) := tr_c (R := fD K dU) fun F => .non
theorem tr_var {a : α} [∀ a, Mono (R a)] (h : lk ρ i = some (R a)) : TrE Z ρ κ (tVar i) (pur a) R := .of fun σ F L s c Q X q => by
  obtain ⟨v, e, hr, m⟩ := satV_get s h
  exact (r_var e hr).weak fun _ _ _ hv => ⟨a, q, hv⟩
theorem TrE.conv {β : Type} {R' : β → VP} [∀ a, Mono (R' a)] (f : α → β) (h : TrE Z ρ κ te m R) (hr : ∀ a v F, R a v F → R' (f a) v F) : TrE Z ρ κ te (fun Q X => m (fun a => Q (f a)) X) R' :=
  ⟨inferInstance, fun σ F L s c Q X q => (h.run σ F L s c _ X q).weak fun v F2 e ⟨a, q1, r1⟩ => ⟨f a, q1, hr a v F2 r1⟩⟩
theorem tr_ni {m : Wm ε Nat} (h : TrE Z ρ κ te m (fD K dN)) : TrE Z ρ κ te (fun Q X => m (fun n => Q (n : Int)) X) (fD K dInt) := h.conv _ fun _ _ _ x => x
theorem tr_any {d : α → PyData} (h : TrE Z ρ κ te m (fD K d)) : TrE Z ρ κ te (fun Q X => m (fun a => Q (d a)) X) (fD K dA) := h.conv d fun _ _ _ x => x
theorem fTp_dT {d : α → PyData} {xs : List α} {v : V} {F : Hp} : fTp K (fD K d) xs v F ↔ fD K (dT d) xs v F := by
  show Tp K (xs.map (fD K d)) v F ↔ Dt K (.tuple (xs.map d)) v F
  rw [← tp_dt, List.map_map]
  exact Iff.rfl
theorem rLn_dL {d : α → PyData} {xs : List α} {v : V} {F : Hp} (h : fLn (fD K d) xs v F) : fD K (dL d) xs v F :=
  ls_dt.mp (by rw [List.map_map]; exact Ln.ls h)
theorem TrE.same {R' : α → VP} [∀ a, Mono (R' a)] (h : TrE Z ρ κ te m R) (hr : ∀ a v F, R a v F → R' a v F) : TrE Z ρ κ te m R' :=
  ⟨inferInstance, fun σ F L s c Q X q => (h.run σ F L s c _ X q).weak fun v F2 e ⟨a, q1, r1⟩ => ⟨a, q1, hr a v F2 r1⟩⟩
theorem tr_tpD {d : α → PyData} {m : Wm ε (List α)} (h : TrE Z ρ κ te m (fTp K (fD K d))) : TrE Z ρ κ te m (fD K (dT d)) := h.same fun _ _ _ => fTp_dT.mp
theorem tr_dTp {d : α → PyData} {m : Wm ε (List α)} (h : TrE Z ρ κ te m (fD K (dT d))) : TrE Z ρ κ te m (fTp K (fD K d)) := h.same fun _ _ _ => fTp_dT.mpr
theorem tr_lnD {d : α → PyData} {m : Wm ε (List α)} (h : TrE Z ρ κ te m (fLn (fD K d))) : TrE Z ρ κ te m (fD K (dL d)) := h.same fun _ _ _ => rLn_dL
/-! ### operations of two -/
structure Op2 (ε : Type) (r : R2) (Ra : α → VP) (Rb : β → VP) (mf : α → β → Wm ε γ) (Rc : γ → VP) : Prop where
  run : ∀ a b x y F L, Ra a x F → Rb b y F → ∀ Q X, mf a b Q X → Run (fun H q => r x y H q) F L (fun v F1 => ∃ c, Q c ∧ Rc c v F1)
theorem tr_op [∀ c, Mono (Rc c)] {mf : α → β → Wm ε γ} (o : Op2 ε r Ra Rb mf Rc) (ha : TrE Z ρ κ ta ma Ra) (hb : TrE Z ρ κ tb mb Rb) : TrE Z ρ κ (tOp r ta tb) (fun Q X => ma (fun a => mb (fun b => mf a b Q X) X) X) Rc :=
  ⟨inferInstance, fun σ F L s c Q X q => rw_bind (k := ta σ) (ha.run σ F L s c _ X q) fun x F1 e1 ⟨a, q1, hx⟩ => rw_bind (k := tb σ) (hb.run σ F1 L (satV_up e1 s) (satC_up e1 c) _ X q1) fun y F2 e2 ⟨b, q2, hy⟩ =>
    .of (o.run a b x y F2 L ((ha.mono a).mono _ _ _ e2 hx) hy Q X q2)⟩
/-- from a run of constants -/
theorem op_of {mf : α → β → Wm ε γ} (h : ∀ a b x y F L, Ra a x F → Rb b y F → ∀ Q X, mf a b Q X → ∃ c, Q c ∧ Run (tOp r (tC x) (tC y) []) F L (Rc c)) : Op2 ε r Ra Rb mf Rc :=
  ⟨fun a b x y F L hx hy Q X q => by
    obtain ⟨c, q1, h1⟩ := h a b x y F L hx hy Q X q
    exact Run.weak (k := fun H q => r x y H q) h1 fun v F1 e hv => ⟨c, q1, hv⟩⟩
theorem op_pur {f : α → β → γ} (h : ∀ a b x y F L, Ra a x F → Rb b y F → Run (tOp r (tC x) (tC y) []) F L (Rc (f a b))) : Op2 ε r Ra Rb (fun a b => pur (f a b)) Rc :=
  op_of fun a b x y F L hx hy Q X q => ⟨f a b, q, h a b x y F L hx hy⟩
variable {f : Int → Int → Int} {g : Int → Int → Bool} {C : Int → Int → Prop}
theorem o_i0i : Op2 ε (rI0 fun i j => .int (f i j)) (fD K dInt) (fD K dInt) (fun a b => pur (f a b)) (fD K dInt) :=
  op_pur fun a b x y F L hx hy => r_I0i (r_c (R := Dt K (.int a)) hx) (r_c (R := Dt K (.int b)) hy)
theorem o_i0b : Op2 ε (rI0 fun i j => .bl (g i j)) (fD K dInt) (fD K dInt) (fun a b => pur (g a b)) (fD K dB) :=
  op_pur fun a b x y F L hx hy => r_I0b (r_c (R := Dt K (.int a)) hx) (r_c (R := Dt K (.int b)) hy)
theorem o_ii : Op2 ε (rI C fun i j => .int (f i j)) (fD K dInt) (fD K dInt) (fun a b Q X => C a b ∧ Q (f a b)) (fD K dInt) :=
  op_of fun a b x y F L hx hy Q X q => ⟨_, q.2, r_Ii (r_c (R := Dt K (.int a)) hx) (r_c (R := Dt K (.int b)) hy) q.1⟩
theorem o_addN : Op2 ε (rI0 fun i j => .int (i + j)) (fD K dN) (fD K dN) (fun a b => pur (a + b)) (fD K dN) :=
  op_pur fun a b x y F L hx hy => r_is (r_I0i (r_c (R := Dt K (.int a)) hx) (r_c (R := Dt K (.int b)) hy)) (by show _ = PyData.int ((a + b : Nat) : Int); rw [Int.natCast_add])
theorem o_ltN : Op2 ε (rI0 fun i j => .bl (decide (i < j))) (fD K dN) (fD K dN) (fun a b => pur (decide (a < b))) (fD K dB) :=
  op_pur fun a b x y F L hx hy => r_is (r_I0b (r_c (R := Dt K (.int a)) hx) (r_c (R := Dt K (.int b)) hy)) (congrArg PyData.bool (decide_eq_decide.mpr (by omega)))
theorem o_gtN : Op2 ε (rI0 fun i j => .bl (decide (j < i))) (fD K dN) (fD K dN) (fun a b => pur (decide (b < a))) (fD K dB) :=
  op_pur fun a b x y F L hx hy => r_is (r_I0b (r_c (R := Dt K (.int a)) hx) (r_c (R := Dt K (.int b)) hy)) (congrArg PyData.bool (decide_eq_decide.mpr (by omega)))
theorem o_eqN : Op2 ε rEq (fD K dN) (fD K dN) (fun a b => pur (decide (a = b))) (fD K dB) := op_pur fun a b x y F L hx hy => r_eqN (r_c (R := Dt K (nI a)) hx) (r_c (R := Dt K (nI b)) hy)
theorem o_neN : Op2 ε rNe (fD K dN) (fD K dN) (fun a b => pur (!decide (a = b))) (fD K dB) := op_pur fun a b x y F L hx hy => r_neN (r_c (R := Dt K (nI a)) hx) (r_c (R := Dt K (nI b)) hy)
theorem o_neS : Op2 ε rNe (fD K dS) (fD K dS) (fun a b => pur (!decide (a = b))) (fD K dB) := op_pur fun a b x y F L hx hy => by
  cases hx; cases hy
  refine fun F2 N H e2 A Q q => ⟨rfl, q _ F2 H (Same.refl _) A ?_⟩
  have e : decide (V.str a = V.str b) = decide (a = b) := decide_eq_decide.mpr ⟨fun h => V.str.inj h, fun h => h ▸ rfl⟩
  rw [e]; exact .bl _
theorem o_neB : Op2 ε rNe (fD K dB) (fD K dB) (fun a b => pur (!decide (a = b))) (fD K dB) := op_pur fun a b x y F L hx hy => by
  cases hx; cases hy
  refine fun F2 N H e2 A Q q => ⟨rfl, q _ F2 H (Same.refl _) A ?_⟩
  have e : decide (V.bl a = V.bl b) = decide (a = b) := decide_eq_decide.mpr ⟨fun h => V.bl.inj h, fun h => h ▸ rfl⟩
  rw [e]; exact .bl _
theorem o_eqD [DecidableEq α] {d : α → PyData} {n : Nat} [Nice d n] (hn : n ≤ 64 := by decide) : Op2 ε (rEqD K) (fD K d) (fD K d) (fun a b => pur (decide (a = b))) (fD K dB) :=
  op_pur fun a b x y F L hx hy => r_is (r_eqD (r_c (R := Dt K (d a)) hx) (r_c (R := Dt K (d b)) hy) (nice_shaped hn a) (nice_shaped hn b)) (congrArg PyData.bool (Nice.eq a b))
theorem o_neD [DecidableEq α] {d : α → PyData} {n : Nat} [Nice d n] (hn : n ≤ 64 := by decide) : Op2 ε (rNeD K) (fD K d) (fD K d) (fun a b => pur (!decide (a = b))) (fD K dB) :=
  op_pur fun a b x y F L hx hy => r_is (r_neD (r_c (R := Dt K (d a)) hx) (r_c (R := Dt K (d b)) hy) (nice_shaped hn a) (nice_shaped hn b)) (congrArg (fun b => PyData.bool (!b)) (Nice.eq a b))
theorem o_inT : Op2 ε (rIn K false) (fD K dN) (fD K (dT dN)) (fun a b => pur (decide (a ∈ b))) (fD K dB) := op_pur fun a b x y F L hx hy => r_inN (r_c (R := Dt K (nI a)) hx) (r_c (R := Dt K (dRow b)) hy)
theorem o_notInT : Op2 ε (rIn K true) (fD K dN) (fD K (dT dN)) (fun a b => pur (!decide (a ∈ b))) (fD K dB) := op_pur fun a b x y F L hx hy => r_notInN (r_c (R := Dt K (nI a)) hx) (r_c (R := Dt K (dRow b)) hy)
theorem seqI_l2 {r : List Nat} {v : V} {F : Hp} (h : Dt K (.list (r.map dN)) v F) : seqI (cI r) v F K := seqI_l (ns := cI r) (row_int (r := r) ▸ h)
theorem o_inL : Op2 ε (rIn K false) (fD K dN) (fD K (dL dN)) (fun a b => pur (decide (a ∈ b))) (fD K dB) := op_pur fun a b x y F L hx hy =>
  r_is (r_in (i := ((a : Nat) : Int)) (r_c (R := Dt K (.int (a : Nat))) hx) (r_c (R := Dt K (.list (b.map dN))) hy) fun v F1 h => seqI_l2 h) (congrArg PyData.bool (decide_eq_decide.mpr mem_cI))
theorem o_notInDL [DecidableEq α] {d : α → PyData} {n : Nat} [h : Nice d n] (hn : n ≤ 63 := by decide) : Op2 ε (rNotInD K) (fD K d) (fD K (dL d)) (fun a b => pur (!decide (a ∈ b))) (fD K dB) :=
  op_pur fun a b x y F L hx hy => fun F2 N H e A Q q => ⟨d a, b.map d, dp_up (e.trans A.ex) hx, dp_up (e.trans A.ex) hy, nice_shaped (by omega) a, nice_shaped (d := dL d) (by omega) b, q _ F2 H (Same.refl _) A (by
    rw [nice_any (d := d)]; exact .bl _)⟩
/-! items -/
theorem o_ixT {d : α → PyData} : Op2 ε (rIxT K) (fD K (dT d)) (fD K dN) (fun xs i Q X => ∃ a, xs[i]? = some a ∧ Q a) (fD K d) :=
  op_of fun xs i x y F L hx hy Q X ⟨a, h, q⟩ => ⟨a, q, r_ixT (r_c (R := Dt K (.tuple (xs.map d))) hx) (r_c (R := Dt K (.int (i : Nat))) hy) (by rw [List.getElem?_map, h]; rfl)⟩
theorem o_ixLn [∀ a, Mono (R a)] : Op2 ε (rIxL K) (fLn R) (fD K dN) (fun xs i Q X => ∃ a, xs[i]? = some a ∧ Q a) R :=
  op_of fun xs i x y F L hx hy Q X ⟨a, h, q⟩ => ⟨a, q, r_ixLs (r_ls (r_c (R := Ln (xs.map R)) hx)) (r_c (R := Dt K (.int (i : Nat))) hy) (by rw [List.getElem?_map, h]; rfl)⟩
theorem o_ixTp [∀ a, Mono (R a)] : Op2 ε (rIxT K) (fTp K R) (fD K dN) (fun xs i Q X => ∃ a, xs[i]? = some a ∧ Q a) R :=
  op_of fun xs n x y F L hx hy Q X ⟨a, h, q⟩ => ⟨a, q, fun F1 N H e A Q q => by
    obtain ⟨p, vs, rfl, hs, hr⟩ := hx
    cases hy
    have hn : n < vs.length := by rw [each_length hr, List.length_map]; exact (List.getElem?_eq_some_iff.mp h).1
    obtain ⟨R', g1, g2⟩ := each_at hr (List.getElem?_eq_getElem hn)
    rw [List.getElem?_map, h] at g1
    cases g1
    exact ⟨p, vs, (n : Int), _, rfl, rfl, sqT_up (e.trans A.ex) hs, atI_nat (List.getElem?_eq_getElem hn), q _ F1 H (Same.refl _) A (Mono.go g2 e)⟩⟩
/-! texts, lists put together -/
theorem o_addS : Op2 ε (fun u v H Q => ∃ i j, u = V.str i ∧ v = .str j ∧ i.length + j.length ≤ sizeLine ∧ Q (.str (i ++ j)) H) (fD K dS) (fD K dS) (fun a b Q X => a.length + b.length ≤ 100000 ∧ Q (a ++ b)) (fD K dS) :=
  op_of fun a b x y F L hx hy Q X q => ⟨_, q.2, r_addS (r_c (R := Dt K (.str a)) hx) (r_c (R := Dt K (.str b)) hy) q.1⟩
theorem o_cat [∀ a, Mono (R a)] : Op2 ε rCat (fLn R) (fLn R) (fun a b Q X => a.length + b.length ≤ 10000 ∧ Q (a ++ b)) (fLn R) :=
  op_of fun a b x y F L hx hy Q X q => ⟨_, q.2, r_cat (r_c (R := Ln (a.map R)) hx) (r_c (R := Ln (b.map R)) hy) q.1⟩

/-! ### chains, truth -/
def chW (ma mb mc : Wm ε Int) (g1 g2 : Int → Int → Bool) : Wm ε Bool := fun Q X => ma (fun a => mb (fun b => if g1 a b = true then mc (fun c => Q (g2 b c)) X else Q false) X) X
def andW (ma mb : Wm ε Bool) : Wm ε Bool := fun Q X => ma (fun a => if a = true then mb Q X else Q false) X
def orW (ma mb : Wm ε Bool) : Wm ε Bool := fun Q X => ma (fun a => if a = true then Q true else mb Q X) X
def iteW (b : Bool) (m1 m2 : Wm ε α) : Wm ε α := fun Q X => if b = true then m1 Q X else m2 Q X
theorem iteW_t {m1 m2 : Wm ε α} {Q : α → Prop} {X : ε → Prop} : iteW true m1 m2 Q X = m1 Q X := rfl
theorem iteW_f {m1 m2 : Wm ε α} {Q : α → Prop} {X : ε → Prop} : iteW false m1 m2 Q X = m2 Q X := rfl
theorem chW_p {a b c : Int} {g1 g2 : Int → Int → Bool} {Q : Bool → Prop} {X : ε → Prop} : chW (fun Q _ => Q a) (fun Q _ => Q b) (fun Q _ => Q c) g1 g2 Q X = Q (g1 a b && g2 b c) := by
  show (if g1 a b = true then Q (g2 b c) else Q false) = _
  cases g1 a b <;> rfl
theorem andW_of {ma mb : Wm ε Bool} {Q : Bool → Prop} {X : ε → Prop} (a b : Bool) (h1 : ∀ P : Bool → Prop, P a → ma P X) (h2 : a = true → ∀ P : Bool → Prop, P b → mb P X) (q : Q (a && b)) : andW ma mb Q X := by
  refine h1 _ ?_
  cases a with
  | true => exact h2 rfl Q q
  | false => exact q
theorem orW_of {ma mb : Wm ε Bool} {Q : Bool → Prop} {X : ε → Prop} (a b : Bool) (h1 : ∀ P : Bool → Prop, P a → ma P X) (h2 : a = false → ∀ P : Bool → Prop, P b → mb P X) (q : Q (a || b)) : orW ma mb Q X := by
  refine h1 _ ?_
  cases a with
  | false => exact h2 rfl Q q
  | true => exact q
theorem tr_chain {ma mb mc : Wm ε Int} {g1 g2 : Int → Int → Bool} (ha : TrE Z ρ κ ta ma (fD K dInt)) (hb : TrE Z ρ κ tb mb (fD K dInt)) (hc : TrE Z ρ κ tc mc (fD K dInt)) :
    TrE Z ρ κ (tChain (rI0 fun i j => .bl (g1 i j)) (rI0 fun i j => .bl (g2 i j)) ta tb tc) (chW ma mb mc g1 g2) (fD K dB) :=
  ⟨inferInstance, fun σ F L s c Q X q => rw_bind (k := ta σ) (ha.run σ F L s c _ X q) fun x F1 e1 ⟨a, q1, hx⟩ => rw_bind (k := tb σ) (hb.run σ F1 L (satV_up e1 s) (satC_up e1 c) _ X q1) fun y F2 e2 ⟨b, q2, hy⟩ => by
    cases hx; cases hy
    refine rw_bind (k := fun H Q => rI0 (fun i j => .bl (g1 i j)) (.int a) (.int b) H Q) (R := Eqv (.bl (g1 a b))) (.of (run_ex a (run_ex b (run_and (fun _ _ _ _ _ => rfl) (run_and (fun _ _ _ _ _ => rfl) (run_ret fun _ _ => rfl)))))) fun z F3 e3 hz => ?_
    cases hz
    intro F4 N H e4 A wsh Qk qk
    refine ⟨g1 a b, rfl, ?_⟩
    cases hg : g1 a b with
    | true =>
      rw [hg, if_pos rfl] at q2
      refine iteT ?_
      refine rw_bind (k := tc σ) (k2 := fun w' H4 Q => rI0 (fun i j => .bl (g2 i j)) (.int b) w' H4 Q) (S := fun v F1 => ∃ a, Q a ∧ fD K dB a v F1) (hc.run σ F3 L (satV_up ((e1.trans e2).trans e3) s) (satC_up ((e1.trans e2).trans e3) c) _ X q2) (fun u F5 e5 ⟨cc, q5, hu⟩ => ?_) F4 N H e4 A wsh Qk qk
      cases hu
      exact .of (run_ex b (run_ex cc (run_and (fun _ _ _ _ _ => rfl) (run_and (fun _ _ _ _ _ => rfl) (run_ret fun _ _ => ⟨_, q5, .bl _⟩)))))
    | false =>
      rw [hg, if_neg Bool.false_ne_true] at q2
      refine iteF ?_
      exact qk _ F4 H (Same.refl _) A ⟨false, q2, .bl _⟩⟩
section
variable {ma mb mm : Wm ε Bool}
theorem tr_and (ha : TrE Z ρ κ ta ma (fD K dB)) (hb : TrE Z ρ κ tb mb (fD K dB)) : TrE Z ρ κ (tAndV ta tb) (andW ma mb) (fD K dB) :=
  ⟨inferInstance, fun σ F L s c Q X q => rw_bind (k := ta σ) (ha.run σ F L s c _ X q) fun x F1 e1 ⟨a, q1, hx⟩ => by
    cases hx
    intro F4 N H e4 A wsh Qk qk
    refine ⟨a, rfl, ?_⟩
    cases a with
    | true => exact iteT (hb.run σ F1 L (satV_up e1 s) (satC_up e1 c) Q X (by rwa [if_pos rfl] at q1) F4 N H e4 A wsh Qk qk)
    | false => exact iteF (qk _ F4 H (Same.refl _) A ⟨false, by rwa [if_neg Bool.false_ne_true] at q1, .bl false⟩)⟩
theorem tr_not (ha : TrE Z ρ κ ta ma (fD K dB)) : TrE Z ρ κ (tNotV ta) (fun Q X => ma (fun a => Q (!a)) X) (fD K dB) :=
  ⟨inferInstance, fun σ F L s c Q X q => rw_bind (k := ta σ) (ha.run σ F L s c _ X q) fun x F1 e1 ⟨a, q1, hx⟩ => by
    cases hx
    intro F4 N H e4 A wsh Qk qk
    exact ⟨a, rfl, qk _ F4 H (Same.refl _) A ⟨_, q1, .bl _⟩⟩⟩
theorem tr_if {m1 m2 : Wm ε α} (ht : TrT Z ρ κ tt mm) (h1 : TrE Z ρ κ ta m1 R) (h2 : TrE Z ρ κ tb m2 R) : TrE Z ρ κ (tIf tt ta tb) (fun Q X => mm (fun b => iteW b m1 m2 Q X) X) R :=
  ⟨h1.mono, fun σ F L s c Q X q => rw_bind (k := tt σ) (ht.run σ F L s c _ X q) fun b F1 e1 q1 => by
    intro F4 N H e4 A wsh Qk qk
    cases b with
    | true => exact iteT (h1.run σ F1 L (satV_up e1 s) (satC_up e1 c) Q X q1 F4 N H e4 A wsh Qk qk)
    | false => exact iteF (h2.run σ F1 L (satV_up e1 s) (satC_up e1 c) Q X q1 F4 N H e4 A wsh Qk qk)⟩
theorem tt_test (ha : TrE Z ρ κ ta ma (fD K dB)) : TrT Z ρ κ (tTest ta) ma :=
  ⟨fun σ F L s c Q X q => rw_bind (k := ta σ) (ha.run σ F L s c _ X q) fun x F1 e1 ⟨a, q1, hx⟩ => by
    cases hx
    intro F4 N H e4 A wsh Qk qk
    exact ⟨a, rfl, qk _ F4 H (Same.refl _) A q1⟩⟩
theorem tt_B (ha : TrE Z ρ κ ta ma (fD K dB)) : TrT Z ρ κ (tB ta) ma :=
  ⟨fun σ F L s c Q X q => rw_bind (k := ta σ) (ha.run σ F L s c _ X q) fun x F1 e1 ⟨a, q1, hx⟩ => by
    cases hx
    intro F4 N H e4 A wsh Qk qk
    exact ⟨a, rfl, qk _ F4 H (Same.refl _) A q1⟩⟩
theorem tt_yes : TrT Z ρ κ tYes (pur true) := ⟨fun σ F L s c Q X q => .of (run_ret fun _ _ => q)⟩
theorem tt_not (h : TrT Z ρ κ tt ma) : TrT Z ρ κ (tNot tt) (fun Q X => ma (fun a => Q (!a)) X) :=
  ⟨fun σ F L s c Q X q => rw_bind (k := tt σ) (h.run σ F L s c _ X q) fun x F1 e1 q1 => rw_ret fun _ _ => q1⟩
theorem tt_and (h : TrT Z ρ κ tt ma) (h2 : TrT Z ρ κ tu mb) : TrT Z ρ κ (tAnd tt tu) (andW ma mb) :=
  ⟨fun σ F L s c Q X q => rw_bind (k := tt σ) (h.run σ F L s c _ X q) fun a F1 e1 q1 => by
    intro F4 N H e4 A wsh Qk qk
    cases a with
    | true => exact iteT (h2.run σ F1 L (satV_up e1 s) (satC_up e1 c) Q X (by rwa [if_pos rfl] at q1) F4 N H e4 A wsh Qk qk)
    | false => exact iteF (qk _ F4 H (Same.refl _) A (by rwa [if_neg Bool.false_ne_true] at q1))⟩
theorem tt_or (h : TrT Z ρ κ tt ma) (h2 : TrT Z ρ κ tu mb) : TrT Z ρ κ (tOr tt tu) (orW ma mb) :=
  ⟨fun σ F L s c Q X q => rw_bind (k := tt σ) (h.run σ F L s c _ X q) fun a F1 e1 q1 => by
    intro F4 N H e4 A wsh Qk qk
    cases a with
    | false => exact iteF (h2.run σ F1 L (satV_up e1 s) (satC_up e1 c) Q X q1 F4 N H e4 A wsh Qk qk)
    | true => exact iteT (qk _ F4 H (Same.refl _) A (by rwa [if_pos rfl] at q1))⟩
end
end
end Tw

/-! Tw2: arguments, calls, what is built in. -/
namespace Tw
open PySem PySem.Spec PyProof.Rows L2 SlX StX Rs Ma
variable [Rs.Tabz]
def fSet (w : World) : List Nat → VP := fun xs => Rs.St w (cI xs)
instance {w : World} {xs : List Nat} : Mono (fSet w xs) := inferInstanceAs (Mono (Rs.St w (cI xs)))
/-- ascending, each once -/
def sset (xs : List Nat) : List Nat := (List.range (xs.foldr max 0 + 1)).filter fun x => decide (x ∈ xs)
theorem le_foldr {xs : List Nat} {x : Nat} (h : x ∈ xs) : x ≤ xs.foldr max 0 := by
  induction xs with
  | nil => cases h
  | cons a xs ih =>
    rw [List.foldr_cons]
    rcases List.mem_cons.mp h with z | z
    · subst z; exact Nat.le_max_left _ _
    · exact Nat.le_trans (ih z) (Nat.le_max_right _ _)
theorem mem_sset {xs : List Nat} {x : Nat} : x ∈ sset xs ↔ x ∈ xs := by
  unfold sset
  rw [List.mem_filter, decide_eq_true_eq, List.mem_range]
  exact ⟨fun h => h.2, fun h => ⟨Nat.lt_succ_of_le (le_foldr h), h⟩⟩
theorem asc_sset {xs : List Nat} : (sset xs).Pairwise (· < ·) := List.pairwise_lt_range.filter _
theorem sset_eq {xs ys : List Nat} (h1 : ys.Pairwise (· < ·)) (h2 : ∀ x, x ∈ ys ↔ x ∈ xs) : sset xs = ys :=
  List.Perm.eq_of_pairwise (le := (· < ·)) (fun a b _ _ x y => absurd x (Nat.lt_asymm y)) asc_sset h1 ((List.perm_ext_iff_of_nodup (asc_sset.imp fun x => Nat.ne_of_lt x) (h1.imp fun x => Nat.ne_of_lt x)).mpr fun k => by rw [mem_sset, h2])
/-- ascending, as often as they are -/
def strN (n : Nat) : Str := toString (n : Int)
def sortN (xs : List Nat) : List Nat := xs.mergeSort fun a b => decide (a ≤ b)
theorem sortN_perm {xs : List Nat} : (sortN xs).Perm xs := List.mergeSort_perm _ _
theorem sortN_asc {xs : List Nat} : (sortN xs).Pairwise (· ≤ ·) := by
  have := List.pairwise_mergeSort (le := fun a b : Nat => decide (a ≤ b)) (fun a b c h1 h2 => by simp only [decide_eq_true_eq] at *; omega) (fun a b => by simp only [Bool.or_eq_true, decide_eq_true_eq]; omega) xs
  exact this.imp fun h => of_decide_eq_true h
section
variable {ε α β γ δ : Type} {Z : Wsh ε} {ρ : List (Option VP)} {κ : List Ow} {K : PySem.W.Frag} {w : World} {te ta tb tc : TE} {t : TA} {ma : Wm ε α} {mb : Wm ε β} {m : Wm ε α} {mg : Wm ε γ} {Ra R : α → VP} {Rb : β → VP} {Rc : γ → VP} {Rd : δ → VP} {Rs : γ → List VP}
/-! ### arguments -/
theorem ta_one (h : TrE Z ρ κ te m R) : TrA Z ρ κ (tCons te tNil) m fun a => [R a] :=
  have := h.mono
  ⟨fun a => inferInstanceAs (MonoL [R a]), fun σ F L s c Q X q => rw_bind (k := te σ) (h.run σ F L s c Q X q) fun v F1 e ⟨a, q1, r1⟩ => rw_ret fun F2 e2 => ⟨a, q1, Mono.go r1 e2, True.intro⟩⟩
theorem ta_cons (h : TrE Z ρ κ te m R) (h2 : TrA Z ρ κ t mg Rs) : TrA Z ρ κ (tCons te t) (fun Q X => m (fun a => mg (fun g => Q (a, g)) X) X) fun p => R p.1 :: Rs p.2 :=
  have := h.mono
  have := h2.mono
  ⟨fun p => inferInstanceAs (MonoL (R p.1 :: Rs p.2)), fun σ F L s c Q X q => rw_bind (k := te σ) (h.run σ F L s c _ X q) fun v F1 e ⟨a, q1, r1⟩ => rw_bind (k := t σ) (h2.run σ F1 L (satV_up e s) (satC_up e c) _ X q1) fun vs F2 e2 ⟨g, q2, r2⟩ =>
    rw_ret fun F3 e3 => ⟨(a, g), q2, Mono.go r1 (e2.trans e3), MonoL.mono _ _ _ e3 r2⟩⟩
/-- as many of one kind -/
theorem ta_lnil [∀ a, Mono (R a)] : TrA Z ρ κ tNil (pur []) fun xs : List α => xs.map R := ⟨fun _ => inferInstance, fun σ F L s c Q X q => .of (run_ret fun F1 e => ⟨[], q, True.intro⟩)⟩
theorem ta_lcons {ml : Wm ε (List α)} (h : TrE Z ρ κ te m R) (h2 : TrA Z ρ κ t ml fun xs => xs.map R) : TrA Z ρ κ (tCons te t) (fun Q X => m (fun a => ml (fun g => Q (a :: g)) X) X) fun xs => xs.map R :=
  have := h.mono
  ⟨fun p => inferInstance, fun σ F L s c Q X q => rw_bind (k := te σ) (h.run σ F L s c _ X q) fun v F1 e ⟨a, q1, r1⟩ => rw_bind (k := t σ) (h2.run σ F1 L (satV_up e s) (satC_up e c) _ X q1) fun vs F2 e2 ⟨g, q2, r2⟩ =>
    rw_ret fun F3 e3 => ⟨a :: g, q2, Mono.go r1 (e2.trans e3), MonoL.mono _ _ _ e3 r2⟩⟩
theorem tr_tup {ml : Wm ε (List α)} [∀ a, Mono (R a)] (h : TrA Z ρ κ t ml fun xs => xs.map R) : TrE Z ρ κ (tTup t) (fun Q X => ml (fun xs => xs.length ≤ 100000 ∧ Q xs) X) (fTp K R) :=
  ⟨inferInstance, fun σ F L s c Q X q => rw_bind (k := t σ) (h.run σ F L s c _ X q) fun vs F1 e ⟨xs, ⟨q0, q1⟩, r1⟩ =>
    .of (run_and (fun _ _ _ _ _ => len_ok (by rw [each_length r1, List.length_map]; exact q0)) (run_new fun F2 p e2 hp => ⟨xs, q1, p, vs, rfl, .inl (.inl upd_same), MonoL.mono _ _ _ (e2.trans (same_new hp)) r1⟩))⟩
/-- a list that stays -/
theorem tr_lst {ml : Wm ε (List α)} [∀ a, Mono (R a)] (h : TrA Z ρ κ t ml fun xs => xs.map R) : TrE Z ρ κ (tLst t) (fun Q X => ml (fun xs => xs.length ≤ 100000 ∧ Q xs) X) (fLn R) :=
  ⟨inferInstance, fun σ F L s c Q X q => rw_bind (k := t σ) (h.run σ F L s c _ X q) fun vs F1 e ⟨xs, ⟨q0, q1⟩, r1⟩ =>
    .of (run_and (fun _ _ _ _ _ => len_ok (by rw [each_length r1, List.length_map]; exact q0)) (run_new fun F2 p e2 hp => ⟨xs, q1, p, vs, rfl, upd_same, MonoL.mono _ _ _ (e2.trans (same_new hp)) r1⟩))⟩

/-! ### promises -/
def SpN {γ δ : Type} (Rs : γ → List VP) (spec : γ → (δ → Prop) → Prop) (R : δ → VP) : Sp := fun vs H Q _ => ∃ g F N P, At F N H ∧ Each (Rs g) vs F ∧ spec g P ∧ ∀ d v F' H', Same F F' → At F' N H' → P d → R d v F' → Q v H'
theorem tr_call {spec : γ → (δ → Prop) → Prop} {E : XK} [∀ d, Mono (Rd d)] (h : TrA Z ρ κ t mg Rs) : TrE Z ρ κ (tCall (SpN Rs spec Rd) [] E t) (fun Q X => mg (fun g => spec g Q) X) Rd :=
  ⟨inferInstance, fun σ F L s c Q X q => rw_bind (k := t σ) (h.run σ F L s c _ X q) fun vs F1 e ⟨g, q1, r1⟩ => by
    rw [List.append_nil]
    have := h.mono
    exact fun F2 N H e2 A wsh Qk qk => ⟨g, F2, L ++ N, Q, A, MonoL.mono _ _ _ e2 r1, q1, fun d v F3 H3 e3 A3 p r => qk v F3 H3 e3 A3 ⟨d, p, r⟩⟩⟩
theorem tr_met {C : Addr} {spec : α × γ → (δ → Prop) → Prop} {E : XK} [∀ d, Mono (Rd d)] (ho : TrE Z ρ κ ta ma Ra) (hS : ∀ a v F, Ra a v F → IsOb C v F) (h : TrA Z ρ κ t mg Rs) :
    TrE Z ρ κ (tMethSl C (SpN (fun p => Ra p.1 :: Rs p.2) spec Rd) E ta t) (fun Q X => ma (fun a => mg (fun g => spec (a, g) Q) X) X) Rd :=
  have := ho.mono
  have := h.mono
  ⟨inferInstance, fun σ F L s c Q X q => rw_bind (k := ta σ) (ho.run σ F L s c _ X q) fun x F1 e1 ⟨o, q1, hx⟩ => by
    obtain ⟨a, dx, vs, rfl, ha, hd⟩ := hS _ _ _ hx
    intro F2 N H e2 A wsh Qk qk
    refine ⟨a, dx, vs, rfl, .inr ⟨A.ex _ _ (e2 _ _ ha), A.ex _ _ (e2 _ _ hd)⟩, ?_⟩
    refine h.run σ F1 L (satV_up e1 s) (satC_up e1 c) _ X q1 F2 N H e2 A wsh _ fun ws F3 H3 e3 A3 ⟨g, q3, hv⟩ => ?_
    exact ⟨(o, g), F3, L ++ N, Q, A3, ⟨Mono.go hx (e2.trans e3), hv⟩, q3, fun d v F4 H4 e4 A4 p r => qk v F4 H4 (e3.trans e4) A4 ⟨d, p, r⟩⟩⟩
theorem tr_prp {C : Addr} {spec : α → (δ → Prop) → Prop} {E : XK} [∀ d, Mono (Rd d)] (ho : TrE Z ρ κ ta ma Ra) (hS : ∀ a v F, Ra a v F → IsOb C v F) :
    TrE Z ρ κ (tPropSl C (SpN (fun a => [Ra a]) spec Rd) E ta) (fun Q X => ma (fun a => spec a Q) X) Rd :=
  have := ho.mono
  ⟨inferInstance, fun σ F L s c Q X q => rw_bind (k := ta σ) (ho.run σ F L s c _ X q) fun x F1 e1 ⟨o, q1, hx⟩ => by
    obtain ⟨a, dx, vs, rfl, ha, hd⟩ := hS _ _ _ hx
    intro F2 N H e2 A wsh Qk qk
    exact ⟨a, dx, vs, rfl, .inr ⟨A.ex _ _ (e2 _ _ ha), A.ex _ _ (e2 _ _ hd)⟩, o, F2, L ++ N, Q, A, ⟨Mono.go hx e2, True.intro⟩, q1, fun d v F4 H4 e4 A4 p r => qk v F4 H4 e4 A4 ⟨d, p, r⟩⟩⟩
/-- C(..) by SpI -/
theorem tr_mk {C : Addr} {pre : γ → Prop} {R : γ → VP} {E : XK} [∀ d, Mono (R d)] (h : TrA Z ρ κ t mg Rs) : TrE Z ρ κ (tMake C (SpI C pre Rs R) [] E t) (fun Q X => mg (fun g => pre g ∧ Q g) X) R :=
  ⟨inferInstance, fun σ F L s c Q X q => rw_bind (k := t σ) (h.run σ F L s c _ X q) fun vs F1 e ⟨g, ⟨q0, q1⟩, r1⟩ => by
    have := h.mono
    refine RunW.weak (R := fun v F1 => R g v F1) (.of ?_) fun v F2 e2 hv => ⟨g, q1, hv⟩
    exact fun F2 N H e2 A Q q x dx h1 h2 h3 => (r_mk (γ := γ) (tt := fun _ H Q => Q vs H) (σ := σ) (E := E) (R := R) (Rs := Rs) g q0 (run_ret fun F3 e3 => MonoL.mono _ _ _ (e2.trans e3) r1)) F2 N H (Same.refl _) A Q q x dx h1 h2 h3⟩
/-- a reading over one value -/
theorem tr_lift {kk : TE → TE} {mf : α → Wm ε β} (hk : ∀ te σ H Q, kk te σ H Q = te σ H fun x H1 => kk (tC x) [] H1 Q) [∀ b, Mono (Rb b)] (h : TrE Z ρ κ te ma Ra) (f : ∀ a v F L, Ra a v F → ∀ Q X, mf a Q X → ∃ b, Q b ∧ Run (kk (tC v) []) F L (Rb b)) :
    TrE Z ρ κ (kk te) (fun Q X => ma (fun a => mf a Q X) X) Rb :=
  ⟨inferInstance, fun σ F L s c Q X q => by
    have e : kk te σ = fun H Q => te σ H fun x H1 => kk (tC x) [] H1 Q := by
      funext H Q
      exact hk te σ H Q
    rw [e]
    exact rw_bind (k := te σ) (h.run σ F L s c _ X q) fun x F1 e1 ⟨a, q1, hx⟩ => by
      obtain ⟨b, q2, r2⟩ := f a x F1 L hx Q X q1
      exact .of (r2.weak fun v F2 e2 hv => ⟨b, q2, hv⟩)⟩
/-- a slot of an object -/
structure Fld (K : PySem.W.Frag) (Ra : α → VP) (x : Str) (f : α → β) (Rb : β → VP) : Prop where
  run : ∀ a v F L, Ra a v F → Run (SlX.tSl K (tC v) x []) F L (Rb (f a))
theorem tr_fld {x : Str} {f : α → β} (fl : Fld K Ra x f Rb) [∀ b, Mono (Rb b)] (h : TrE Z ρ κ te ma Ra) : TrE Z ρ κ (SlX.tSl K te x) (fun Q X => ma (fun a => Q (f a)) X) Rb :=
  tr_lift (kk := fun te => SlX.tSl K te x) (mf := fun a => pur (f a)) (fun _ _ _ _ => rfl) h fun a v F L hx Q X q => ⟨f a, q, fl.run a v F L hx⟩

/-! ### what is built in -/
structure Cb (ε : Type) (q : List V → Hp → VK → Prop) (Rs : γ → List VP) (mf : γ → Wm ε δ) (R : δ → VP) : Prop where
  run : ∀ g vs F L, Each (Rs g) vs F → ∀ Q X, mf g Q X → Run (q vs) F L fun v F1 => ∃ d, Q d ∧ R d v F1
theorem Cb.of {q : List V → Hp → VK → Prop} {mf : γ → Wm ε δ} (h : ∀ g vs F L, Each (Rs g) vs F → ∀ Q X, mf g Q X → ∃ d, Q d ∧ Run (q vs) F L (Rd d)) : Cb ε q Rs mf Rd :=
  ⟨fun g vs F L hv Q X q => by
    obtain ⟨d, q2, r2⟩ := h g vs F L hv Q X q
    exact r2.weak fun v F2 e2 hv => ⟨d, q2, hv⟩⟩
theorem tr_cb {q : List V → Hp → VK → Prop} {mf : γ → Wm ε δ} [∀ d, Mono (Rd d)] (o : Cb ε q Rs mf Rd) (h : TrA Z ρ κ t mg Rs) : TrE Z ρ κ (tCB q t) (fun Q X => mg (fun g => mf g Q X) X) Rd :=
  ⟨inferInstance, fun σ F L s c Q X q => rw_bind (k := t σ) (h.run σ F L s c _ X q) fun vs F1 e ⟨g, q1, r1⟩ => .of (o.run g vs F1 L r1 Q X q1)⟩
theorem cb1 {q : List V → Hp → VK → Prop} {mf : α → Wm ε δ} (h : ∀ a v F L, Ra a v F → ∀ Q X, mf a Q X → ∃ d, Q d ∧ Run (tCB q (tCons (tC v) tNil) []) F L (Rd d)) : Cb ε q (fun a => [Ra a]) mf Rd :=
  .of fun g vs F L hv Q X q1 => by
    obtain ⟨v, rfl, hx⟩ := each1 hv
    exact h g v F L hx Q X q1
theorem cb1p {q : List V → Hp → VK → Prop} {f : α → δ} (h : ∀ a v F L, Ra a v F → Run (tCB q (tCons (tC v) tNil) []) F L (Rd (f a))) : Cb ε q (fun a => [Ra a]) (fun a => pur (f a)) Rd :=
  cb1 fun a v F L hx Q X q1 => ⟨f a, q1, h a v F L hx⟩

theorem cv {v : V} {F : Hp} {L : Cells} {R : VP} [Mono R] {σ : L2.St} (h : R v F) : Run (tCons (tC v) tNil σ) F L (Each [R]) := r_cons (r_c h) r_nil
theorem c_lenT [∀ a, Mono (R a)] : Cb ε (rLn K) (fun xs => [fTp K R xs]) (fun xs => pur xs.length) (fD K dN) :=
  cb1p fun xs v F L hx => r_is (r_lnT (cv (R := Tp K (xs.map R)) hx)) (by rw [List.length_map]; rfl)
theorem c_lenL [∀ a, Mono (R a)] : Cb ε (rLn K) (fun xs => [fLn R xs]) (fun xs => pur xs.length) (fD K dN) :=
  cb1p fun xs v F L hx => r_is (r_lnL (r_cons (r_ls (r_c (R := Ln (xs.map R)) hx)) r_nil)) (by rw [List.length_map]; rfl)
theorem c_lenDT {d : α → PyData} : Cb ε (rLn K) (fun xs => [fD K (dT d) xs]) (fun xs => pur xs.length) (fD K dN) :=
  cb1p fun xs v F L hx => r_lnN (xs := xs) (f := d) (cv (R := Dt K (.tuple (xs.map d))) hx)
theorem c_lenDL {d : α → PyData} : Cb ε (rLn K) (fun xs => [fD K (dL d) xs]) (fun xs => pur xs.length) (fD K dN) :=
  cb1p fun xs v F L hx => r_is (r_lnLD (r_c (R := Dt K (.list (xs.map d))) hx)) (by rw [List.length_map]; rfl)
theorem c_all : Cb ε (rAll K) (fun xs => [fLn (fD K dB) xs]) (fun xs => pur (xs.all id)) (fD K dB) :=
  cb1p fun xs v F L hx => r_all (r_cons (r_ls (r_c (R := Ln (xs.map (fD K dB))) hx)) r_nil)
theorem c_listT [∀ a, Mono (R a)] : Cb ε (rListOf K) (fun xs => [fTp K R xs]) (fun xs => pur xs) (fLn R) := cb1p fun xs v F L hx => r_listT (cv (R := Tp K (xs.map R)) hx)
theorem c_tupL [∀ a, Mono (R a)] : Cb ε (rTupOf K) (fun xs => [fLn R xs]) (fun xs => pur xs) (fTp K R) := cb1p fun xs v F L hx => r_tupL (r_cons (r_ls (r_c (R := Ln (xs.map R)) hx)) r_nil)
theorem c_tupDL {d : α → PyData} : Cb ε (rTupOf K) (fun xs => [fD K (dL d) xs]) (fun xs => pur xs) (fD K (dT d)) := cb1p fun xs v F L hx => r_tupD (ds := xs.map d) (cv (R := Dt K (.list (xs.map d))) hx)
theorem c_setT : Cb ε (rSetI K w) (fun xs => [fD K (dT dN) xs]) (fun xs Q X => xs.length ≤ 1000 ∧ Q xs) (fSet w) :=
  cb1 fun xs v F L hx Q X ⟨q0, q1⟩ => ⟨_, q1, r_set (R := fD K (dT dN) xs) (cv hx) (fun v F1 h => seqI_row h) (by rw [List.length_map]; exact q0)⟩
theorem mem_cI2 {r : List Nat} {k : Int} : k ∈ cI r ↔ ∃ n : Nat, k = n ∧ n ∈ r := by
  rw [cI, List.mem_map]
  exact ⟨fun ⟨a, h, e⟩ => ⟨a, e.symm, h⟩, fun ⟨a, h, e⟩ => ⟨a, e, h.symm⟩⟩
theorem sset_cI {xs : List Nat} (k : Int) : k ∈ cI (sset xs) ↔ k ∈ cI xs := by
  rw [mem_cI2, mem_cI2]
  exact ⟨fun ⟨n, h, e⟩ => ⟨n, h, mem_sset.mp e⟩, fun ⟨n, h, e⟩ => ⟨n, h, mem_sset.mpr e⟩⟩
theorem c_sortedSet : Cb ε (rSortedSet w) (fun xs => [fSet w xs]) (fun xs Q X => xs.length < 64 ∧ Q (sset xs)) (fD K (dL dN)) :=
  cb1 fun xs v F L hx Q X ⟨q0, q1⟩ => ⟨_, q1, r_is (r_sortedSet (w := w) (ns := cI xs) (cv (R := Rs.St w (cI xs)) hx) (by rw [List.length_map]; exact q0) (cI (sset xs)) (asc_cI asc_sset) sset_cI) (by
    show PyData.list _ = PyData.list _
    exact congrArg PyData.list (row_int (r := sset xs)).symm)⟩
theorem c_str : Cb ε (fun xs H Q => ∃ i, xs = [V.int i] ∧ i.natAbs.log2 < 1920 ∧ Q (.str (toString i)) H) (fun n => [fD K dN n]) (fun n Q X => n ≤ 1000 ∧ Q (strN n)) (fD K dS) :=
  cb1 fun n v F L hx Q X ⟨q0, q1⟩ => ⟨_, q1, r_strI (n := n) (cv (R := Dt K (nI n)) hx) q0⟩
theorem c_minN : Cb ε rMin2 (fun p : Nat × Nat => [fD K dN p.1, fD K dN p.2]) (fun p => pur (min p.1 p.2)) (fD K dN) := .of fun g vs F L hv Q X q1 => by
  obtain ⟨v, u, rfl, h1, h2⟩ := each2 hv
  exact ⟨_, q1, r_min2N (σ := []) (t := tCons (tC v) (tCons (tC u) tNil)) (K := K) (r_cons (r_c (R := Dt K (nI g.1)) h1) (r_cons (r_c (R := Dt K (nI g.2)) h2) r_nil))⟩
theorem c_maxN : Cb ε rMax2 (fun p : Nat × Nat => [fD K dN p.1, fD K dN p.2]) (fun p => pur (max p.1 p.2)) (fD K dN) := .of fun g vs F L hv Q X q1 => by
  obtain ⟨v, u, rfl, h1, h2⟩ := each2 hv
  exact ⟨_, q1, r_max2N (σ := []) (t := tCons (tC v) (tCons (tC u) tNil)) (K := K) (r_cons (r_c (R := Dt K (nI g.1)) h1) (r_cons (r_c (R := Dt K (nI g.2)) h2) r_nil))⟩
theorem tr_ty {T : String} : TrE Z ρ κ (tC (.ty T)) (pur ()) fun _ : Unit => Eqv (.ty T) := ⟨fun _ => inferInstance, fun σ F L s c Q X q => .of (run_ret fun F1 e => ⟨(), q, rfl⟩)⟩
/-! f-strings -/
theorem tr_fmtN {mN : Wm ε Nat} (h : TrE Z ρ κ te mN (fD K dN)) : TrE Z ρ κ (tFmt te) (fun Q X => mN (fun n => n ≤ 1000 ∧ Q (strN n)) X) (fD K dS) :=
  tr_lift (kk := tFmt) (mf := fun n Q X => n ≤ 1000 ∧ Q (strN n)) (fun _ _ _ _ => rfl) h fun n v F L hx Q X ⟨q0, q1⟩ => ⟨_, q1, r_fmtI (n := n) (r_c (R := Dt K (nI n)) hx) q0⟩
structure TrJ (Z : Wsh ε) (ρ : List (Option VP)) (κ : List Ow) (ts : List TE) (m : Str → Wm ε Str) : Prop where
  run : ∀ acc σ F L, SatV ρ σ F → SatC κ σ F L → ∀ Q X, m acc Q X → RunW Z (fun H Q => tJs ts acc σ H Q) F L (fun o _ => Q o) X
theorem tj_nil : TrJ Z ρ κ [] fun acc => pur acc := ⟨fun acc σ F L s c Q X q => rw_ret fun _ _ => q⟩
theorem tj_cons {mS : Wm ε Str} {mr : Str → Wm ε Str} {ts : List TE} (h : TrE Z ρ κ te mS (fD K dS)) (r : TrJ Z ρ κ ts mr) : TrJ Z ρ κ (te :: ts) fun acc Q X => mS (fun y => (acc ++ y).length ≤ 100000 ∧ mr (acc ++ y) Q X) X :=
  ⟨fun acc σ F L s c Q X q => by
    have hcons := fun y F1 (hy : Dt K (.str y) (.str y) F1) => hy
    intro F1 N H e A wsh Qk qk
    show te σ H _
    refine h.run σ F L s c _ X q F1 N H e A wsh _ fun x F2 H2 e2 A2 ⟨y, ⟨q0, q1⟩, hx⟩ => ?_
    cases hx
    refine ⟨y, rfl, len_ok q0, ?_⟩
    exact r.run (acc ++ y) σ F2 L (satV_up (e.trans e2) s) (satC_up (e.trans e2) c) Q X q1 F2 N H2 (Same.refl _) A2 (wsh.up e2) Qk fun o F3 H3 e3 A3 r => qk o F3 H3 (e2.trans e3) A3 r⟩
theorem tr_js {ts : List TE} {mf : Str → Wm ε Str} (h : TrJ Z ρ κ ts mf) : TrE Z ρ κ (fun σ H (Q : VK) => tJs ts Str.empty σ H fun out H1 => Q (V.str out) H1) (mf Str.empty) (fD K dS) :=
  ⟨inferInstance, fun σ F L s c Q X q => rw_bind (k := fun H Q => tJs ts Str.empty σ H Q) (k2 := fun out H1 Q => Q (V.str out) H1) (h.run Str.empty σ F L s c Q X q) fun o F1 e1 q1 => rw_ret fun _ _ => ⟨o, q1, Dp.str o⟩⟩
end
end Tw

/-! Tw3: what is walked, targets, comprehensions, statements. -/
namespace Tw
open PySem PySem.Spec PyProof.Rows L2 SlX StX Rs Ma
variable [Rs.Tabz]
/-- each with its place -/
def enumL {α : Type} (xs : List α) : List (Nat × α) := xs.zipIdx.map fun p => (p.2, p.1)
section
variable {ε α β γ δ S S1 : Type} {Z : Wsh ε} {ρ : List (Option VP)} {κ κ' : List Ow} {K : PySem.W.Frag} {w : World} {te ta tb tc : TE} {t : TA} {tt : TT} {wi : TI} {g g1 g2 : TG} {ma : Wm ε α} {mb : Wm ε β} {m : Wm ε α} {ml : Wm ε (List α)} {Ra R : α → VP} {Rb : β → VP} {Rd : δ → VP} {i j : Nat}
/-! ### what is walked -/
theorem tI_of (wi' : TE → TI) {Rl : List α → VP} [∀ a, Mono (R a)] (h : TrE Z ρ κ te ml Rl) (i : ∀ xs v σ F L, Rl xs v F → Run (wi' (tC v) σ) F L (fun J F1 => Seqs J (xs.map R) F1)) (hk : ∀ te σ H Q, wi' te σ H Q = te σ H fun x H1 => wi' (tC x) σ H1 Q) : TrI Z ρ κ (wi' te) ml R :=
  ⟨inferInstance, fun σ F L s c Q X q => by
    have e : wi' te σ = fun H Q => te σ H fun x H1 => wi' (tC x) σ H1 Q := by
      funext H Q
      exact hk te σ H Q
    rw [e]
    exact rw_bind (k := te σ) (h.run σ F L s c Q X q) fun x F1 e1 ⟨xs, q1, hx⟩ => .of ((i xs x σ F1 L hx).weak fun J F2 e2 hJ => ⟨xs, q1, hJ⟩)⟩
theorem ti_tup [∀ a, Mono (R a)] (h : TrE Z ρ κ te ml (fTp K R)) : TrI Z ρ κ (iTup K te) ml R :=
  tI_of (iTup K) h (fun xs v σ F L hx => i_tup (r_c (R := Tp K (xs.map R)) hx)) fun _ _ _ _ => rfl
theorem ti_tupD {d : α → PyData} (h : TrE Z ρ κ te ml (fD K (dT d))) : TrI Z ρ κ (iTup K te) ml (fD K d) := ti_tup (tr_dTp h)
theorem ti_lst [∀ a, Mono (R a)] (h : TrE Z ρ κ te ml (fLn R)) : TrI Z ρ κ (iList K te) ml R :=
  tI_of (iList K) h (fun xs v σ F L hx => i_lst (r_ls (r_c (R := Ln (xs.map R)) hx))) fun _ _ _ _ => rfl
theorem ti_rangeN {mN : Wm ε Nat} (h : TrE Z ρ κ te mN (fD K dN)) : TrI Z ρ κ (iRng1 (tCons te tNil)) (fun Q X => mN (fun n => n ≤ 1000 ∧ Q (List.range n)) X) (fD K dN) :=
  ⟨inferInstance, fun σ F L s c Q X q => rw_bind (k := te σ) (k2 := fun x H Q => iRng1 (tCons (tC x) tNil) σ H Q) (h.run σ F L s c _ X q) fun x F1 e1 ⟨n, ⟨q0, q1⟩, hx⟩ => .of (Run.weak (i_rangeN (n := n) (r_c (R := Dt K (nI n)) hx) q0) fun J F2 e2 hJ => ⟨_, q1, hJ⟩)⟩
theorem enum_map {f : α → VP} {xs : List α} : (enumL xs).map (fP K (fD K dN) f) = Pairs K (xs.map f) := by
  rw [pairs_map, enumL, List.map_map]
  rfl
theorem ti_enumT [∀ a, Mono (R a)] (h : TrE Z ρ κ te ml (fTp K R)) : TrI Z ρ κ (iEnumT K (tCons te tNil)) (fun Q X => ml (fun xs => Q (enumL xs)) X) (fP K (fD K dN) R) :=
  ⟨inferInstance, fun σ F L s c Q X q => rw_bind (k := te σ) (k2 := fun x H Q => iEnumT K (tCons (tC x) tNil) σ H Q) (h.run σ F L s c _ X q) fun x F1 e1 ⟨xs, q1, hx⟩ => .of (Run.weak (i_enumT (Rs := xs.map R) (r_cons (r_c (R := Tp K (xs.map R)) hx) r_nil)) fun J F2 e2 hJ => ⟨_, q1, by rw [enum_map]; exact hJ⟩)⟩
theorem TrI.conv {R' : α → VP} (h : TrI Z ρ κ wi ml R) [∀ a, Mono (R' a)] (e : R = R') : TrI Z ρ κ wi ml R' := by subst e; exact h

/-! ### targets -/
structure TrG (g : TG) (Rx : β → VP) (js : List Nat) (up : β → List (Option VP) → List (Option VP)) : Prop where
  run : ∀ x v σ F ρ N H, SatV ρ σ F → Rx x v F → At F N H → ∀ Q : L2.St → Hp → Prop, (∀ σ2, (∀ i, i ∉ js → σ2[i]? = σ[i]?) → SatV (up x ρ) σ2 F → Q σ2 H) → g v σ H Q
theorem tg_name (j : Nat) [m : ∀ a, Mono (R a)] : TrG (gName j) R [j] fun x ρ => st ρ j (some (R x)) :=
  ⟨fun x v σ F ρ N H s hx A Q q => q _ (fun i hi => List.getElem?_set_ne fun z => hi (by rw [z]; exact List.mem_singleton.mpr rfl)) (satV_set hx (m x) s)⟩
theorem tg_pair {js1 js2 : List Nat} {up1 : α → List (Option VP) → List (Option VP)} {up2 : β → List (Option VP) → List (Option VP)} (h1 : TrG g1 R js1 up1) (h2 : TrG g2 Rb js2 up2) :
    TrG (gTup K 2 (gCons g1 (gCons g2 gNil))) (fP K R Rb) (js1 ++ js2) fun p ρ => up2 p.2 (up1 p.1 ρ) :=
  ⟨fun x v σ F ρ N H s hx A Q q => by
    obtain ⟨a, vs, rfl, hs, hr⟩ := hx
    obtain ⟨v1, v2, rfl, r1, r2⟩ := each2 hr
    refine ⟨a, [v1, v2], rfl, sqT_up A.ex hs, rfl, v1, [v2], rfl, h1.run x.1 v1 σ F ρ N H s r1 A _ fun σ1 a1 s1 => ⟨v2, [], rfl, h2.run x.2 v2 σ1 F _ N H s1 r2 A _ fun σ2 a2 s2 => ⟨rfl, q σ2 (fun i hi => ?_) s2⟩⟩⟩
    rw [List.mem_append, not_or] at hi
    rw [a2 i hi.2, a1 i hi.1]⟩
theorem TrG.conv {js : List Nat} {up : α → List (Option VP) → List (Option VP)} {R' : α → VP} (h : TrG g R js up) (e : ∀ a v F, R' a v F → R a v F) : TrG g R' js up :=
  ⟨fun x v σ F ρ N H s hx A Q q => h.run x v σ F ρ N H s (e _ _ _ hx) A Q q⟩
theorem wipe_agree {σ σ2 : L2.St} {js : List Nat} (hl : σ2.length = σ.length) (ag : ∀ i, i ∉ js → σ2[i]? = σ[i]?) : ∀ {vs : List Nat}, (js.all fun j => vs.contains j) = true → wipe σ2 vs = wipe σ vs := by
  have key : ∀ (vs : List Nat) (σ : L2.St) (i : Nat), (wipe σ vs)[i]? = if i ∈ vs then (if i < σ.length then some none else none) else σ[i]? := by
    intro vs
    induction vs with
    | nil => intro σ i; simp [wipe]
    | cons v vs ih =>
      intro σ i
      unfold wipe
      by_cases h : v = i
      · subst h
        rw [List.getElem?_set_self', ih]
        by_cases h2 : v ∈ vs
        · by_cases h3 : v < σ.length <;> simp [h2, h3]
        · by_cases h3 : v < σ.length <;> simp [h2, h3]
      · rw [List.getElem?_set_ne h, ih]
        have h' : ¬ i = v := fun z => h z.symm
        simp [h']
  intro vs h
  apply List.ext_getElem?
  intro i
  rw [key, key]
  by_cases hi : i ∈ vs
  · rw [if_pos hi, if_pos hi, hl]
  · rw [if_neg hi, if_neg hi]
    refine ag i fun z => hi ?_
    have := List.all_eq_true.mp h i z
    simpa using this
theorem sat_len : ∀ {ρ σ F}, SatV ρ σ F → ρ.length = σ.length
  | [], [], _, _ => rfl
  | none :: ρ, _ :: σ, F, h => by rw [List.length_cons, List.length_cons, sat_len (ρ := ρ) (σ := σ) h]
  | some _ :: ρ, _ :: σ, F, h => by rw [List.length_cons, List.length_cons, sat_len (ρ := ρ) (σ := σ) h.2]
  | [], _ :: _, _, h => h.elim
  | none :: _, [], _, h => h.elim
  | some _ :: _, [], _, h => h.elim
/-! ### lists of one's own that come to be -/
structure TrN (Z : Wsh ε) (ρ : List (Option VP)) (κ : List Ow) (te : TE) (m : Wm ε (List α)) (R : α → VP) : Prop where
  mono : ∀ a, Mono (R a)
  run : ∀ σ F L, SatV ρ σ F → SatC κ σ F L → ∀ Q X, m Q X → ∀ F1 N H, Same F F1 → At F1 (L ++ N) H → WishOk Z F1 N X → ∀ Qk : VK, (∀ a vs F2 H2 xs, Same F1 F2 → At F2 ((a, .lst vs) :: (L ++ N)) H2 → Each (xs.map R) vs F2 → Q xs → Qk (.ref a) H2) → te σ H Qk
/-- it stays -/
theorem TrN.e (h : TrN Z ρ κ te ml R) : TrE Z ρ κ te ml (fLn R) :=
  have := h.mono
  ⟨inferInstance, fun σ F L s c Q X q F1 N H e A wsh Qk qk => h.run σ F L s c Q X q F1 N H e A wsh Qk fun a vs F2 H2 xs e2 A2 r q1 =>
    qk _ _ _ (e2.trans (same_new A2.off1)) A2.keep ⟨xs, q1, a, vs, rfl, upd_same, MonoL.mono _ _ _ (same_new A2.off1) r⟩⟩
theorem tn_lst [∀ a, Mono (R a)] (h : TrA Z ρ κ t ml fun xs => xs.map R) : TrN Z ρ κ (tLst t) (fun Q X => ml (fun xs => xs.length ≤ 100000 ∧ Q xs) X) R :=
  ⟨inferInstance, fun σ F L s c Q X q F1 N H e A wsh Qk qk => h.run σ F L s c _ X q F1 N H e A wsh _ fun vs F2 H2 e2 A2 ⟨xs, ⟨q0, q1⟩, r⟩ =>
    ⟨len_ok (by rw [each_length r, List.length_map]; exact q0), fun p hp => qk p vs F2 _ xs e2 (A2.cell hp) r q1⟩⟩
theorem tn_listL [∀ a, Mono (R a)] (h : TrE Z ρ κ te ml (fLn R)) : TrN Z ρ κ (tCB (rListOf K) (tCons te tNil)) ml R :=
  ⟨inferInstance, fun σ F L s c Q X q F1 N H e A wsh Qk qk => h.run σ F L s c _ X q F1 N H e A wsh _ fun v F2 H2 e2 A2 ⟨xs, q1, a, vs, ev, hs, r⟩ => by
    subst ev
    exact ⟨a, vs, rfl, .inl (.inl (.inl (A2.ex _ _ hs))), fun l hl => qk l vs F2 _ xs e2 (A2.cell hl) r q1⟩⟩
/-- a comprehension, one behind the other -/
def lcW (mc : β → Wm ε Bool) (me : β → Wm ε δ) : List β → Wm ε (List δ)
  | [], Q, _ => Q []
  | x :: xs, Q, X => mc x (fun b => if b = true then me x (fun y => lcW mc me xs (fun ys => Q (y :: ys)) X) X else lcW mc me xs Q X) X
theorem drop_at {xs : List β} {i : Nat} {x : β} (h : xs[i]? = some x) : xs.drop i = x :: xs.drop (i + 1) := by
  obtain ⟨hl, hx⟩ := List.getElem?_eq_some_iff.mp h
  rw [List.drop_eq_getElem_cons hl, hx]
theorem tn_lc {vs js : List Nat} {up : β → List (Option VP) → List (Option VP)} {mi : Wm ε (List β)} {mc : β → Wm ε Bool} {me : β → Wm ε δ} {Rx : β → VP} [∀ d, Mono (Rd d)] (hi : TrI Z ρ κ wi mi Rx) (hg : TrG g Rx js up) (hj : (js.all fun j => vs.contains j) = true) (fc : freeCs vs κ = true) (fj : freeCs js κ = true)
    (hc : ∀ x, TrT Z (up x (wipeE ρ vs)) κ tt (mc x)) (he : ∀ x, TrE Z (up x (wipeE ρ vs)) κ te (me x) Rd) (hlen : ∀ x, (up x (wipeE ρ vs)).length = ρ.length) :
    TrN Z ρ κ (tLc wi g tt te vs) (fun Q X => mi (fun xs => xs.length ≤ 40000 ∧ lcW mc me xs Q X) X) Rd :=
  ⟨inferInstance, fun σ F L s c Q X q F1 N H e A wsh Qk qk => hi.run σ F L s c _ X q F1 N H e A wsh _ fun J F2 H2 e2 A2 ⟨xs, ⟨hz, q1⟩, ⟨G, Y, wk, hG, hY⟩⟩ D hD => by
    have hl := sat_len s
    rw [List.length_map] at wk
    refine lc_it wk (Qd := fun H => Qk (.ref D) H) (fun i H' => ∃ F' acc ys, Same F2 F' ∧ At F' ((D, .lst acc) :: (L ++ N)) H' ∧ Each (ys.map Rd) acc F' ∧ ys.length ≤ i ∧ lcW mc me (xs.drop i) (fun zs => Q (ys ++ zs)) X) ⟨F2, [], [], Same.refl _, A2.cell hD, (show Each [] [] F2 from True.intro), Nat.le_refl _, q1⟩
      (fun i H' _ ⟨F', acc, ys, e', A', _⟩ => hG F' _ H' e' A') ?_ ?_
    · rintro i x H3 H4 hi ⟨F', acc, ys, e', A', hacc, hyl, q2⟩ y
      obtain ⟨F3, R, e3, A3, hR, hx⟩ := hY F' _ H3 i x H4 e' A' (by rw [List.length_map]; exact hi) y
      rw [List.getElem?_map] at hR
      have hxi : xs[i]? = some xs[i] := List.getElem?_eq_getElem hi
      rw [hxi] at hR
      cases hR
      rw [drop_at hxi, lcW] at q2
      have P0 : ((D, HO.lst acc) :: (L ++ N)).Perm (L ++ ((D, .lst acc) :: N)) := List.perm_middle.symm
      have e13 : Same F F3 := ((e.trans e2).trans e').trans e3
      have s3 := satV_up e13 s
      have c3 := satC_up e13 c
      have w3 : WishOk Z F3 ((D, HO.lst acc) :: N) X := (wsh.up ((e2.trans e').trans e3)).push1
      refine hg.run xs[i] x (wipe σ vs) F3 (wipeE ρ vs) _ H4 (satV_wipe s3 vs) hx A3 _ fun σ2 ag s4 => ⟨?_, ?_⟩
      · have h1 : σ2.length = (wipe σ vs).length := by
          rw [← sat_len s4, hlen, wipe_length, hl]
        rw [wipe_agree h1 ag hj]
        apply List.ext_getElem?
        intro i
        have key := wipe_agree (σ := σ) (σ2 := wipe σ vs) (js := vs) (wipe_length _ _) (fun i hi => by
          cases h : (wipe σ vs)[i]? with
          | none =>
            have : σ.length ≤ i := by
              have := List.getElem?_eq_none_iff.mp h
              rwa [wipe_length] at this
            exact (List.getElem?_eq_none_iff.mpr this).symm
          | some o =>
            have hkey : ∀ (vs : List Nat) (i : Nat), i ∉ vs → (wipe σ vs)[i]? = σ[i]? := by
              intro vs
              induction vs with
              | nil => intro i _; rfl
              | cons v vs ih =>
                intro i hi
                rw [List.mem_cons, not_or] at hi
                rw [wipe, List.getElem?_set_ne (fun z => hi.1 z.symm), ih i hi.2]
            rw [← h, hkey vs i hi]) (vs := vs) (by rw [List.all_eq_true]; intro x hx; simpa using hx)
        rw [key]
      · have c4 : SatC κ σ2 F3 L := satC_agree ag fj (satC_wipe c3 fc)
        refine (hc xs[i]).run σ2 F3 L s4 c4 _ X q2 F3 _ H4 (Same.refl _) (A3.perm P0) w3 _ fun b F5 H5 e5 A5 q5 => ?_
        cases b with
        | true =>
          rw [if_pos rfl] at q5
          refine iteT ?_
          refine (he xs[i]).run σ2 F5 L (satV_up e5 s4) (satC_up e5 c4) _ X q5 F5 _ H5 (Same.refl _) A5 (w3.up e5) _ fun y F6 H6 e6 A6 ⟨d, q6, hy⟩ => ?_
          have A7 := A6.perm P0.symm
          have hla : acc.length = ys.length := by rw [each_length hacc, List.length_map]
          refine ⟨acc, A7.on1, len_lt (by omega), F6, acc ++ [y], ys ++ [d], ((e'.trans e3).trans e5).trans e6, A7.put, ?_, by rw [List.length_append]; show ys.length + 1 ≤ i + 1; omega, ?_⟩
          · rw [List.map_append]
            exact each_app (Mono.go hacc ((e3.trans e5).trans e6)) ⟨hy, True.intro⟩
          · have e9 : (fun zs => Q (ys ++ [d] ++ zs)) = fun zs => Q (ys ++ d :: zs) := by funext zs; rw [List.append_assoc]; rfl
            rw [e9]; exact q6
        | false =>
          rw [if_neg Bool.false_ne_true] at q5
          exact iteF ⟨F5, acc, ys, (e'.trans e3).trans e5, A5.perm P0.symm, Mono.go hacc (e3.trans e5), Nat.le_succ_of_le hyl, q5⟩
    · rintro H3 ⟨F', acc, ys, e', A', hacc, hyl, q2⟩
      rw [List.drop_length, lcW, List.append_nil] at q2
      exact qk D acc F' H3 ys (e2.trans e') A' hacc q2⟩
theorem tr_lc {vs js : List Nat} {up : β → List (Option VP) → List (Option VP)} {mi : Wm ε (List β)} {mc : β → Wm ε Bool} {me : β → Wm ε δ} {Rx : β → VP} [∀ d, Mono (Rd d)] (hi : TrI Z ρ κ wi mi Rx) (hg : TrG g Rx js up) (hj : (js.all fun j => vs.contains j) = true) (fc : freeCs vs κ = true) (fj : freeCs js κ = true)
    (hlen : ∀ x, (up x (wipeE ρ vs)).length = ρ.length) (hc : ∀ x, TrT Z (up x (wipeE ρ vs)) κ tt (mc x)) (he : ∀ x, TrE Z (up x (wipeE ρ vs)) κ te (me x) Rd) :
    TrE Z ρ κ (tLc wi g tt te vs) (fun Q X => mi (fun xs => xs.length ≤ 40000 ∧ lcW mc me xs Q X) X) (fLn Rd) := (tn_lc hi hg hj fc fj hc he hlen).e
theorem lcW_pure {f : β → Bool} {h : β → δ} {Q : List δ → Prop} {X : ε → Prop} : ∀ {xs : List β}, lcW (ε := ε) (fun x => pur (f x)) (fun x => pur (h x)) xs Q X ↔ Q ((xs.filter f).map h)
  | [] => Iff.rfl
  | x :: xs => by
    rw [lcW, List.filter_cons]
    cases f x with
    | true => exact lcW_pure (Q := fun ys => Q (h x :: ys))
    | false => exact lcW_pure
theorem lcW_p {f : β → Bool} {h : β → δ} {Q : List δ → Prop} {X : ε → Prop} {xs : List β} : lcW (ε := ε) (fun x Q _ => Q (f x)) (fun x Q _ => Q (h x)) xs Q X = Q ((xs.filter f).map h) := propext lcW_pure
/-- what is asked, by what each asks -/
theorem lcW_of {mc : β → Wm ε Bool} {me : β → Wm ε δ} {f : β → Bool} {h : β → δ} {X : ε → Prop} : ∀ {xs : List β} {Q : List δ → Prop}, (∀ x ∈ xs, ∀ Q : Bool → Prop, Q (f x) → mc x Q X) → (∀ x ∈ xs, f x = true → ∀ Q : δ → Prop, Q (h x) → me x Q X) → Q ((xs.filter f).map h) → lcW mc me xs Q X
  | [], Q, _, _, q => q
  | x :: xs, Q, hc, he, q => by
    rw [lcW]
    refine hc x List.mem_cons_self _ ?_
    rw [List.filter_cons] at q
    cases hf : f x with
    | true =>
      rw [hf, if_pos rfl] at q
      rw [if_pos rfl]
      exact he x List.mem_cons_self hf _ (lcW_of (fun y hy => hc y (List.mem_cons_of_mem _ hy)) (fun y hy => he y (List.mem_cons_of_mem _ hy)) q)
    | false =>
      rw [hf, if_neg Bool.false_ne_true] at q
      rw [if_neg Bool.false_ne_true]
      exact lcW_of (fun y hy => hc y (List.mem_cons_of_mem _ hy)) (fun y hy => he y (List.mem_cons_of_mem _ hy)) q
/-- without a test -/
theorem lcW_map {me : β → Wm ε δ} {h : β → δ} {X : ε → Prop} {xs : List β} {Q : List δ → Prop} (he : ∀ x ∈ xs, ∀ Q : δ → Prop, Q (h x) → me x Q X) (q : Q (xs.map h)) : lcW (fun _ Q _ => Q true) me xs Q X :=
  lcW_of (f := fun _ => true) (fun _ _ _ q => q) (fun x hx _ => he x hx) (by rw [List.filter_eq_self.mpr fun _ _ => rfl]; exact q)
end
end Tw

/-! Tw4: statements, defs. -/
namespace Tw
open PySem PySem.Spec PyProof.Rows L2 SlX StX Rs Ma
variable [Rs.Tabz]
theorem leV_nil : leV [] [] := True.intro
theorem leV_none {o : Option VP} {ρ ρ' : List (Option VP)} (h : leV ρ ρ') : leV (o :: ρ) (none :: ρ') := by cases o <;> exact h
theorem leV_some {R : VP} {ρ ρ' : List (Option VP)} (h : leV ρ ρ') : leV (some R :: ρ) (some R :: ρ') := ⟨rfl, h⟩
section
variable {ε α β γ δ S S1 S2 : Type} {Z : Wsh ε} {ρ ρ' : List (Option VP)} {κ κ' κ1 : List Ow} {K : PySem.W.Frag} {w : World} {te ta tb tc : TE} {t u : TS} {tg : TA} {tt : TT} {wi : TI} {g : TG} {ma : Wm ε α} {mb : Wm ε β} {m : Wm ε α} {ml : Wm ε (List α)} {Ra R : α → VP} {Rb : β → VP} {Rd : δ → VP} {i j : Nat}
  {ρ2 : S → List (Option VP)} {κ2 : S → List Ow} {ρ1 : S1 → List (Option VP)} {κ1s : S1 → List Ow}
/-- the last statement -/
theorem ts_one {mm : Ws ε S δ} (h : TrS Z ρ κ (tSeq t tNext) mm ρ2 κ2 Rd) : TrS Z ρ κ t mm ρ2 κ2 Rd := h
theorem ts_next (s : S) (hv : leV ρ (ρ2 s)) (hc : ∀ σ F L, SatC κ σ F L → SatC (κ2 s) σ F L) : TrS Z ρ κ tNext (fun Nx (_ : δ → Prop) _ => Nx s) ρ2 κ2 Rd :=
  ⟨fun σ F L sv sc Nx Rt X q F1 N H e A wsh D nx rt => nx σ F1 L H (Same.refl _) A ⟨s, q, satV_le hv (satV_up e sv), hc _ _ _ (satC_up e sc)⟩⟩
theorem ts_nextq {mm : Ws ε S δ} (h : TrS Z ρ κ u mm ρ2 κ2 Rd) : TrS Z ρ κ (tSeq tNext u) mm ρ2 κ2 Rd := h
theorem ts_asg {js : List Nat} {up : α → List (Option VP) → List (Option VP)} {mk : α → Ws ε S δ} (h : TrE Z ρ κ te m R) (hg : TrG g R js up) (fj : freeCs js κ = true) (k : ∀ a, TrS Z (up a ρ) κ u (mk a) ρ2 κ2 Rd) :
    TrS Z ρ κ (tSeq (tAsg te g) u) (fun Nx Rt X => m (fun a => mk a Nx Rt X) X) ρ2 κ2 Rd :=
  ⟨fun σ F L sv sc Nx Rt X q F1 N H e A wsh D nx rt => h.run σ F L sv sc _ X q F1 N H e A wsh _ fun v F2 H2 e2 A2 ⟨a, q1, hv⟩ =>
    hg.run a v σ F2 ρ _ H2 (satV_up (e.trans e2) sv) hv A2 _ fun σ2 ag s2 => (k a).run σ2 F2 L s2 (satC_agree ag fj (satC_up (e.trans e2) sc)) Nx Rt X q1 F2 N H2 (Same.refl _) A2 (wsh.up e2) D
      (fun σ3 F3 L3 H3 e3 A3 n => nx σ3 F3 L3 H3 (e2.trans e3) A3 n) fun v F3 H3 e3 A3 n => rt v F3 H3 (e2.trans e3) A3 n⟩
theorem ts_set {mk : α → Ws ε S δ} (i : Nat) (h : TrE Z ρ κ te m R) (f : freeCs [i] κ = true) (k : ∀ a, TrS Z (st ρ i (some (R a))) κ u (mk a) ρ2 κ2 Rd) :
    TrS Z ρ κ (tSeq (tAsg te (gName i)) u) (fun Nx Rt X => m (fun a => mk a Nx Rt X) X) ρ2 κ2 Rd :=
  have := h.mono
  ts_asg h (tg_name i) f k
theorem ts_par {i j : Nat} {mk : α × β → Ws ε S δ} (ha : TrE Z ρ κ ta ma Ra) (hb : TrE Z ρ κ tb mb Rb) (f : freeCs [i, j] κ = true) (k : ∀ p : α × β, TrS Z (st (st ρ i (some (Ra p.1))) j (some (Rb p.2))) κ u (mk p) ρ2 κ2 Rd) :
    TrS Z ρ κ (tSeq (tPar i j (tCons ta (tCons tb tNil))) u) (fun Nx Rt X => ma (fun a => mb (fun b => mk (a, b) Nx Rt X) X) X) ρ2 κ2 Rd :=
  ⟨fun σ F L sv sc Nx Rt X q F1 N H e A wsh D nx rt => by
    show tCons ta (tCons tb tNil) σ H (fun vs H1 => ∃ v w, vs = [v, w] ∧ u D ((σ.set i (some v)).set j (some w)) H1)
    refine (ta_cons ha (ta_one hb)).run σ F L sv sc (fun p => mk p Nx Rt X) X q F1 N H e A wsh _ fun vs F2 H2 e2 A2 ⟨p, q1, hv⟩ => ?_
    obtain ⟨v, v', rfl, h1, h2⟩ := each2 hv
    refine ⟨v, v', rfl, ?_⟩
    have c2 : SatC κ ((σ.set i (some v)).set j (some v')) F2 L := satC_agree (js := [i, j]) (fun l hl => by
      rw [List.mem_cons, List.mem_singleton, not_or] at hl
      rw [List.getElem?_set_ne (fun z => hl.2 z.symm), List.getElem?_set_ne (fun z => hl.1 z.symm)]) f (satC_up (e.trans e2) sc)
    exact (k p).run _ F2 L (satV_set h2 (hb.mono _) (satV_set h1 (ha.mono _) (satV_up (e.trans e2) sv))) c2 Nx Rt X q1 F2 N H2 (Same.refl _) A2 (wsh.up e2) D
      (fun σ3 F3 L3 H3 e3 A3 n => nx σ3 F3 L3 H3 (e2.trans e3) A3 n) fun v F3 H3 e3 A3 n => rt v F3 H3 (e2.trans e3) A3 n⟩
theorem ts_ret (h : TrE Z ρ κ te m R) : TrS Z ρ κ (tRet te) (fun (_ : S → Prop) Rt X => m Rt X) ρ2 κ2 R :=
  ⟨fun σ F L sv sc Nx Rt X q F1 N H e A wsh D nx rt => h.run σ F L sv sc _ X q F1 N H e A wsh _ fun v F2 H2 e2 A2 ⟨a, q1, hv⟩ => rt v F2 H2 e2 A2.drop ⟨a, q1, hv⟩⟩
theorem ts_retq (h : TrE Z ρ κ te m R) : TrS Z ρ κ (tSeq (tRet te) u) (fun (_ : S → Prop) Rt X => m Rt X) ρ2 κ2 R := ⟨(ts_ret h).run⟩
theorem ts_drop {mk : Ws ε S δ} (h : TrE Z ρ κ te m R) (k : TrS Z ρ κ u mk ρ2 κ2 Rd) : TrS Z ρ κ (tSeq (tDrop te) u) (fun Nx Rt X => m (fun _ => mk Nx Rt X) X) ρ2 κ2 Rd :=
  ⟨fun σ F L sv sc Nx Rt X q F1 N H e A wsh D nx rt => h.run σ F L sv sc _ X q F1 N H e A wsh _ fun v F2 H2 e2 A2 ⟨a, q1, hv⟩ =>
    k.run σ F2 L (satV_up (e.trans e2) sv) (satC_up (e.trans e2) sc) Nx Rt X q1 F2 N H2 (Same.refl _) A2 (wsh.up e2) D (fun σ3 F3 L3 H3 e3 A3 n => nx σ3 F3 L3 H3 (e2.trans e3) A3 n) fun v F3 H3 e3 A3 n => rt v F3 H3 (e2.trans e3) A3 n⟩
theorem ts_if {mc : Wm ε Bool} {m1 m2 : Ws ε S δ} (h : TrT Z ρ κ tt mc) (h1 : TrS Z ρ κ t m1 ρ2 κ2 Rd) (h2 : TrS Z ρ κ u m2 ρ2 κ2 Rd) : TrS Z ρ κ (tIfS tt t u) (fun Nx Rt X => mc (fun b => if b = true then m1 Nx Rt X else m2 Nx Rt X) X) ρ2 κ2 Rd :=
  ⟨fun σ F L sv sc Nx Rt X q F1 N H e A wsh D nx rt => h.run σ F L sv sc _ X q F1 N H e A wsh _ fun b F2 H2 e2 A2 q1 => by
    cases b with
    | true =>
      rw [if_pos rfl] at q1
      exact iteT (h1.run σ F2 L (satV_up (e.trans e2) sv) (satC_up (e.trans e2) sc) Nx Rt X q1 F2 N H2 (Same.refl _) A2 (wsh.up e2) D (fun σ3 F3 L3 H3 e3 A3 n => nx σ3 F3 L3 H3 (e2.trans e3) A3 n) fun v F3 H3 e3 A3 n => rt v F3 H3 (e2.trans e3) A3 n)
    | false =>
      rw [if_neg Bool.false_ne_true] at q1
      exact iteF (h2.run σ F2 L (satV_up (e.trans e2) sv) (satC_up (e.trans e2) sc) Nx Rt X q1 F2 N H2 (Same.refl _) A2 (wsh.up e2) D (fun σ3 F3 L3 H3 e3 A3 n => nx σ3 F3 L3 H3 (e2.trans e3) A3 n) fun v F3 H3 e3 A3 n => rt v F3 H3 (e2.trans e3) A3 n)⟩
/-- an if, what follows in each of both -/
theorem ts_ifq {w' : TS} {mc : Wm ε Bool} {m1 m2 : Ws ε S δ} (h : TrT Z ρ κ tt mc) (h1 : TrS Z ρ κ (tSeq t w') m1 ρ2 κ2 Rd) (h2 : TrS Z ρ κ (tSeq u w') m2 ρ2 κ2 Rd) : TrS Z ρ κ (tSeq (tIfS tt t u) w') (fun Nx Rt X => mc (fun b => if b = true then m1 Nx Rt X else m2 Nx Rt X) X) ρ2 κ2 Rd :=
  ⟨fun σ F L sv sc Nx Rt X q F1 N H e A wsh D nx rt => h.run σ F L sv sc _ X q F1 N H e A wsh _ fun b F2 H2 e2 A2 q1 => by
    cases b with
    | true =>
      rw [if_pos rfl] at q1
      exact iteT (h1.run σ F2 L (satV_up (e.trans e2) sv) (satC_up (e.trans e2) sc) Nx Rt X q1 F2 N H2 (Same.refl _) A2 (wsh.up e2) D (fun σ3 F3 L3 H3 e3 A3 n => nx σ3 F3 L3 H3 (e2.trans e3) A3 n) fun v F3 H3 e3 A3 n => rt v F3 H3 (e2.trans e3) A3 n)
    | false =>
      rw [if_neg Bool.false_ne_true] at q1
      exact iteF (h2.run σ F2 L (satV_up (e.trans e2) sv) (satC_up (e.trans e2) sc) Nx Rt X q1 F2 N H2 (Same.refl _) A2 (wsh.up e2) D (fun σ3 F3 L3 H3 e3 A3 n => nx σ3 F3 L3 H3 (e2.trans e3) A3 n) fun v F3 H3 e3 A3 n => rt v F3 H3 (e2.trans e3) A3 n)⟩
/-- a block, then what follows -/
theorem ts_seq {m1 : Ws ε S1 δ} {m2 : S1 → Ws ε S δ} (h1 : TrS Z ρ κ t m1 ρ1 κ1s Rd) (h2 : ∀ s, TrS Z (ρ1 s) (κ1s s) u (m2 s) ρ2 κ2 Rd) : TrS Z ρ κ (tSeq t u) (fun Nx Rt X => m1 (fun s => m2 s Nx Rt X) Rt X) ρ2 κ2 Rd :=
  ⟨fun σ F L sv sc Nx Rt X q F1 N H e A wsh D nx rt => h1.run σ F L sv sc _ Rt X q F1 N H e A wsh { D with nx := u D } (fun σ2 F2 L2 H2 e2 A2 ⟨s, q1, sv1, sc1⟩ =>
    (h2 s).run σ2 F2 L2 sv1 sc1 Nx Rt X q1 F2 N H2 (Same.refl _) A2 (wsh.up e2) D (fun σ3 F3 L3 H3 e3 A3 n => nx σ3 F3 L3 H3 (e2.trans e3) A3 n) fun v F3 H3 e3 A3 n => rt v F3 H3 (e2.trans e3) A3 n) rt⟩
/-! ### loops -/
def forW (mb : S → β → Ws ε S δ) : List β → S → Ws ε S δ
  | [], s, Nx, _, _ => Nx s
  | x :: xs, s, Nx, Rt, X => mb s x (fun s' => forW mb xs s' Nx Rt X) Rt X
theorem ts_for {js : List Nat} {up : β → List (Option VP) → List (Option VP)} {mi : Wm ε (List β)} {Rx : β → VP} {mbd : S1 → β → Ws ε S1 δ} {mr : S1 → Ws ε S δ} (s0 : S1) (h0 : leV ρ (ρ1 s0)) (hc0 : ∀ σ F L, SatC κ σ F L → SatC (κ1s s0) σ F L)
    (hi : TrI Z ρ κ wi mi Rx) (hg : TrG g Rx js up) (fj : ∀ s, freeCs js (κ1s s) = true) (hb : ∀ s x, TrS Z (up x (ρ1 s)) (κ1s s) t (mbd s x) ρ1 κ1s Rd) (hr : ∀ s, TrS Z (ρ1 s) (κ1s s) u (mr s) ρ2 κ2 Rd) :
    TrS Z ρ κ (tSeq (tFor wi g t) u) (fun Nx Rt X => mi (fun xs => forW mbd xs s0 (fun s => mr s Nx Rt X) Rt X) X) ρ2 κ2 Rd :=
  ⟨fun σ F L sv sc Nx Rt X q F1 N H e A wsh D nx rt => hi.run σ F L sv sc _ X q F1 N H e A wsh _ fun J F2 H2 e2 A2 ⟨xs, q1, ⟨G, Y, wk, hG, hY⟩⟩ => by
    rw [List.length_map] at wk
    refine for_it wk (D := { D with nx := u D }) (fun i σ' H' => ∃ F' L' s, Same F2 F' ∧ At F' (L' ++ N) H' ∧ SatV (ρ1 s) σ' F' ∧ SatC (κ1s s) σ' F' L' ∧ forW mbd (xs.drop i) s (fun s => mr s Nx Rt X) Rt X) ⟨F2, L, s0, Same.refl _, A2, satV_le h0 (satV_up (e.trans e2) sv), hc0 _ _ _ (satC_up (e.trans e2) sc), q1⟩
      (fun i σ' H' _ ⟨F', L', s, e', A', _⟩ => hG F' _ H' e' A') ?_ ?_
    · rintro i x σ' H3 H4 hi ⟨F', L', s, e', A', sv', sc', q2⟩ y
      obtain ⟨F3, R, e3, A3, hR, hx⟩ := hY F' _ H3 i x H4 e' A' (by rw [List.length_map]; exact hi) y
      rw [List.getElem?_map] at hR
      have hxi : xs[i]? = some xs[i] := List.getElem?_eq_getElem hi
      rw [hxi] at hR
      cases hR
      rw [drop_at hxi, forW] at q2
      refine hg.run xs[i] x σ' F3 (ρ1 s) _ H4 (satV_up e3 sv') hx A3 _ fun σ2 ag s2 => ?_
      exact (hb s xs[i]).run σ2 F3 L' s2 (satC_agree ag (fj s) (satC_up e3 sc')) _ Rt X q2 F3 N H4 (Same.refl _) A3 (wsh.up ((e2.trans e').trans e3)) _
        (fun σ5 F5 L5 H5 e5 A5 ⟨s', q5, sv5, sc5⟩ => ⟨F5, L5, s', (e'.trans e3).trans e5, A5, sv5, sc5, q5⟩) fun v F5 H5 e5 A5 n => rt v F5 H5 (((e2.trans e').trans e3).trans e5) A5 n
    · rintro σ' H3 ⟨F', L', s, e', A', sv', sc', q2⟩
      rw [List.drop_length, forW] at q2
      exact (hr s).run σ' F' L' sv' sc' Nx Rt X q2 F' N H3 (Same.refl _) A' (wsh.up (e2.trans e')) D (fun σ3 F3 L3 H3 e3 A3 n => nx σ3 F3 L3 H3 ((e2.trans e').trans e3) A3 n) fun v F3 H3 e3 A3 n => rt v F3 H3 ((e2.trans e').trans e3) A3 n⟩
/-- by an invariant -/
theorem forW_inv {mbd : S → β → Ws ε S δ} {Nx : S → Prop} {Rt : δ → Prop} {X : ε → Prop} (Inv : Nat → S → Prop) : ∀ {xs : List β} {s : S}, Inv 0 s → (∀ i x s, xs[i]? = some x → Inv i s → mbd s x (Inv (i + 1)) Rt X) → (∀ s, Inv xs.length s → Nx s) →
    (∀ s x (P Q : S → Prop), (∀ s, P s → Q s) → mbd s x P Rt X → mbd s x Q Rt X) → forW mbd xs s Nx Rt X := by
  intro xs s h0 hs hd mono
  suffices H : ∀ (ys : List β) (i : Nat) (s : S), (∀ j, ys[j]? = xs[i + j]?) → ys.length + i = xs.length → Inv i s → forW mbd ys s Nx Rt X from H xs 0 s (fun j => by rw [Nat.zero_add]) rfl h0
  intro ys
  induction ys with
  | nil => intro i s hj hl h; exact hd s (by simp only [List.length_nil, Nat.zero_add] at hl; rwa [hl] at h)
  | cons y ys ih =>
    intro i s hj hl h
    rw [forW]
    have hy : xs[i]? = some y := by have := hj 0; simpa using this.symm
    exact mono s y _ _ (fun s' h' => ih (i + 1) s' (fun j => by have := hj (j + 1); rw [List.getElem?_cons_succ] at this; rw [this]; congr 1; omega) (by simp only [List.length_cons] at hl; omega) h') (hs i y s hy h)
/-- each turn is known -/
theorem forW_fold {mbd : S → β → Ws ε S δ} {f : S → β → S} {Nx : S → Prop} {Rt : δ → Prop} {X : ε → Prop} : ∀ {xs : List β} {s : S}, (∀ x ∈ xs, ∀ s P, P (f s x) → mbd s x P Rt X) → Nx (xs.foldl f s) → forW mbd xs s Nx Rt X
  | [], _, _, q => q
  | x :: xs, s, h, q => h x List.mem_cons_self s _ (forW_fold (fun y hy => h y (List.mem_cons_of_mem _ hy)) q)
/-- each turn is known where the invariant holds -/
theorem forW_at {mbd : S → β → Ws ε S δ} {f : Nat → S} {Nx : S → Prop} {Rt : δ → Prop} {X : ε → Prop} {xs : List β} (h : ∀ i x, xs[i]? = some x → ∀ P : S → Prop, P (f (i + 1)) → mbd (f i) x P Rt X) (q : Nx (f xs.length)) : forW mbd xs (f 0) Nx Rt X := by
  suffices H : ∀ (ys : List β) (i : Nat), (∀ j, ys[j]? = xs[i + j]?) → ys.length + i = xs.length → forW mbd ys (f i) Nx Rt X from H xs 0 (fun j => by rw [Nat.zero_add]) rfl
  intro ys
  induction ys with
  | nil => intro i hj hl; simp only [List.length_nil, Nat.zero_add] at hl; subst hl; exact q
  | cons y ys ih =>
    intro i hj hl
    rw [forW]
    have hy : xs[i]? = some y := by have := hj 0; simpa using this.symm
    exact h i y hy _ (ih (i + 1) (fun j => by have := hj (j + 1); rw [List.getElem?_cons_succ] at this; rw [this]; congr 1; omega) (by simp only [List.length_cons] at hl; omega))
/-! ### lists of one's own -/
theorem ts_newC {mk : List α → Ws ε S δ} (i : Nat) (h : TrN Z ρ κ te ml R) (f : freeCs [i] κ = true) (hi : Nat.blt i ρ.length = true) (k : ∀ xs, TrS Z (st ρ i none) (.one i (ownL (xs.map R)) :: κ) u (mk xs) ρ2 κ2 Rd) :
    TrS Z ρ κ (tSeq (tAsg te (gName i)) u) (fun Nx Rt X => ml (fun xs => mk xs Nx Rt X) X) ρ2 κ2 Rd :=
  have := h.mono
  ⟨fun σ F L sv sc Nx Rt X q F1 N H e A wsh D nx rt => h.run σ F L sv sc _ X q F1 N H e A wsh _ fun a vs F2 H2 xs e2 A2 r q1 => by
    have e12 := e.trans e2
    refine (k xs).run (σ.set i (some (.ref a))) F2 ((a, .lst vs) :: L) (satV_none (satV_up e12 sv)) ⟨a, .lst vs, L, rfl, ?_, fun F' e' => ⟨vs, rfl, MonoL.mono _ _ _ e' r⟩, satC_agree (js := [i]) (fun l hl => List.getElem?_set_ne fun z => hl (by rw [z]; exact List.mem_singleton.mpr rfl)) f (satC_up e12 sc)⟩ Nx Rt X q1 F2 N H2 (Same.refl _) A2 (wsh.up e2) D
      (fun σ3 F3 L3 H3 e3 A3 n => nx σ3 F3 L3 H3 (e2.trans e3) A3 n) fun v F3 H3 e3 A3 n => rt v F3 H3 (e2.trans e3) A3 n
    rw [List.getElem?_set_self (by rw [← sat_len sv]; exact Nat.le_of_ble_eq_true hi)]⟩
theorem ts_app {xs : List α} {mk : α → Ws ε S δ} (h : TrE Z ρ (.one i (ownL (xs.map R)) :: κ) te m R) (k : ∀ a, TrS Z ρ (.one i (ownL ((xs ++ [a]).map R)) :: κ) u (mk a) ρ2 κ2 Rd) :
    TrS Z ρ (.one i (ownL (xs.map R)) :: κ) (tSeq (tDrop (tBM K "list" rAppend (tVar i) (tCons te tNil))) u) (fun Nx Rt X => m (fun a => xs.length < 100000 ∧ mk a Nx Rt X) X) ρ2 κ2 Rd :=
  have := h.mono
  ⟨fun σ F L sv sc Nx Rt X q F1 N H e A wsh D nx rt => by
    obtain ⟨a, o, L', hL, h1, h2, h3⟩ := sc
    obtain ⟨vs, ho, hv⟩ := h2 F (Same.refl _)
    subst hL ho
    refine ⟨.ref a, h1, .inl ⟨rfl, vs, .inl (.inl (A.on1))⟩, ?_⟩
    refine h.run σ F ((a, .lst vs) :: L') sv ⟨a, .lst vs, L', rfl, h1, h2, h3⟩ _ X q F1 N H e A wsh _ fun v F2 H2 e2 A2 ⟨x, ⟨hz, q1⟩, hx⟩ => ?_
    refine ⟨a, vs, v, rfl, rfl, A2.on1, len_lt (by rw [each_length hv, List.length_map]; exact hz), ?_⟩
    have e12 := e.trans e2
    have hv2 : Each ((xs ++ [x]).map R) (vs ++ [v]) F2 := by rw [List.map_append]; exact each_app (MonoL.mono _ _ _ e12 hv) ⟨hx, True.intro⟩
    exact (k x).run σ F2 ((a, .lst (vs ++ [v])) :: L') (satV_up e12 sv) ⟨a, _, L', rfl, h1, fun F' e' => ⟨_, rfl, MonoL.mono _ _ _ e' hv2⟩, satC_up e12 h3⟩ Nx Rt X q1 F2 N _ (Same.refl _) (At.put A2) (wsh.up e2) D
      (fun σ3 F3 L3 H3 e3 A3 n => nx σ3 F3 L3 H3 (e2.trans e3) A3 n) fun v F3 H3 e3 A3 n => rt v F3 H3 (e2.trans e3) A3 n⟩
/-- one's own list handed back -/
theorem ts_retC {xs : List α} [∀ a, Mono (R a)] : TrS Z ρ (.one i (ownL (xs.map R)) :: κ) (tRet (tVar i)) (fun (_ : S → Prop) Rt X => Rt xs) ρ2 κ2 (fLn R) :=
  ⟨fun σ F L sv sc Nx Rt X q F1 N H e A wsh D nx rt => by
    obtain ⟨a, o, L', hL, h1, h2, h3⟩ := sc
    obtain ⟨vs, ho, hv⟩ := h2 F1 e
    subst hL ho
    have A1 : At F1 ((a, .lst vs) :: (L' ++ N)) H := A
    exact ⟨.ref a, h1, rt _ _ _ (same_new A1.off1) (A1.keep.drop) ⟨xs, q, a, vs, rfl, upd_same, MonoL.mono _ _ _ (same_new A1.off1) hv⟩⟩⟩
theorem TrS.same {mm : Ws ε S δ} {R' : δ → VP} (h : TrS Z ρ κ t mm ρ2 κ2 Rd) (hr : ∀ a v F, Rd a v F → R' a v F) : TrS Z ρ κ t mm ρ2 κ2 R' :=
  ⟨fun σ F L sv sc Nx Rt X q F1 N H e A wsh D nx rt => h.run σ F L sv sc Nx Rt X q F1 N H e A wsh D nx fun v F' H' e' A' ⟨a, r1, r2⟩ => rt v F' H' e' A' ⟨a, r1, hr _ _ _ r2⟩⟩
theorem tr_tupC {xs : List α} [∀ a, Mono (R a)] : TrE Z ρ (.one i (ownL (xs.map R)) :: κ) (tCB (rTupOf K) (tCons (tVar i) tNil)) (pur xs) (fTp K R) :=
  .of fun σ F L sv sc Q X q => by
    obtain ⟨a, o, L', hL, h1, h2, h3⟩ := sc
    obtain ⟨vs, ho, hv⟩ := h2 F (Same.refl _)
    subst hL ho
    exact Run.weak (r_tupC (l := a) (xs := vs) (Rs := xs.map R) List.mem_cons_self (r_cons (r_varE h1) r_nil) hv) fun v F1 e r => ⟨xs, q, r⟩
/-- what a value says of what it stands for -/
theorem tr_fact {p : α → Prop} (hp : ∀ a v F, R a v F → p a) (h : TrE Z ρ κ te m R) : TrE Z ρ κ te (fun Q X => m (fun a => p a → Q a) X) R :=
  ⟨h.mono, fun σ F L s c Q X q => (h.run σ F L s c _ X q).weak fun v F2 e ⟨a, q1, r1⟩ => ⟨a, q1 (hp a v F2 r1), r1⟩⟩
/-- what does not hang on the heap -/
class FlatR (R : α → VP) : Prop where
  fl : ∀ a v F F', R a v F → R a v F'
instance : FlatR (fD K dInt) := ⟨fun a v F F' h => by cases h; exact .int a⟩
instance : FlatR (fD K dN) := ⟨fun a v F F' h => by cases h; exact .int _⟩
instance : FlatR (fD K dB) := ⟨fun a v F F' h => by cases h; exact .bl a⟩
instance : FlatR (fD K dS) := ⟨fun a v F F' h => by cases h; exact .str a⟩
instance : FlatR (fD K dU) := ⟨fun a v F F' h => by cases h; exact .non⟩
theorem At.unkeep {F F2 : Hp} {L : Cells} {a : Addr} {o : HO} {H : Hp} (ho : ∀ xs, o ≠ .tup xs) (hb : ∀ ps, o ≠ .tbl ps) (hc : ∀ c q, o ≠ CodeT c q) (e : Same (upd F a o) F2) (A : At F2 L H) : At (fun b => if b = a then none else F2 b) ((a, o) :: L) H := by
  have h2 : F2 a = some o := e _ _ upd_same
  refine ⟨fun b u h => ?_, fun p q => ?_, fun p q => ?_, ?_, fun p q => ?_, fun p q => (List.mem_cons.mp q).elim (fun z => z ▸ hb) (A.nb p), fun p q => (List.mem_cons.mp q).elim (fun z => z ▸ hc) (A.nc p), A.tb.up fun c q h => (if_neg (fun z : c = a => hc c q (by subst z; rw [h2] at h; exact Option.some.inj h))).trans h, fun P hP => ?_⟩
  · by_cases hb : b = a
    · rw [if_pos hb] at h; cases h
    · rw [if_neg hb] at h; exact A.ex b u h
  · rcases List.mem_cons.mp q with z | z
    · subst z; exact A.ex _ _ h2
    · exact A.on p z
  · rcases List.mem_cons.mp q with z | z
    · subst z; simp
    · show (if p.1 = a then none else F2 p.1) = none
      rw [A.off p z]; simp
  · rw [List.map_cons, List.nodup_cons]
    refine ⟨fun z => ?_, A.nd⟩
    obtain ⟨p, hp, he⟩ := List.mem_map.mp z
    have := A.off p hp
    rw [he, h2] at this; cases this
  · rcases List.mem_cons.mp q with z | z
    · subst z; exact ho
    · exact A.nt p z
  · show (if P = a then none else F2 P) = none
    split
    · rfl
    · exact A.ft P hP
/-- one's own list, looked at as a value -/
theorem tr_bor {xs : List α} {mm : Wm ε δ} [FlatR Rd] [∀ a, Mono (R a)] (h : TrE Z (st ρ i (some (fLn R xs))) κ te mm Rd) (f : freeCs [i] κ = true) (hi : Nat.blt i ρ.length = true) (hX : ∀ Q X, mm Q X → mm Q (fun _ => False)) : TrE Z ρ (.one i (ownL (xs.map R)) :: κ) te mm Rd :=
  ⟨h.mono, fun σ F L sv sc Q X q F1 N H e A wsh Qk qk => by
    obtain ⟨a, o, L', hL, h1, h2, h3⟩ := sc
    obtain ⟨vs, ho, hv⟩ := h2 F1 e
    subst hL ho
    have A1 : At F1 ((a, .lst vs) :: (L' ++ N)) H := A
    have e1 : Same F1 (upd F1 a (.lst vs)) := same_new A1.off1
    have sv1 : SatV (st ρ i (some (fLn R xs))) (σ.set i (some (.ref a))) (upd F1 a (.lst vs)) := satV_set (show fLn R xs (.ref a) _ from ⟨a, vs, rfl, upd_same, MonoL.mono _ _ _ e1 hv⟩) inferInstance (satV_up (e.trans e1) sv)
    have eσ : σ.set i (some (.ref a)) = σ := by
      apply List.ext_getElem?
      intro j
      by_cases hj : i = j
      · subst hj
        rw [List.getElem?_set_self (by rw [← sat_len sv]; exact Nat.le_of_ble_eq_true hi), h1]
      · rw [List.getElem?_set_ne hj]
    rw [eσ] at sv1
    refine h.run σ (upd F1 a (.lst vs)) L' sv1 (satC_up (e.trans e1) h3) Q _ (hX Q X q) (upd F1 a (.lst vs)) N H (Same.refl _) A1.keep (fun _ _ _ _ _ _ _ _ _ _ z => z.elim) Qk fun v F2 H2 e2 A2 ⟨d, q2, r⟩ => ?_
    have A3 := At.unkeep (F := F1) (o := .lst vs) (fun xs z => nomatch z) (fun xs z => nomatch z) (fun c q z => nomatch z) e2 A2
    refine qk v _ H2 (fun b u hb => ?_) A3 ⟨d, q2, FlatR.fl _ _ _ _ r⟩
    have hne : b ≠ a := ne_of_none hb A1.off1
    show (if b = a then none else F2 b) = some u
    rw [if_neg hne]
    exact e2 b u (e1 b u hb)⟩
end

/-! ### defs -/
def Z0 : Wsh Empty where
  wi := fun _ _ _ _ => False
  xr := fun _ _ _ _ => False
  t := fun _ _ _ => True
  tl := fun _ _ _ _ h => h
def X0 : Empty → Prop := fun _ => False
theorem wish0 {F : Hp} {N : Cells} {X : Empty → Prop} : WishOk Z0 F N X := fun e => nomatch e
def ofArgs : List VP → Nat → List (Option VP)
  | [], n => List.replicate n none
  | R :: Rs, n + 1 => some R :: ofArgs Rs n
  | R :: Rs, 0 => some R :: ofArgs Rs 0
class MonoAll (Rs : List VP) : Prop where
  all : ∀ R ∈ Rs, Mono R
instance : MonoAll [] := ⟨fun _ h => nomatch h⟩
instance {R : VP} {Rs : List VP} [m : Mono R] [h : MonoAll Rs] : MonoAll (R :: Rs) := ⟨fun S hS => (List.mem_cons.mp hS).elim (fun z => z ▸ m) (h.all S)⟩
theorem sat_start : ∀ {Rs : List VP} {vs : List V} {F : Hp} {n : Nat}, MonoAll Rs → Each Rs vs F → SatV (ofArgs Rs n) (vs.map some ++ List.replicate (n - vs.length) none) F
  | [], [], F, n, _, _ => by
    rw [ofArgs, List.map_nil, List.nil_append, List.length_nil, Nat.sub_zero]
    induction n with
    | zero => exact True.intro
    | succ n ih => exact ih
  | R :: Rs, v :: vs, F, n, m, h => by
    have ih := sat_start (n := n - 1) (Rs := Rs) (vs := vs) ⟨fun S hS => m.all S (List.mem_cons_of_mem _ hS)⟩ h.2
    have hm := m.all R List.mem_cons_self
    cases n with
    | zero =>
      refine ⟨⟨v, rfl, h.1, hm⟩, ?_⟩
      have e : 0 - (v :: vs).length = 0 - 1 - vs.length := by rw [List.length_cons]; omega
      rw [e]; exact ih
    | succ n =>
      refine ⟨⟨v, rfl, h.1, hm⟩, ?_⟩
      have e : n + 1 - (v :: vs).length = n + 1 - 1 - vs.length := by rw [List.length_cons]; omega
      rw [e]; exact ih
  | [], _ :: _, _, _, _, h => h.elim
  | _ :: _, [], _, _, _, h => h.elim
section
variable {P : Program} {w : World} {K : PySem.W.Frag} {mg : Str → Option Value} {base : Heap} {γ δ S : Type}
theorem gw_ok {x qual : Str} {stt : Stmt} {f : Addr} {fd : FuncData} {N ps : List Str} {k : Nat} {Rs : γ → List VP} {spec : γ → (δ → Prop) → Prop} {R : δ → VP} (Nx : (δ → Prop) → S → Prop) (F : Fun K x qual stt f fd) (Sc : FnScope N ps (defScope stt)) (len : ∀ g, (Rs g).length = ps.length) (hm : ∀ g, MonoAll (Rs g)) (ρ2 : S → List (Option VP)) (κ2 : S → List Ow)
    (hN : ∀ Q s, Nx Q s → ∃ d, Q d ∧ ∀ F, R d .non F)
    (body : ∀ (cdv : Value) (A : Around) (outer : List Env) (s : Shared) (H : Hp) (E : XK) (g : γ), Room k (A.deeper (envOfC qual (defScope stt) s.heap.objs.size f cdv)) →
      ∃ t, PSs (cxOf CX0 P w K mg base N qual (defScope stt) f cdv A outer s H E).nox (defBody stt) t ∧ ∃ m : Ws Empty S δ, TrS Z0 (ofArgs (Rs g) N.length) [] t m ρ2 κ2 R ∧ ∀ Q, (∃ vs F, Each (Rs g) vs F) → spec g Q → m (Nx Q) Q X0) :
    FnOk P w K mg base CX0 (k + 1) f fd ps (SpN Rs spec R) := by
  refine F.ok Sc (fun vs H Q E ⟨g, F0, N0, P0, A, hv, q⟩ => (each_length hv).trans (len g)) fun cdv A outer s H vs Q E hr ⟨g, F0, N0, P0, A0, hv, hs, q⟩ => ?_
  obtain ⟨t, h1, m, h2, h3⟩ := body cdv A outer s H E g hr
  refine ⟨t, h1, ?_⟩
  refine h2.run (start N vs) F0 [] (sat_start (hm g) hv) True.intro _ _ _ (h3 P0 ⟨vs, F0, hv⟩ hs) F0 N0 H (Same.refl _) A0 wish0 _ (fun σ' F' L' H' e' A' ⟨s', n, _⟩ => ?_) fun v F' H' e' A' ⟨d, pd, r⟩ => q d v F' H' e' A' pd r
  obtain ⟨d, pd, rd⟩ := hN _ _ n
  exact q d .non F' H' e' A'.drop pd (rd F')
theorem gw_mk {x : Str} {stt : Stmt} {f : Addr} {fd : FuncData} {N ps : List Str} {k : Nat} {Rs : γ → List VP} {spec : γ → (δ → Prop) → Prop} {R : δ → VP} (F : Fun K x x stt f fd) (hmg : mg x = some (.ref f)) (b : Binds K fd ps []) (Sc : FnScope N ps (defScope stt)) (len : ∀ g, (Rs g).length = ps.length) (hm : ∀ g, MonoAll (Rs g))
    (body : ∀ (cdv : Value) (A : Around) (outer : List Env) (s : Shared) (H : Hp) (E : XK) (g : γ), Room k (A.deeper (envOfC x (defScope stt) s.heap.objs.size f cdv)) →
      ∃ t, PSs (cxOf CX0 P w K mg base N x (defScope stt) f cdv A outer s H E).nox (defBody stt) t ∧ ∃ m : Ws Empty Unit δ, TrS Z0 (ofArgs (Rs g) N.length) [] t m (fun _ => List.replicate N.length none) (fun _ => []) R ∧ ∀ Q, (∃ vs F, Each (Rs g) vs F) → spec g Q → m (fun _ => False) Q X0) :
    Gf P w K mg base (k + 1) x (SpN Rs spec R) :=
  ⟨f, fd, ps, gw_ok (fun _ _ => False) F Sc len hm _ _ (fun _ _ h => h.elim) body, hmg, F.kp, b⟩
theorem gw_met {x qual : Str} {stt : Stmt} {f : Addr} {fd : FuncData} {N ps : List Str} {k : Nat} {Rs : γ → List VP} {spec : γ → (δ → Prop) → Prop} {R : δ → VP} (F : Fun K x qual stt f fd) (Sc : FnScope N ps (defScope stt)) (len : ∀ g, (Rs g).length = ps.length) (hm : ∀ g, MonoAll (Rs g))
    (body : ∀ (cdv : Value) (A : Around) (outer : List Env) (s : Shared) (H : Hp) (E : XK) (g : γ), Room k (A.deeper (envOfC qual (defScope stt) s.heap.objs.size f cdv)) →
      ∃ t, PSs (cxOf CX0 P w K mg base N qual (defScope stt) f cdv A outer s H E).nox (defBody stt) t ∧ ∃ m : Ws Empty Unit δ, TrS Z0 (ofArgs (Rs g) N.length) [] t m (fun _ => List.replicate N.length none) (fun _ => []) R ∧ ∀ Q, (∃ vs F, Each (Rs g) vs F) → spec g Q → m (fun _ => False) Q X0) :
    FnOk P w K mg base CX0 (k + 1) f fd ps (SpN Rs spec R) := gw_ok (fun _ _ => False) F Sc len hm _ _ (fun _ _ h => h.elim) body
/-- a promise by a precondition, as one by a wish -/
theorem SpF.toN {pre : γ → Prop} {Rs : γ → List VP} {f : γ → δ} {R : δ → VP} {vs : List V} {H : Hp} {Q : VK} {E : XK} (h : SpN Rs (fun g Q => pre g ∧ Q (f g)) R vs H Q E) : SpF pre Rs (fun g => R (f g)) vs H Q E :=
  let ⟨g, F, N, P, A, hv, ⟨hp, p⟩, q⟩ := h
  ⟨g, F, N, hp, A, hv, fun v F' H' e A' r => q _ v F' H' e A' p r⟩
theorem Gf.toN {k : Nat} {x : Str} {pre : γ → Prop} {Rs : γ → List VP} {f : γ → δ} {R : δ → VP} (h : Gf P w K mg base k x (SpF pre Rs (fun g => R (f g)))) : Gf P w K mg base k x (SpN Rs (fun g Q => pre g ∧ Q (f g)) R) :=
  let ⟨a, fd, ps, F, h1, h2, h3⟩ := h
  ⟨a, fd, ps, F.imp fun _ _ _ _ => SpF.toN, h1, h2, h3⟩
end
end Tw

/-! Tw5: a class's own ==, len, str, in; more of numbers, lists, pairs. -/
namespace Tw
open PySem PySem.Spec PyProof.Rows L2 SlX StX Rs Ma
variable [Rs.Tabz]
section
variable {ε α β γ δ S : Type} {Z : Wsh ε} {ρ : List (Option VP)} {κ : List Ow} {K : PySem.W.Frag} {w : World} {te ta tb tc : TE} {t : TA} {u u1 w1 : TS} {ma : Wm ε α} {mb : Wm ε β} {m : Wm ε α} {ml : Wm ε (List α)} {Ra R : α → VP} {Rb : β → VP} {Rc : γ → VP} {Rd : δ → VP} {C : Addr} {E : XK} {i j : Nat}
  {ρ2 : S → List (Option VP)} {κ2 : S → List Ow}
theorem o_eqOwn {spec : α × β → (Bool → Prop) → Prop} [∀ a, Mono (Ra a)] [∀ b, Mono (Rb b)] (hn : PySem.W.notFirst K C (.ref C) = true) (h1 : ∀ a v F, Ra a v F → IsOb C v F) (h2 : ∀ a v F, Rb a v F → IsOb C v F) :
    Op2 ε (rOwn K C (SpN (fun p : α × β => [Ra p.1, Rb p.2]) spec (fD K dB)) E) Ra Rb (fun a b Q _ => spec (a, b) Q) (fD K dB) :=
  ⟨fun a b x y F L hx hy Q X q => fun F2 N H e2 A Qk qk => by
    obtain ⟨p, dx, vs, rfl, q1, q2⟩ := h1 _ _ _ hx
    obtain ⟨p', dy, ws, rfl, q3, q4⟩ := h2 _ _ _ hy
    exact ⟨p, dx, vs, p', C, dy, ws, rfl, rfl, at_slt A (e2 _ _ q1) (e2 _ _ q2), at_slt A (e2 _ _ q3) (e2 _ _ q4), hn, (a, b), F2, L ++ N, Q, A, ⟨Mono.go hx e2, Mono.go hy e2, True.intro⟩, q, fun d v F3 H3 e3 A3 pd r => qk v F3 H3 e3 A3 ⟨d, pd, r⟩⟩⟩
theorem c_lenOwn {spec : α → (Nat → Prop) → Prop} [∀ a, Mono (Ra a)] (h1 : ∀ a v F, Ra a v F → IsOb C v F) : Cb ε (rLenOwn C (SpN (fun a => [Ra a]) spec (fD K dN)) E) (fun a => [Ra a]) (fun a Q _ => spec a fun n => n ≤ 100000 ∧ Q n) (fD K dN) :=
  ⟨fun g vs F L hv Q X q => fun F2 N H e2 A Qk qk => by
    obtain ⟨x, rfl, hx⟩ := each1 hv
    obtain ⟨a, dx, us, rfl, q1, q2⟩ := h1 _ _ _ hx
    refine ⟨a, dx, us, rfl, at_slt A (e2 _ _ q1) (e2 _ _ q2), g, F2, L ++ N, fun n => n ≤ 100000 ∧ Q n, A, ⟨Mono.go hx e2, True.intro⟩, q, fun d v F3 H3 e3 A3 pd r => ?_⟩
    obtain ⟨p1, p2⟩ := pd
    cases r
    exact ⟨(d : Int), rfl, by omega, by omega, qk _ F3 H3 e3 A3 ⟨d, p2, .int _⟩⟩⟩
theorem c_strOwn {spec : α → (Str → Prop) → Prop} [∀ a, Mono (Ra a)] (h1 : ∀ a v F, Ra a v F → IsOb C v F) : Cb ε (rStrOwn C (SpN (fun a => [Ra a]) spec (fD K dS)) E) (fun a => [Ra a]) (fun a Q _ => spec a Q) (fD K dS) :=
  ⟨fun g vs F L hv Q X q => fun F2 N H e2 A Qk qk => by
    obtain ⟨x, rfl, hx⟩ := each1 hv
    obtain ⟨a, dx, us, rfl, q1, q2⟩ := h1 _ _ _ hx
    refine ⟨a, dx, us, rfl, at_slt A (e2 _ _ q1) (e2 _ _ q2), g, F2, L ++ N, Q, A, ⟨Mono.go hx e2, True.intro⟩, q, fun d v F3 H3 e3 A3 pd r => ?_⟩
    cases r
    exact ⟨d, rfl, qk _ F3 H3 e3 A3 ⟨d, pd, .str _⟩⟩⟩
theorem o_inOwn {spec : α × β → (Bool → Prop) → Prop} [∀ a, Mono (Ra a)] [∀ b, Mono (Rb b)] (h1 : ∀ a v F, Ra a v F → IsOb C v F) :
    Op2 ε (rInOwn C (SpN (fun p : α × β => [Ra p.1, Rb p.2]) spec (fD K dB)) E) Rb Ra (fun b a Q _ => spec (a, b) Q) (fD K dB) :=
  ⟨fun b a x y F L hx hy Q X q => fun F2 N H e2 A Qk qk => by
    obtain ⟨p, dx, us, rfl, q1, q2⟩ := h1 _ _ _ hy
    exact ⟨p, dx, us, rfl, at_slt A (e2 _ _ q1) (e2 _ _ q2), (a, b), F2, L ++ N, Q, A, ⟨Mono.go hy e2, Mono.go hx e2, True.intro⟩, q, fun d v F3 H3 e3 A3 pd r => ⟨d, dt_bl r, qk _ F3 H3 e3 A3 ⟨d, pd, .bl _⟩⟩⟩⟩
/-! numbers -/
theorem o_modN : Op2 ε (rI (fun _ j => 0 < j) fun i j => .int (i % j)) (fD K dN) (fD K dN) (fun a b Q X => 0 < b ∧ Q (a % b)) (fD K dN) :=
  op_of fun a b x y F L hx hy Q X q => ⟨_, q.2, r_is (r_Ii (C := fun _ j => 0 < j) (f := fun i j => i % j) (r_c (R := Dt K (.int a)) hx) (r_c (R := Dt K (.int b)) hy) (by show (0 : Int) < (b : Int); omega)) (by show _ = PyData.int ((a % b : Nat) : Int); rw [Int.natCast_emod])⟩
/-! lists, pairs -/
/-- x, l = a, a new list -/
theorem ts_parN {i j : Nat} {mlb : Wm ε (List β)} {mk : α → List β → Ws ε S δ} (ha : TrE Z ρ κ ta ma Ra) (hb : TrN Z ρ κ tb mlb Rb) (f : freeCs [i, j] κ = true) (hij : Nat.beq i j = false) (hi : Nat.blt j ρ.length = true) (k : ∀ a xs, TrS Z (st (st ρ i (some (Ra a))) j none) (.one j (ownL (xs.map Rb)) :: κ) u (mk a xs) ρ2 κ2 Rd) :
    TrS Z ρ κ (tSeq (tPar i j (tCons ta (tCons tb tNil))) u) (fun Nx Rt X => ma (fun a => mlb (fun xs => mk a xs Nx Rt X) X) X) ρ2 κ2 Rd :=
  have := hb.mono
  ⟨fun σ F L sv sc Nx Rt X q F1 N H e A wsh D nx rt => by
    show ta σ H (fun v H1 => tb σ H1 fun v' H2 => ∃ v1 w1, [v, v'] = [v1, w1] ∧ u D ((σ.set i (some v1)).set j (some w1)) H2)
    refine ha.run σ F L sv sc _ X q F1 N H e A wsh _ fun v F2 H2 e2 A2 ⟨a, q1, hv⟩ => ?_
    have e12 := e.trans e2
    refine hb.run σ F2 L (satV_up e12 sv) (satC_up e12 sc) _ X q1 F2 N H2 (Same.refl _) A2 (wsh.up e2) _ fun p vs F3 H3 xs e3 A3 r q2 => ⟨v, .ref p, rfl, ?_⟩
    have e13 := e12.trans e3
    have c3 : SatC κ ((σ.set i (some v)).set j (some (.ref p))) F3 L := satC_agree (js := [i, j]) (fun l hl => by
      rw [List.mem_cons, List.mem_singleton, not_or] at hl
      rw [List.getElem?_set_ne (fun z => hl.2 z.symm), List.getElem?_set_ne (fun z => hl.1 z.symm)]) f (satC_up e13 sc)
    refine (k a xs).run _ F3 ((p, .lst vs) :: L) (satV_none (satV_set ((ha.mono a).mono _ _ _ e3 hv) (ha.mono _) (satV_up e13 sv))) ⟨p, .lst vs, L, rfl, ?_, fun F' e' => ⟨vs, rfl, MonoL.mono _ _ _ e' r⟩, c3⟩ Nx Rt X q2 F3 N H3 (Same.refl _) A3 (wsh.up (e2.trans e3)) D
      (fun σ4 F4 L4 H4 e4 A4 n => nx σ4 F4 L4 H4 ((e2.trans e3).trans e4) A4 n) fun v F4 H4 e4 A4 n => rt v F4 H4 ((e2.trans e3).trans e4) A4 n
    rw [List.getElem?_set_self (by rw [List.length_set, ← sat_len sv]; exact Nat.le_of_ble_eq_true hi)]⟩
end
end Tw

/-! Rz: list(zip(a, b, strict=True)) of two tuples. -/
namespace Rz
open PySem PySem.Spec PyProof.Rows
variable [Rs.Tabz]
open PySem.Sem (wp)
section
variable {prog : Program} {w : World} {A : Around} {E : Value → Shared → Prop} {s : Shared}
open Builtin.SmallTypes (nextOf nextOrEnd)
abbrev IsZS (h : Heap) (z TI TO : Addr) (f0 : Value) (f1 : Bool) : Prop :=
  h.get? z = some { cls := .type "zip", dict := none, data := .fields #[f0, .bool f1, .bool true, .ref TI, .ref TO], slots := #[] }
/-- the zip while it is used up: nothing is out yet, or the first pair is -/
def ZSt (h : Heap) (z TI TO i1 i2 l1 l2 S : Addr) (xs ys : Array Value) (k : Nat) : Prop :=
  IsPair h TI (.ref i1) (.ref i2) ∧ h.IsTupleIter i1 l1 k ∧ h.IsTupleIter i2 l2 k ∧ h.IsTuple l1 xs ∧ h.IsTuple l2 ys ∧
  ((k = 0 ∧ IsZS h z TI TO .none false ∧ IsPair h TO .none .none) ∨ ∃ (T : Addr) (f : Bool) (oT : Obj), IsZS h z TI TO (rawInt T) f ∧ h.get? T = some oT ∧ T ≠ z ∧ T ≠ i1 ∧ T ≠ i2 ∧ T ≠ S)
theorem ZSt.keep {h h' : Heap} {z TI TO i1 i2 l1 l2 S : Addr} {xs ys : Array Value} {k : Nat} (Z : ZSt h z TI TO i1 i2 l1 l2 S xs ys k) (D : ZipApart z TI TO i1 i2 l1 l2) (hS : S ≠ z ∧ S ≠ TI ∧ S ≠ TO ∧ S ≠ i1 ∧ S ≠ i2 ∧ S ≠ l1 ∧ S ≠ l2)
    (kp : ∀ b o, b ≠ S → h.get? b = some o → h'.get? b = some o) : ZSt h' z TI TO i1 i2 l1 l2 S xs ys k := by
  obtain ⟨a1, a2, a3, a4, a5, a6⟩ := Z
  refine ⟨kp _ _ hS.2.1.symm a1, a2.at fun o e => kp _ o hS.2.2.2.1.symm e, a3.at fun o e => kp _ o hS.2.2.2.2.1.symm e, ?_, ?_, ?_⟩
  · obtain ⟨o, ho, x⟩ := a4; exact ⟨o, kp _ _ hS.2.2.2.2.2.1.symm ho, x⟩
  · obtain ⟨o, ho, x⟩ := a5; exact ⟨o, kp _ _ hS.2.2.2.2.2.2.symm ho, x⟩
  · rcases a6 with ⟨b1, b2, b3⟩ | ⟨T, f, oT, b1, b2, b3, b4, b5, b6⟩
    · exact .inl ⟨b1, kp _ _ hS.1.symm b2, kp _ _ hS.2.2.1.symm b3⟩
    · exact .inr ⟨T, f, oT, kp _ _ hS.1.symm b1, kp _ _ b6 b2, b3, b4, b5, b6⟩
end
end Rz

/-! Rz2: the list of a strict zip. -/
namespace Rz
open PySem PySem.Spec PyProof.Rows
variable [Rs.Tabz]
open PySem.Sem (wp)
def Prs (xs ys : Array Value) (B : Addr) (h : Heap) (as : List Addr) : Prop := as.Pairwise (· < ·) ∧ ∀ (j : Nat) (a : Addr), as[j]? = some a → B ≤ a ∧ ∃ x y, xs[j]? = some x ∧ ys[j]? = some y ∧ IsPair h a x y
section
variable {prog : Program} {w : World} {A : Around} {E : Value → Shared → Prop} {s : Shared} {R : Result → Shared → Prop} {z TI TO i1 i2 l1 l2 S B : Addr} {xs ys : Array Value}
end
end Rz

/-! Rz3: the word list(zip(a, b, strict=True)). -/
namespace Rz
open PySem PySem.Spec PyProof.Rows L2
variable [Rs.Tabz]
section
variable {M : Model} {A : Around} {E : Value → Shared → Prop} {s : Shared} {env : Env}
end
section
variable {X : Cx}
variable {e : Expr} {es : List Expr} {kws : List Keyword} {t tk : TA} {p p2 pos pos2 : Pos}
end
end Rz
namespace Rs
open PySem PySem.Spec PyProof.Rows L2 SlX StX
variable [Rs.Tabz]
section
variable {X : Cx} {e : Expr} {es : List Expr} {kws : List Keyword} {t tk : TA} {p p2 pos pos2 : Pos}
end
section
variable {K : PySem.W.Frag} {σ : L2.St} {F : Hp} {L : Cells} {t tk : TA}
end
end Rs

/-! Tw6: conversions, comprehensions of two fors, zip, repeated tuples. -/
namespace Tw
open PySem PySem.Spec PyProof.Rows L2 SlX StX Rs Ma
variable [Rs.Tabz]
def fCk (n : Nat) : Unit → VP := fun _ => Ck n
instance {n : Nat} {u : Unit} : Mono (fCk n u) := inferInstanceAs (Mono (Ck n))
section
variable {ε α β γ δ S : Type} {Z : Wsh ε} {ρ : List (Option VP)} {κ : List Ow} {K : PySem.W.Frag} {w : World} {te ta tb tc : TE} {tt tt1 : TT} {t : TA} {u u1 w1 : TS} {wi wi1 : TI} {g g1 : TG} {ma : Wm ε α} {mb : Wm ε β} {m : Wm ε α} {ml : Wm ε (List α)} {Ra R : α → VP} {Rb : β → VP} {Rc : γ → VP} {Rd : δ → VP} {C : Addr} {E : XK} {i j : Nat}
  {ρ2 : S → List (Option VP)} {κ2 : S → List Ow}
theorem tr_in {m : Wm ε Int} (h : TrE Z ρ κ te m (fD K dInt)) : TrE Z ρ κ te (fun Q X => m (fun i => 0 ≤ i ∧ Q i.toNat) X) (fD K dN) :=
  ⟨inferInstance, fun σ F L s c Q X q => (h.run σ F L s c _ X q).weak fun v F2 e ⟨i, ⟨q0, q1⟩, r1⟩ => ⟨i.toNat, q1, by
    cases r1
    show Dp K F2 (.int i) (.int ((i.toNat : Nat) : Int))
    rw [Int.toNat_of_nonneg q0]
    exact .int i⟩⟩
theorem ts_neverq : TrS Z ρ κ (tSeq tNever u) (fun (_ : S → Prop) (_ : δ → Prop) _ => False) ρ2 κ2 Rd := ⟨fun σ F L sv sc Nx Rt X q => q.elim⟩
theorem tr_un {f : Int → Int} {mI : Wm ε Int} (h : TrE Z ρ κ te mI (fD K dInt)) : TrE Z ρ κ (tUn (rU fun i => .int (f i)) te) (fun Q X => mI (fun i => Q (f i)) X) (fD K dInt) :=
  tr_lift (kk := tUn (rU fun i => .int (f i))) (mf := fun i => pur (f i)) (fun _ _ _ _ => rfl) h fun i v F L hx Q X q => ⟨_, q, r_U (r_c (R := Dt K (.int i)) hx)⟩
/-- (d,) * n -/
theorem o_rep1 {d : α → PyData} : Op2 ε (rRepTA K) (fD K (dT d)) (fD K dN) (fun xs n Q X => ∃ a, xs = [a] ∧ (1 ≤ n ∧ n ≤ 1000) ∧ Q (List.replicate n a)) (fD K (dT d)) :=
  op_of fun xs n x y F L hx hy Q X ⟨a, h, h0, q⟩ => ⟨_, q, by
    subst h
    refine r_is (r_rep1 (d := d a) (k := n) (r_c (R := Dt K (.tuple [d a])) hx) (r_c (R := Dt K (.int (n : Nat))) hy) h0.1 h0.2) ?_
    show PyData.tuple _ = PyData.tuple _
    rw [List.map_replicate]⟩
/-- tuple + tuple -/
theorem o_catA [∀ a, Mono (R a)] : Op2 ε (rCatA K) (fTp K R) (fTp K R) (fun a b Q X => a.length + b.length ≤ 10000 ∧ Q (a ++ b)) (fTp K R) := ⟨fun xs ys x y F L hx hy Q X ⟨q0, q1⟩ => fun F1 N H e A Qk qk => by
  obtain ⟨a, va, rfl, sa, ra⟩ := hx
  obtain ⟨b, vb, rfl, sb, rb⟩ := hy
  have la := each_length ra
  have lb := each_length rb
  rw [List.length_map] at la lb
  have ra' : Each (xs.map R) va F1 := MonoL.mono _ _ _ e ra
  have rb' : Each (ys.map R) vb F1 := MonoL.mono _ _ _ e rb
  have both : Each ((xs ++ ys).map R) (va ++ vb) F1 := by rw [List.map_append]; exact each_app ra' rb'
  refine ⟨a, b, va, vb, rfl, rfl, sqT_up (e.trans A.ex) sa, sqT_up (e.trans A.ex) sb, len_ok (by omega), fun h => ?_, fun _ h => ?_, fun _ _ p hp => ?_⟩
  · subst h
    exact qk _ F1 H (Same.refl _) A ⟨xs ++ ys, q1, b, _, rfl, sqT_up e sb, both⟩
  · subst h
    rw [List.append_nil] at both
    exact qk _ F1 H (Same.refl _) A ⟨xs ++ ys, q1, a, _, rfl, sqT_up e sa, both⟩
  · have s1 := same_new (o := HO.tup (va ++ vb)) (A.free hp)
    exact qk _ (upd F1 p _) _ s1 (A.new hp) ⟨xs ++ ys, q1, p, _, rfl, .inl (.inl upd_same), MonoL.mono _ _ _ s1 both⟩⟩
theorem o_catDT {d : α → PyData} : Op2 ε (rCatA K) (fD K (dT d)) (fD K (dT d)) (fun a b Q X => a.length + b.length ≤ 10000 ∧ Q (a ++ b)) (fD K (dT d)) := ⟨fun xs ys x y F L hx hy Q X q =>
  ((o_catA (ε := ε) (R := fD K d)).run xs ys x y F L (fTp_dT.mpr hx) (fTp_dT.mpr hy) Q X q).weak fun v F1 e ⟨c, q1, r⟩ => ⟨c, q1, fTp_dT.mp r⟩⟩
/-- two data of any kinds -/
theorem o_eqA {d : α → PyData} {e : β → PyData} : Op2 ε (rEqD K) (fD K d) (fD K e) (fun a b Q X => (SeqAt.shaped (d a) = true ∧ SeqAt.shaped (e b) = true) ∧ Q (PyData.eqv (d a) (e b))) (fD K dB) :=
  op_of fun a b x y F L hx hy Q X q => ⟨_, q.2, r_eqD (r_c (R := Dt K (d a)) hx) (r_c (R := Dt K (e b)) hy) q.1.1 q.1.2⟩
/-! ### two fors -/
end
section
variable {P : Program} {w : World} {K : PySem.W.Frag} {mg : Str → Option Value} {base : Heap} {γ δ : Type} {k : Nat} {C : Addr} {x nm : Str} {pre : γ → Prop} {Rs : γ → List VP} {f : γ → δ} {R : δ → VP}
theorem _root_.L2.MetS.toN (h : MetS P w K mg base k C x (SpF pre Rs (fun g => R (f g)))) : MetS P w K mg base k C x (SpN Rs (fun g Q => pre g ∧ Q (f g)) R) :=
  let ⟨g, h1, h2, h3⟩ := h
  ⟨g, h1, h2, h3.imp fun _ _ _ _ => SpF.toN⟩
theorem prp_toN (h : PrpS P w K mg base k C x (SpF pre Rs (fun g => R (f g)))) : PrpS P w K mg base k C x (SpN Rs (fun g Q => pre g ∧ Q (f g)) R) :=
  let ⟨p, g, h1, h2, h3, h4, h5, h6⟩ := h
  ⟨p, g, h1, h2, h3, h4, h5, h6.imp fun _ _ _ _ => SpF.toN⟩
theorem eq_toN (h : EqS P w K mg base k C (SpF pre Rs (fun g => R (f g)))) : EqS P w K mg base k C (SpN Rs (fun g Q => pre g ∧ Q (f g)) R) :=
  let ⟨g, h1, h2, h3, h4, h5⟩ := h
  ⟨g, h1, h2, h3, h4, h5.imp fun _ _ _ _ => SpF.toN⟩
end
end Tw

/-! Tw7: sorted of a list of tuples. -/
namespace Tw
open PySem PySem.Spec PyProof.Rows L2 SlX StX Rs Ma
variable [Rs.Tabz]
section
variable {X : Cx}
end
section
variable {ε α : Type} {K : PySem.W.Frag}
end
end Tw

/-! Tw8: two lists of one's own at once; list(range(n)) as one's own; the cask. -/
namespace Tw
open PySem PySem.Spec PyProof.Rows L2 SlX StX Rs Ma
variable [Rs.Tabz]
section
variable {ε α β γ δ S : Type} {Z : Wsh ε} {ρ : List (Option VP)} {κ : List Ow} {K : PySem.W.Frag} {w : World} {te ta tb tc : TE} {t : TA} {u u1 w1 : TS} {ma : Wm ε (List α)} {mb : Wm ε (List β)} {m : Wm ε α} {mn : Wm ε Nat} {Ra R : α → VP} {Rb : β → VP} {Rd : δ → VP} {i j : Nat}
  {ρ2 : S → List (Option VP)} {κ2 : S → List Ow}
theorem tr_perm2 {c d : Ow} (h : TrE Z ρ (d :: c :: κ) te m R) : TrE Z ρ (c :: d :: κ) te m R :=
  ⟨h.mono, fun σ F L sv sc Q X q F1 N H e A wsh Qk qk => by
    obtain ⟨L2, P, sc2⟩ := satC_swap sc
    exact h.run σ F L2 sv sc2 Q X q F1 N H e (A.perm (P.append_right N)) wsh Qk fun v F2 H2 e2 A2 r => qk v F2 H2 e2 (A2.perm (P.symm.append_right N)) r⟩
theorem ts_parNN {i j : Nat} {mk : List α → List β → Ws ε S δ} (ha : TrN Z ρ κ ta ma R) (hb : TrN Z ρ κ tb mb Rb) (f : freeCs [i, j] κ = true) (hij : Nat.beq i j = false) (hi : Nat.blt i ρ.length = true) (hj : Nat.blt j ρ.length = true)
    (k : ∀ xs ys, TrS Z (st (st ρ i none) j none) (.one j (ownL (ys.map Rb)) :: .one i (ownL (xs.map R)) :: κ) u (mk xs ys) ρ2 κ2 Rd) :
    TrS Z ρ κ (tSeq (tPar i j (tCons ta (tCons tb tNil))) u) (fun Nx Rt X => ma (fun xs => mb (fun ys => mk xs ys Nx Rt X) X) X) ρ2 κ2 Rd :=
  have := ha.mono
  have := hb.mono
  ⟨fun σ F L sv sc Nx Rt X q F1 N H e A wsh D nx rt => by
    show ta σ H (fun v H1 => tb σ H1 fun v' H2 => ∃ v1 w1, [v, v'] = [v1, w1] ∧ u D ((σ.set i (some v1)).set j (some w1)) H2)
    refine ha.run σ F L sv sc _ X q F1 N H e A wsh _ fun p vs F2 H2 xs e2 A2 r q1 => ?_
    have e12 := e.trans e2
    have P0 : ((p, HO.lst vs) :: (L ++ N)).Perm (L ++ ((p, .lst vs) :: N)) := List.perm_middle.symm
    refine hb.run σ F2 L (satV_up e12 sv) (satC_up e12 sc) _ X q1 F2 ((p, .lst vs) :: N) H2 (Same.refl _) (A2.perm P0) (wsh.up e2).push1 _ fun p' vs' F3 H3 ys e3 A3 r' q2 => ⟨.ref p, .ref p', rfl, ?_⟩
    have e13 := e12.trans e3
    have hl := sat_len sv
    have c3 : SatC κ ((σ.set i (some (.ref p))).set j (some (.ref p'))) F3 L := satC_agree (js := [i, j]) (fun l hl => by
      rw [List.mem_cons, List.mem_singleton, not_or] at hl
      rw [List.getElem?_set_ne (fun z => hl.2 z.symm), List.getElem?_set_ne (fun z => hl.1 z.symm)]) f (satC_up e13 sc)
    have P1 : ((p', HO.lst vs') :: (L ++ (p, .lst vs) :: N)).Perm ((p', HO.lst vs') :: (p, .lst vs) :: (L ++ N)) := List.Perm.cons _ List.perm_middle
    have hij' : i ≠ j := fun z => by rw [z, Nat.beq_refl] at hij; cases hij
    refine (k xs ys).run _ F3 ((p', .lst vs') :: (p, .lst vs) :: L) (satV_none (satV_none (satV_up e13 sv))) ⟨p', .lst vs', _, rfl, ?_, fun F' e' => ⟨vs', rfl, MonoL.mono _ _ _ e' r'⟩, p, .lst vs, L, rfl, ?_, fun F' e' => ⟨vs, rfl, MonoL.mono _ _ _ (e3.trans e') r⟩, c3⟩ Nx Rt X q2 F3 N H3 (Same.refl _) (A3.perm P1) (wsh.up (e2.trans e3)) D
      (fun σ4 F4 L4 H4 e4 A4 n => nx σ4 F4 L4 H4 ((e2.trans e3).trans e4) A4 n) fun v F4 H4 e4 A4 n => rt v F4 H4 ((e2.trans e3).trans e4) A4 n
    · rw [List.getElem?_set_self (by rw [List.length_set, ← hl]; exact Nat.le_of_ble_eq_true hj)]
    · rw [List.getElem?_set_ne (fun z => hij' z.symm), List.getElem?_set_self (by rw [← hl]; exact Nat.le_of_ble_eq_true hi)]⟩
theorem tn_listRg (h : TrE Z ρ κ te mn (fD K dN)) : TrN Z ρ κ (tLstRg (tRg1 te)) (fun Q X => mn (fun n => n ≤ 1000 ∧ Q (List.range n)) X) (fD K dN) :=
  ⟨inferInstance, fun σ F L s c Q X q F1 N H e A wsh Qk qk => h.run σ F L s c _ X q F1 N H e A wsh _ fun v F2 H2 e2 A2 ⟨n, ⟨q0, q1⟩, r⟩ => by
    cases r
    refine ⟨(n : Int), rfl, RgOk.of_le (by omega) (by omega) (by omega) (by omega), fun p hp => ?_⟩
    rw [rgV_nat]
    exact qk p _ F2 _ (List.range n) e2 (A2.cell hp) each_ints q1⟩
/-- x.append(y.pop(n)) -/
theorem ts_appPop {xs ys : List α} {mk : Nat → α → Ws ε S δ} [∀ a, Mono (R a)] (h : TrE Z ρ (.one i (ownL (xs.map R)) :: .one j (ownL (ys.map R)) :: κ) te mn (fD K dN)) (k : ∀ n a, TrS Z ρ (.one i (ownL ((xs ++ [a]).map R)) :: .one j (ownL ((ys.eraseIdx n).map R)) :: κ) u (mk n a) ρ2 κ2 Rd) :
    TrS Z ρ (.one i (ownL (xs.map R)) :: .one j (ownL (ys.map R)) :: κ) (tSeq (tDrop (tBM K "list" rAppend (tVar i) (tCons (tBM K "list" rPopAt (tVar j) (tCons te tNil)) tNil))) u)
      (fun Nx Rt X => mn (fun n => ∃ a, ys[n]? = some a ∧ (xs.length < 100000 ∧ n < 100000) ∧ mk n a Nx Rt X) X) ρ2 κ2 Rd :=
  ⟨fun σ F L sv sc Nx Rt X q F1 N H e A wsh D nx rt => by
    obtain ⟨a, o, L', hL, h1, h2, a', o', L'', hL', h1', h2', h3⟩ := sc
    obtain ⟨vs, ho, hv⟩ := h2 F (Same.refl _)
    obtain ⟨vs', ho', hv'⟩ := h2' F (Same.refl _)
    subst hL ho hL' ho'
    have A0 : At F1 ((a, .lst vs) :: (a', .lst vs') :: (L'' ++ N)) H := A
    refine ⟨.ref a, h1, .inl ⟨rfl, vs, .inl (.inl (A0.on (a, .lst vs) List.mem_cons_self))⟩, .ref a', h1', .inl ⟨rfl, vs', .inl (.inl (A0.on (a', .lst vs') (List.mem_cons_of_mem _ List.mem_cons_self)))⟩, ?_⟩
    refine h.run σ F ((a, .lst vs) :: (a', .lst vs') :: L'') sv ⟨a, .lst vs, _, rfl, h1, h2, a', .lst vs', L'', rfl, h1', h2', h3⟩ _ X q F1 N H e A wsh _ fun v F2 H2 e2 A2 ⟨n, ⟨x, hn, ⟨hz, hz2⟩, q1⟩, hx⟩ => ?_
    cases hx
    have e12 := e.trans e2
    have hl := each_length hv
    have hl' := each_length hv'
    rw [List.length_map] at hl hl'
    have hn1 : n < ys.length := (List.getElem?_eq_some_iff.mp hn).1
    have hn2 : n < vs'.length := by omega
    obtain ⟨R', g1, g2⟩ := each_at hv' (List.getElem?_eq_getElem hn2)
    rw [List.getElem?_map, hn] at g1
    cases g1
    have A2o : At F2 ((a, .lst vs) :: (a', .lst vs') :: (L'' ++ N)) H2 := A2
    refine ⟨a', vs', (n : Int), n, vs'[n], rfl, rfl, A2o.on (a', .lst vs') (List.mem_cons_of_mem _ List.mem_cons_self), by omega, by omega, ?_, List.getElem?_eq_getElem hn2, ?_⟩
    · exact (ixN_seq (by unfold ixN; rw [if_pos (by omega), if_pos (by omega)]; simp)).1
    have A2' : At F2 ((a', .lst vs') :: (a, .lst vs) :: (L'' ++ N)) H2 := A2.perm (List.Perm.swap _ _ _)
    have A3 := At.put (u := .lst (vs'.eraseIdx n)) A2'
    have A3' : At F2 ((a, .lst vs) :: (a', .lst (vs'.eraseIdx n)) :: (L'' ++ N)) _ := A3.perm (List.Perm.swap _ _ _)
    refine ⟨a, vs, vs'[n], rfl, rfl, A3'.on1, len_lt (by omega), ?_⟩
    have A4 := At.put (u := .lst (vs ++ [vs'[n]])) A3'
    have hv2 : Each ((xs ++ [x]).map R) (vs ++ [vs'[n]]) F2 := by rw [List.map_append]; exact each_app (MonoL.mono _ _ _ e12 hv) ⟨Mono.go g2 e12, True.intro⟩
    have hv3 : Each ((ys.eraseIdx n).map R) (vs'.eraseIdx n) F2 := by
      have key : ∀ (ys : List α) (vs : List V) (n : Nat), Each (ys.map R) vs F2 → Each ((ys.eraseIdx n).map R) (vs.eraseIdx n) F2 := by
        intro ys
        induction ys with
        | nil => intro vs n h; cases vs with
          | nil => exact h
          | cons _ _ => exact h.elim
        | cons y ys ih => intro vs n h; cases vs with
          | nil => exact h.elim
          | cons u us => cases n with
            | zero => exact h.2
            | succ n => exact ⟨h.1, ih us n h.2⟩
      exact key ys vs' n (MonoL.mono _ _ _ e12 hv')
    exact (k n x).run σ F2 ((a, .lst (vs ++ [vs'[n]])) :: (a', .lst (vs'.eraseIdx n)) :: L'') (satV_up e12 sv) ⟨a, _, _, rfl, h1, fun F' e' => ⟨_, rfl, MonoL.mono _ _ _ e' hv2⟩, a', _, L'', rfl, h1', fun F' e' => ⟨_, rfl, MonoL.mono _ _ _ e' hv3⟩, satC_up e12 h3⟩ Nx Rt X q1 F2 N _ (Same.refl _) A4 (wsh.up e2) D
      (fun σ3 F3 L3 H3 e3 A3 n => nx σ3 F3 L3 H3 (e2.trans e3) A3 n) fun v F3 H3 e3 A3 n => rt v F3 H3 (e2.trans e3) A3 n⟩
end
section
variable {P : Program} {w : World} {K : PySem.W.Frag} {mg : Str → Option Value} {base : Heap} {γ δ : Type} {k : Nat}
theorem scoop_toN {x : Str} (h : Gf P w K mg base k x (SpF (γ := Nat) (fun t => 1 ≤ t ∧ t ≤ 1000) (fun t => [Ck 3, Dt K (nI t)]) Bd)) :
    Gf P w K mg base k x (SpN (fun g : Unit × Nat => [fCk 3 g.1, fD K dN g.2]) (fun (g : Unit × Nat) (Q : Nat → Prop) => (1 ≤ g.2 ∧ g.2 ≤ 1000) ∧ ∀ n, n < g.2 → Q n) (fD K dN)) :=
  let ⟨a, fd, ps, F, h1, h2, h3⟩ := h
  ⟨a, fd, ps, F.imp fun vs H Q E ⟨g, F0, N, P, A, hv, ⟨hp, q⟩, r⟩ => ⟨g.2, F0, N, hp, A, hv, fun v F' H' e A' ⟨n, hn, hv⟩ => r n v F' H' e A' (q n hn) (by subst hv; exact .int _)⟩, h1, h2, h3⟩
end
end Tw

/-! Tw9: the head's parts that are alike in all laws. -/
namespace Tw
open PySem PySem.Spec PyProof.Rows L2 SlX StX Rs Ma
variable [Rs.Tabz]
def TopFn (K : PySem.W.Frag) (x : Str) (st : Stmt) (ps : List Str) : Prop := ∃ f fd, PySem.W.nsIn K mainGlobals x = some (some (.ref f)) ∧ Fun K x x st f fd ∧ Binds K fd ps []
theorem top_fn {K : PySem.W.Frag} {x : Str} {st : Stmt} {ps : List Str} {f : Addr} {oc : Value} {od an : Option Addr} {osl : Array (Option Value)} {kV doc pm cdv ct : Value} (a : PySem.W.nsIn K mainGlobals x = some (some (.ref f)))
    (l : K.lookup f = some ⟨oc, od, .func (PySem.W.fnOf x x (defArgs st) (defBody st) (defScope st) .none kV doc pm an cdv ct), osl⟩) (c : PySem.W.codeIn K cdv x = true) (k : PySem.W.keepIn K (.ref f) = true)
    (b : ∀ (kV doc pm : Value) (an : Option Addr) (cdv ct : Value) (us : List Value), us.length = ps.length → bindArgs (PySem.W.fnOf x x (defArgs st) (defBody st) (defScope st) .none kV doc pm an cdv ct) ⟨us, []⟩ = pure (ps.zip us)) : TopFn K x st ps :=
  ⟨f, _, a, fun_mk l c k, (fun_mk (st := st) l c k).binds b⟩
def MetFn (K : PySem.W.Frag) (C : Addr) (x qual : Str) (st : Stmt) (ps : List Str) : Prop := ∃ f fd, PySem.W.findIn K (.ref C) x = some (some (.ref f)) ∧ PySem.W.isFn K (.ref f) = true ∧ Fun K x qual st f fd ∧ Binds K fd ps []
theorem met_fn {K : PySem.W.Frag} {C : Addr} {x qual : Str} {st : Stmt} {ps : List Str} {f : Addr} {oc : Value} {od an : Option Addr} {osl : Array (Option Value)} {kV doc pm cdv ct : Value} (a : PySem.W.findIn K (.ref C) x = some (some (.ref f))) (i : PySem.W.isFn K (.ref f) = true)
    (l : K.lookup f = some ⟨oc, od, .func (PySem.W.fnOf x qual (defArgs st) (defBody st) (defScope st) .none kV doc pm an cdv ct), osl⟩) (c : PySem.W.codeIn K cdv qual = true) (k : PySem.W.keepIn K (.ref f) = true)
    (b : ∀ (kV doc pm : Value) (an : Option Addr) (cdv ct : Value) (us : List Value), us.length = ps.length → bindArgs (PySem.W.fnOf x qual (defArgs st) (defBody st) (defScope st) .none kV doc pm an cdv ct) ⟨us, []⟩ = pure (ps.zip us)) : MetFn K C x qual st ps :=
  ⟨f, _, a, i, fun_mk l c k, (fun_mk (st := st) l c k).binds b⟩
def PrpFn (K : PySem.W.Frag) (C : Addr) (x qual : Str) (st : Stmt) : Prop := ∃ p g fd, PySem.W.findIn K (.ref C) x = some (some (.ref p)) ∧ PySem.W.specialIn K (.ref p) "__get__" = some (some (.builtin "property.__get__")) ∧ PySem.W.takesIn K (.ref p) = some true ∧
    (∃ rest, PySem.W.recIn K p "property" = some (.ref g :: rest)) ∧ Fun K x qual st g fd ∧ Binds K fd ["self"] []
theorem prp_fn {K : PySem.W.Frag} {C p : Addr} {x qual : Str} {st : Stmt} {f : Addr} {rest : List Value} {oc : Value} {od an : Option Addr} {osl : Array (Option Value)} {kV doc pm cdv ct : Value} (a : PySem.W.findIn K (.ref C) x = some (some (.ref p)))
    (s : PySem.W.specialIn K (.ref p) "__get__" = some (some (.builtin "property.__get__"))) (t : PySem.W.takesIn K (.ref p) = some true) (r : PySem.W.recIn K p "property" = some (.ref f :: rest))
    (l : K.lookup f = some ⟨oc, od, .func (PySem.W.fnOf x qual (defArgs st) (defBody st) (defScope st) .none kV doc pm an cdv ct), osl⟩) (c : PySem.W.codeIn K cdv qual = true) (k : PySem.W.keepIn K (.ref f) = true)
    (b : ∀ (kV doc pm : Value) (an : Option Addr) (cdv ct : Value) (us : List Value), us.length = 1 → bindArgs (PySem.W.fnOf x qual (defArgs st) (defBody st) (defScope st) .none kV doc pm an cdv ct) ⟨us, []⟩ = pure ((["self"] : List Str).zip us)) : PrpFn K C x qual st :=
  ⟨p, f, _, a, s, t, ⟨rest, r⟩, fun_mk l c k, (fun_mk (st := st) l c k).binds b⟩
def SlotAt (K : PySem.W.Frag) (C : Addr) (x : Str) (i : Nat) : Prop := ∃ p, Slot1 K C x p i
theorem slot_at {K : PySem.W.Frag} {C p : Addr} {x : Str} {i : Nat} (a : PySem.W.findIn K (.ref C) x = some (some (.ref p))) (s : PySem.W.specialIn K (.ref p) "__get__" = some (some (.builtin "member_descriptor.__get__"))) (t : PySem.W.takesIn K (.ref p) = some true)
    (y : PySem.W.typeIn K (.ref p) = some (.type "member_descriptor")) (j : PySem.W.slotIn K p C = some i) (h : i < 1000) : SlotAt K C x i := ⟨p, a, s, t, y, j, h⟩
theorem kit_self {K : PySem.W.Frag} {C : Addr} : PySem.W.kitOne K (.ref C) (.ref C) = some true := by
  unfold PySem.W.kitOne; rw [if_pos (by simp)]
/-- law's, as the head asks it -/
def spLaw (K : PySem.W.Frag) : Sp := fun vs H Q _ => ∃ (a : Addr) (ns : List Int), vs = [.ref a] ∧ SqL K H a (ns.map V.int) ∧ ns.length ≤ 63 ∧ TabT (fun _ => none) H ∧ ∀ H', Q (.bl true) H'
open Classical in
/-- all but the tables -/
noncomputable def cutT (H : Hp) : Hp := fun b => if Tabz.ts b then none else H b
theorem cutT_at {H : Hp} {b : Addr} (h : ¬ Tabz.ts b) : cutT H b = H b := by unfold cutT; rw [if_neg h]
theorem at_start {H : Hp} (tb : TabT (fun _ => none) H) : At (cutT H) [] H := At.nil (fun b u e => by
  unfold cutT at e
  split at e
  · cases e
  · exact e) (tb.up fun c q h => nomatch h) fun P hP => by unfold cutT; rw [if_pos hP]
theorem sqL_cut {K : PySem.W.Frag} {H : Hp} {a : Addr} {xs : List V} (tb : TabT (fun _ => none) H) (h : SqL K H a xs) : SqL K (cutT H) a xs := by
  rcases h with (h | ⟨o, h⟩) | h
  · refine .inl (.inl ?_)
    rw [cutT_at fun z => by obtain ⟨ps, e, _⟩ := tb a z; rw [h] at e; cases e]; exact h
  · refine .inl (.inr ⟨o, ?_⟩)
    rw [cutT_at fun z => by obtain ⟨ps, e, _⟩ := tb a z; rw [h] at e; cases e]; exact h
  · exact .inr h
theorem law_fn {P : Program} {w : World} {K : PySem.W.Frag} {mg : Str → Option Value} {base : Heap} {k : Nat} {f : Addr} {fd : FuncData} {ps : List Str} (G : FnOk P w K mg base CX0 k f fd ps (SpN (fun ns : List Int => [fD K (dL dInt) ns]) (fun (ns : List Int) (Q : Bool → Prop) => ns.length ≤ 63 ∧ Q true) (fD K dB))) : FnOk P w K mg base CX0 k f fd ps (spLaw K) := by
  refine G.imp fun vs H Q E ⟨a, ns, e, hs, hl, tb, q⟩ => ?_
  subst e
  refine ⟨ns, cutT H, [], fun b => b = true, at_start tb, ⟨?_, True.intro⟩, ⟨hl, rfl⟩, fun d v F' H' _ _ hd hv => ?_⟩
  · exact ls_dt.mp ⟨a, _, rfl, sqL_cut tb hs, each_dt.mpr ints_vs⟩
  · have hd : d = true := hd
    subst hd
    rw [dt_bl hv]; exact q H'
theorem walk {l : PySem.W.OpenLaw} {q : Program} {loose : List Str} {XP : (Str → Option Value) → Heap → Prop} {YP : World → Heap → Prop} {d : DefRec} {k : Nat} (hr : Room k callerA) {K : Params → PySem.W.Frag} (hn : l.most = some 63) (hdf : d.params.defaults = []) (hz : ∀ P, ¬ Tabz.ts P)
    (hY : ∀ (w : World) (h : Heap), YP w h → (K w.params).In h)
    (F : ∀ (w : World) (mg : Str → Option Value) (fa : Addr) (h : Heap), (K w.params).In h → h.Ns mainGlobals mg → mg d.name = some (.ref fa) →
      ∃ fd : FuncData, (∀ (s : Shared) (u : Value), BindsTo s fd ⟨[u], []⟩ [("_law_script", u)]) ∧ ∀ base : Heap, (K w.params).In base → base.Ns mainGlobals mg → FnOk l.prog w (K w.params) mg base CX0 k fa fd ["_law_script"] (spLaw (K w.params))) :
    PySem.W.WalkO q loose XP YP l.row.toRowW d [] (fun f vs => PySem.call f vs) :=
  L2.walk_of (n := 63) (k := k) (x := "_law_script") (CX := fun _ => CX0) (sp := fun w => spLaw (K w.params)) hn (by decide) hdf hr hY F (fun _ _ a ns hl _ hS => ⟨a, ns, rfl, hS, hl, fun P hP => absurd hP (hz P), fun _ => rfl⟩) fun _ _ _ _ _ z => z
end Tw

/-! Sn0: sets whose elements are keys of any one kind of heap keys; the search. -/
namespace Sn
open PySem PySem.Spec PyProof.Rows L2
variable [Rs.Tabz]

/-- a kind of keys that a set shows nothing of -/
structure SKind (P : Program) (w : World) (K : Type) [DecidableEq K] where
  kd : HeapKind P w K
  noClass : ∀ {A : Around} {E : Value → Shared → Prop} {s : Shared} {k : K} {a : Addr} {Q : Bool → Shared → Prop}, kd.is s.heap k a → Q false s → wpAny (model P w) A (ofAClassStatement 8 (.ref a)) Q E s
  byVal : ∀ {A : Around} {E : Value → Shared → Prop} {s : Shared} {k : K} {a : Addr} {Q : Bool → Shared → Prop}, kd.is s.heap k a → Q true s → wpAny (model P w) A (hashByValue 8 (.ref a)) Q E s
  stay : ∀ {h h' : Heap} {k : K} {a : Addr}, kd.is h k a → (∀ b o vs n, h.get? b = some o → o.data = .seq vs n → h'.get? b = some o) → kd.is h' k a

section
variable {P : Program} {w : World} {K : Type} [DecidableEq K] (kk : SKind P w K)
def hs (p : Addr × K) : Int := kk.kd.hash p.2
def row1 (p : Addr × K) : Int × Value := (hs kk p, .ref p.1)
/-- the object o at a is the set of the keys of L -/
structure SI (h : Heap) (a : Addr) (L : List (Addr × K)) (o : Obj) (es : Array (Int × Value)) (ep : Nat) (t : SetTable) : Prop where
  at' : h.get? a = some o
  exact' : o.ExactSet
  data : o.data = .set es ep t
  rows : es.toList = L.map (row1 kk)
  tab : TabOk t (L.map (hs kk))
  nd : (L.map (·.2)).Nodup
  keys : ∀ p ∈ L, kk.kd.is h p.2 p.1
  plain : t.plain = true
  led : w.params.followText "set-order" = true ∨ t.led = true
  room : L.length * 5 < t.mask * 3
  few : L.length < 64
variable {kk}
theorem rows_len {es : Array (Int × Value)} {L : List (Addr × K)} (h : es.toList = L.map (row1 kk)) : es.size = L.length := by
  rw [← Array.length_toList, h, List.length_map]
theorem rows_at {es : Array (Int × Value)} {L : List (Addr × K)} (h : es.toList = L.map (row1 kk)) (i : Nat) : es[i]? = (L[i]?).map (row1 kk) := by
  rw [← Array.getElem?_toList, h, List.getElem?_map]
theorem fits_of {t : SetTable} {n : Nat} (h1 : t.place.size = n) (h2 : t.dummies = #[]) (h3 : n ≤ t.mask) : t.fits n = true := by
  have e : t.fill = n := by
    unfold SetTable.fill
    rw [h1, h2]; rfl
  unfold SetTable.fits
  rw [e, h1, Bool.and_eq_true, beq_iff_eq, decide_eq_true_eq]
  exact ⟨rfl, h3⟩
section
variable {h : Heap} {a : Addr} {L : List (Addr × K)} {o : Obj} {es : Array (Int × Value)} {ep : Nat} {t : SetTable}
theorem SI.sz (R : SI kk h a L o es ep t) : t.place.size = es.size := by
  rw [R.tab.sz, List.length_map, rows_len R.rows]
theorem SI.fits (R : SI kk h a L o es ep t) : t.fits es.size = true := by
  refine fits_of R.sz R.tab.dm ?_
  have := R.room
  rw [rows_len R.rows]
  omega
theorem SI.notGone (R : SI kk h a L o es ep t) : ¬ t.gaveWay = true := by
  unfold SetTable.gaveWay
  rw [mask_odd R.tab.mok]
  decide
theorem SI.hashAt (R : SI kk h a L o es ep t) {i : Nat} {p : Addr × K} (hp : L[i]? = some p) : (es[i]?.map (·.1)).getD 0 = hs kk p := by
  rw [rows_at R.rows, hp]; rfl
theorem SI.inPlace (R : SI kk h a L o es ep t) {i : Nat} {p : Addr × K} (hp : L[i]? = some p) : ∃ j, t.place.toList[i]? = some j := by
  have h1 := (List.getElem?_eq_some_iff.mp hp).1
  have h2 : i < t.place.toList.length := by
    rw [Array.length_toList, R.tab.sz, List.length_map]; exact h1
  exact ⟨_, List.getElem?_eq_getElem h2⟩
theorem SI.ofPlace (R : SI kk h a L o es ep t) {i j : Nat} (hj : t.place.toList[i]? = some j) : ∃ p, L[i]? = some p := by
  have h1 := (List.getElem?_eq_some_iff.mp hj).1
  rw [Array.length_toList, R.tab.sz, List.length_map] at h1
  exact ⟨_, List.getElem?_eq_getElem h1⟩
end

/-- the n-th step of the way of a hash -/
abbrev stp (t : SetTable) (v : Int) (n : Nat) : SetTable.Probe := nth t.mask (runAt t.mask (SetTable.bits v % (t.mask + 1)) (SetTable.bits v)) n
theorem stp_dummy (t : SetTable) (v : Int) : ∀ n, (stp t v n).dummy = none
  | 0 => rfl
  | n + 1 => by
    have ih := stp_dummy t v n
    show (nth t.mask _ (n + 1)).dummy = none
    rw [nth_succ]
    unfold adv
    split
    · exact ih
    · exact ih
theorem stp_add (t : SetTable) (v : Int) (c q : Nat) : nth t.mask (stp t v c) q = stp t v (c + q) := (nth_add t.mask c _ q).symm

section
variable {A : Around} {E : Value → Shared → Prop} {s : Shared}
/-- a search among such keys shows nothing -/
theorem unseen {k : K} {b : Addr} {Q : Bool → Shared → Prop} (hk : kk.kd.is s.heap k b) (ys : List Value) (hy : ∀ y ∈ ys, ∃ k' c, y = Value.ref c ∧ kk.kd.is s.heap k' c) (h : Q false s) :
    wpAny (model P w) A (searchCouldBeSeen (.ref b) ys) Q E s := by
  unfold searchCouldBeSeen
  refine wpAny_bind (wpAny_forIn_list _ (fun left r s' => (r.1 = none ∧ s' = s) ∧ ∀ y ∈ left, ∃ k' c, y = Value.ref c ∧ kk.kd.is s.heap k' c) _ (fun y left r s' H => ?_) (fun r s' H => ?_) _ _ ⟨⟨rfl, rfl⟩, hy⟩)
  · obtain ⟨⟨h1, rfl⟩, h2⟩ := H
    obtain ⟨k', c, rfl, hc⟩ := h2 y List.mem_cons_self
    have more := fun u (hu : u ∈ left) => h2 u (List.mem_cons_of_mem _ hu)
    dsimp only
    cases hv : (b == c || (carriedByValue (.ref b) && carriedByValue (.ref c)))
    · refine wp_if_neg (by decide) (wpAny_bind (kk.kd.quiet hk ?_))
      simp only [Bool.not_true, Bool.false_eq_true, if_false]
      refine wpAny_bind (kk.kd.quiet hc ?_)
      simp only [Bool.not_true, Bool.false_eq_true, if_false]
      refine wpAny_bind (kk.noClass hk ?_)
      simp only [Bool.false_eq_true, if_false]
      refine wpAny_bind (kk.noClass hc ?_)
      simp only [Bool.false_eq_true, if_false]
      exact wpAny_pure ⟨⟨rfl, rfl⟩, more⟩
    · exact wp_if_pos rfl (wpAny_pure ⟨⟨rfl, rfl⟩, more⟩)
  · obtain ⟨r1, r2⟩ := r
    obtain ⟨⟨h1, rfl⟩, _⟩ := H
    simp only at h1
    subst h1
    exact wpAny_pure h

variable {a : Addr} {L : List (Addr × K)} {o : Obj} {es : Array (Int × Value)} {ep : Nat} {t : SetTable}
/-- the search, with n steps to the free slot -/
theorem look (R : SI kk s.heap a L o es ep t) {x : Addr} {k : K} (hx : kk.kd.is s.heap k x) (hr : kk.kd.room A) {N : Nat} (hN : N < 10 * SetTable.turns t.mask)
    (free : way t.mask (kk.kd.hash k) N ∉ t.place.toList) (taken : ∀ c, c < N → way t.mask (kk.kd.hash k) c ∈ t.place.toList) {Q : SetFound → Shared → Prop}
    (qin : k ∈ L.map (·.2) → Q (.there none) s) (qout : k ∉ L.map (·.2) → Q (.free (way t.mask (kk.kd.hash k) N) false) s) :
    ∀ (n f c : Nat) (from' : Option SetTable.Probe), c + n = N → n < f → from'.getD (t.probeStart (kk.kd.hash k)) = stp t (kk.kd.hash k) c →
      (∀ (i : Nat) p, L[i]? = some p → p.2 = k → ∃ c', c ≤ c' ∧ c' < N ∧ t.place.toList[i]? = some (way t.mask (kk.kd.hash k) c')) →
      wpAny (model P w) A (setSearchFrom a (.ref x) (kk.kd.hash k) true f from') Q E s := by
  intro n
  induction n using Nat.strongRecOn with
  | ind n ih =>
    intro f c from' hc hf hfrom ahead
    obtain ⟨f, rfl⟩ : ∃ g, f = g + 1 := ⟨f - 1, by omega⟩
    rw [setSearchFrom_succ]
    refine wpAny_bind (wpAny_setState_of R.at' R.data R.fits ?_)
    dsimp only
    refine wp_if_neg R.notGone ?_
    try refine wpAny_bind (wpAny_pure ?_)
    have spec := go_spec t R.tab.ris R.tab.dm (fun i => (es[i]?.map (·.1)).getD 0) (kk.kd.hash k) (10 * SetTable.turns t.mask) n (stp t (kk.kd.hash k) c) (stp_dummy _ _ _) (by omega)
      (fun q hq => by rw [stp_add]; exact taken (c + q) (by omega)) (by rw [stp_add, hc]; exact free)
    rcases spec with ⟨q, i, hq, hi, hh, first, probe⟩ | ⟨none', probe⟩
    · rw [stp_add] at hi
      rw [stp_add, stp_add] at probe
      have probe' : t.probe (fun i => (es[i]?.map (·.1)).getD 0) (kk.kd.hash k) (from'.getD (t.probeStart (kk.kd.hash k))) = some (.candidate (stp t (kk.kd.hash k) (c + q)).j i (stp t (kk.kd.hash k) (c + (q + 1)))) := by rw [hfrom]; exact probe
      rw [probe']
      dsimp only
      obtain ⟨p, hp⟩ := R.ofPlace hi
      have hpL := List.mem_of_getElem? hp
      have entry : es[i]? = some (hs kk p, Value.ref p.1) := by rw [rows_at R.rows, hp]; rfl
      have slot := slot_live R.tab.ris hi
      have rest : wpAny (model P w) A (searchRest a (.ref x) (kk.kd.hash k) true f es t (stp t (kk.kd.hash k) (c + q)).j i (stp t (kk.kd.hash k) (c + (q + 1)))) Q E s := by
        unfold searchRest
        rw [entry]
        dsimp only
        refine wpAny_bind (wpAny_holding (kk.kd.eqBool hr (R.keys p hpL) hx ?_))
        refine wpAny_bind (wpAny_setState_of R.at' R.data R.fits ?_)
        dsimp only
        by_cases same : p.2 = k
        · exact wp_if_pos (by simp [same]) (wpAny_pure (qin (List.mem_map.mpr ⟨p, hpL, same⟩)))
        · refine wp_if_neg (by simp [same]) ?_
          try refine wpAny_bind (wpAny_pure ?_)
          rw [sameMem]
          dsimp only
          simp only [if_true, slot, entry]
          refine wpAny_bind (wpAny_isSame_ref_self (wpAny_bind (wpAny_pure ?_)))
          simp only [if_true]
          refine wp_if_neg (by simp [same]) ?_
          refine ih (n - (q + 1)) (by omega) f (c + (q + 1)) _ (by omega) (by omega) rfl fun i0 p0 h0 e0 => ?_
          obtain ⟨c', a1, a2, a3⟩ := ahead i0 p0 h0 e0
          refine ⟨c', ?_, a2, a3⟩
          rcases Nat.lt_trichotomy c' (c + q) with z | z | z
          · refine absurd ?_ (first (c' - c) i0 (by omega) (by rw [stp_add, show c + (c' - c) = c' by omega]; exact a3))
            exact (R.hashAt h0).trans (congrArg kk.kd.hash e0)
          · rw [z] at a3
            have s2 := slot_live R.tab.ris a3
            rw [slot] at s2
            injection s2 with s2
            rw [← s2, hp] at h0
            exact absurd ((congrArg Prod.snd (Option.some.inj h0)).trans e0) same
          · omega
      cases hled : t.led
      · refine wp_if_pos rfl (wpAny_bind (unseen hx _ (fun y hy => ?_) ?_))
        · obtain ⟨e, he, ee⟩ := List.mem_map.mp hy
          have he1 : e ∈ es.toList := by
            have : e ∈ es ∧ e.1 = kk.kd.hash k := by simpa using he
            simpa using this.1
          rw [R.rows] at he1
          obtain ⟨z, hz, rfl⟩ := List.mem_map.mp he1
          exact ⟨z.2, z.1, ee.symm, R.keys z hz⟩
        · refine wp_if_neg (by decide) ?_
          try refine wpAny_bind (wpAny_pure ?_)
          exact rest
      · refine wp_if_neg (by decide) ?_
        try refine wpAny_bind (wpAny_pure ?_)
        exact rest
    · rw [stp_add, hc] at probe
      have probe' : t.probe (fun i => (es[i]?.map (·.1)).getD 0) (kk.kd.hash k) (from'.getD (t.probeStart (kk.kd.hash k))) = some (.empty (way t.mask (kk.kd.hash k) N) none) := by rw [hfrom]; exact probe
      rw [probe']
      dsimp only
      refine wpAny_pure (qout fun hm => ?_)
      obtain ⟨p0, h0, e0⟩ := List.mem_map.mp hm
      obtain ⟨i0, hi0⟩ := List.mem_iff_getElem?.mp h0
      obtain ⟨c', a1, a2, a3⟩ := ahead i0 p0 hi0 e0
      refine absurd ?_ (none' (c' - c) i0 (by omega) (by rw [stp_add, show c + (c' - c) = c' by omega]; exact a3))
      exact (R.hashAt hi0).trans (congrArg kk.kd.hash e0)

/-- the search as adding asks for it -/
theorem seek (R : SI kk s.heap a L o es ep t) {x : Addr} {k : K} (hx : kk.kd.is s.heap k x) (hr : kk.kd.room A) {Q : SetFound → Shared → Prop} (qin : k ∈ L.map (·.2) → Q (.there none) s)
    (qout : ∀ N, k ∉ L.map (·.2) → way t.mask (kk.kd.hash k) N ∉ t.place.toList → (∀ c, c < N → way t.mask (kk.kd.hash k) c ∈ t.place.toList) → Q (.free (way t.mask (kk.kd.hash k) N) false) s) :
    wpAny (model P w) A (setSearch a (.ref x) (kk.kd.hash k) true) Q E s := by
  have hroom := R.room
  obtain ⟨N, hN, free, taken⟩ := R.tab.first (by rw [List.length_map]; omega) (kk.kd.hash k)
  have bound : 10 * SetTable.turns t.mask ≤ 99999 := by
    unfold SetTable.turns
    rcases R.tab.mok with e | e | e <;> omega
  refine look R hx hr hN free taken qin (fun hn => qout N hn free taken) N 100000 0 none (Nat.zero_add _) (by omega) rfl fun i p hp e => ?_
  obtain ⟨j, hj⟩ := R.inPlace hp
  have hi : (L.map (hs kk))[i]? = some (kk.kd.hash k) := by rw [List.getElem?_map, hp, ← e]; rfl
  obtain ⟨c, hc, ec⟩ := R.tab.before free hi hj
  exact ⟨c, Nat.zero_le _, hc, by rw [hj, ec]⟩
end
end
end Sn

/-! Sn1: adding to a set of keys. -/
namespace Sn
open PySem PySem.Spec PyProof.Rows L2
variable [Rs.Tabz]
section
variable {P : Program} {w : World} {K : Type} [DecidableEq K] {kk : SKind P w K}

/-- the entries in another order -/
theorem picked {L : List (Addr × K)} {es : Array (Int × Value)} (h : es.toList = L.map (row1 kk)) : ∀ is : List Nat, (∀ i ∈ is, i < L.length) →
    is.filterMap (fun i => es[i]?) = (is.filterMap fun i => L[i]?).map (row1 kk) ∧ (is.filterMap fun i => L[i]?).map (hs kk) = is.map fun i => (es.map (·.1)).getD i 0
  | [], _ => ⟨rfl, rfl⟩
  | i :: is, hi => by
    obtain ⟨e1, e2⟩ := picked h is fun j hj => hi j (List.mem_cons_of_mem _ hj)
    have hl := hi i List.mem_cons_self
    have hL : L[i]? = some L[i] := List.getElem?_eq_getElem hl
    have hE : es[i]? = some (row1 kk L[i]) := by rw [rows_at h, hL]; rfl
    refine ⟨?_, ?_⟩
    · rw [List.filterMap_cons_some hE, List.filterMap_cons_some hL, e1, List.map_cons]
    · rw [List.filterMap_cons_some hL, List.map_cons, List.map_cons, e2]
      congr 1
      have : (es.map (·.1))[i]? = some (hs kk L[i]) := by rw [Array.getElem?_map, hE]; rfl
      simp [Array.getD_eq_getD_getElem?, this]
theorem picked_upto {α : Type} (L : List α) : ∀ n, n ≤ L.length → (List.range n).filterMap (fun i => L[i]?) = L.take n
  | 0, _ => rfl
  | n + 1, h => by
    have e : L[n]? = some L[n] := List.getElem?_eq_getElem h
    rw [List.range_succ, List.filterMap_append, picked_upto L n (Nat.le_of_succ_le h), List.take_succ, e]
    simp [e]
theorem all_picked {α : Type} (L : List α) : (List.range L.length).filterMap (fun i => L[i]?) = L := by
  rw [picked_upto L _ (Nat.le_refl _), List.take_length]

section
variable {A : Around} {E : Value → Shared → Prop} {s : Shared} {a : Addr} {L : List (Addr × K)} {o : Obj} {es : Array (Int × Value)} {ep : Nat} {t : SetTable}
/-- what is no set stays, so keys stay -/
theorem key_but {h h' : Heap} {k : K} {b : Addr} (hk : kk.kd.is h k b) (ho : h.get? a = some o) (hd : o.data = .set es ep t) (sb : Heap.SameBut a h h') : kk.kd.is h' k b :=
  kk.stay hk fun c o' vs n hc hq => by
    refine (sb.2 c ?_).trans hc
    rintro rfl
    rw [ho] at hc
    cases hc
    rw [hd] at hq
    exact nomatch hq
theorem key_up {h h' : Heap} {k : K} {b : Addr} (hk : kk.kd.is h k b) (up : ∀ c o, h.get? c = some o → h'.get? c = some o) : kk.kd.is h' k b := kk.stay hk fun c o _ _ hc _ => up c o hc

/-- a set whose table is too full is laid anew -/
theorem relay {M wanted : Nat} (ho : s.heap.get? a = some o) (hex : o.ExactSet) (hd : o.data = .set es ep t) (hrow : es.toList = L.map (row1 kk)) (T : TabOk t (L.map (hs kk))) (hfit : L.length ≤ t.mask)
    (nd : (L.map (·.2)).Nodup) (keys : ∀ p ∈ L, kk.kd.is s.heap p.2 p.1) (pl : t.plain = true) (ld : w.params.followText "set-order" = true ∨ t.led = true) (few : L.length < 64)
    (hw : SetTable.sizeAbove wanted = M + 1) (hM : MaskOk M) (hn : L.length * 5 < M * 3) {Q : Unit → Shared → Prop}
    (q : ∀ h' L' o' es' ep' t', Heap.SameBut a s.heap h' → SI kk h' a L' o' es' ep' t' → L'.Perm L → Q () { s with heap := h' }) : wpAny (model P w) A (setRelay a wanted) Q E s := by
  have len := rows_len hrow
  have psz : t.place.size = es.size := by rw [T.sz, List.length_map, len]
  have M128 : M ≤ 127 := by rcases hM with e | e | e <;> omega
  obtain ⟨t', order, er, pm, T', em, el, epl, edm⟩ := relaid_ok t (hs := es.map (·.1)) (wanted := wanted) (M := M) (by omega) hM (by rw [Array.size_map, len]; omega)
  rw [Array.size_map, len] at pm
  obtain ⟨e1, e2⟩ := picked hrow order.toList fun i hi => List.mem_range.mp (pm.mem_iff.mp hi)
  have pm2 : (order.toList.filterMap fun i => L[i]?).Perm L := by
    have := pm.filterMap fun i => L[i]?
    rwa [all_picked] at this
  rw [← e2] at T'
  have e3 : (order.filterMap (es[·]?)).toList = (order.toList.filterMap fun i => L[i]?).map (row1 kk) := by rw [Array.toList_filterMap]; exact e1
  generalize (order.toList.filterMap fun i => L[i]?) = L2 at e3 pm2 T'
  have sz3 : (order.filterMap (es[·]?)).size = es.size := by rw [rows_len e3, pm2.length_eq, len]
  rw [setRelay_eq]
  refine wpAny_bind (wpAny_setState_of ho hd (fits_of psz T.dm (by rw [len]; exact hfit)) ?_)
  dsimp only
  refine wp_if_neg (by rw [sizeLine_eq, hw]; omega) ?_
  try refine wpAny_bind (wpAny_pure ?_)
  rw [er]
  dsimp only
  refine wpAny_bind (wp_if_neg (by rw [sz3]; simp) ?_)
  try refine wpAny_bind (wpAny_pure ?_)
  refine wpAny_pure ?_
  dsimp only
  refine wpAny_storeSet_of ho hd ?_ (by rw [sz3, len, sizeLine_eq]; omega)
  have sb : Heap.SameBut a s.heap (s.heap.update a (Obj.putSet (order.filterMap (es[·]?)) t')) := Heap.SameBut.update ..
  refine q _ L2 _ _ (ep + 1) t' sb { at' := store_at ho hd, exact' := ⟨hex.1, hex.2.1, hex.2.2⟩, data := rfl, rows := e3, tab := T', nd := (pm2.map (·.2)).nodup_iff.mpr nd, keys := fun p hp => key_but (keys p (pm2.mem_iff.mp hp)) ho hd sb, plain := by rw [epl]; exact pl, led := by rw [el]; exact ld, room := by rw [pm2.length_eq, em]; exact hn, few := by rw [pm2.length_eq]; exact few } pm2

/-- adding a key -/
theorem add (R : SI kk s.heap a L o es ep t) {x : Addr} {k : K} (hx : kk.kd.is s.heap k x) (hr : kk.kd.room A) (more : L.length + 1 < 64) {Q : Bool → Shared → Prop}
    (q : ∀ b h' L' o' es' ep' t', Heap.SameBut a s.heap h' → SI kk h' a L' o' es' ep' t' → (k ∈ L.map (·.2) ∧ L' = L) ∨ (k ∉ L.map (·.2) ∧ L'.Perm ((x, k) :: L)) → Q b { s with heap := h' }) :
    wpAny (model P w) A (setAddHashed a (.ref x) (kk.kd.hash k)) Q E s := by
  have len := rows_len R.rows
  have hroom := R.room
  unfold setAddHashed
  refine wpAny_holding ?_
  rw [show (100000 : Nat) = 99999 + 1 from rfl, setAddHashedIn_succ]
  refine wpAny_bind (wpAny_setState_of R.at' R.data R.fits ?_)
  dsimp only
  refine wp_if_neg (by simp [byScan, Value.scannable]) ?_
  try refine wpAny_bind (wpAny_pure ?_)
  refine wpAny_bind (seek R hx hr (fun hm => ?_) fun N hm free taken => ?_)
  · exact wpAny_pure (q false s.heap L o es ep t (Heap.SameBut.refl a s.heap) R (.inl ⟨hm, rfl⟩))
  dsimp only
  refine wpAny_bind (wpAny_setState_of R.at' R.data R.fits ?_)
  dsimp only
  obtain ⟨p1, p2, p3, p4, p5, p6, p7, p8, p9⟩ := R.tab.put free taken
  have pl : (t.put (way t.mask (kk.kd.hash k) N)).1.plain = true := p6.trans R.plain
  generalize t.put (way t.mask (kk.kd.hash k) N) = pt at p1 p3 p4 p5 p6 p7 p8 p9 pl ⊢
  obtain ⟨t1, at1⟩ := pt
  dsimp only at p1 p3 p4 p5 p6 p7 p8 p9 pl ⊢
  subst p1
  first
    | (refine wpAny_bind ?_; refine wp_if_pos pl ?_; refine kk.byVal hx ?_)
    | refine wp_if_pos pl (wpAny_bind (kk.byVal hx ?_))
  simp only [if_true]
  generalize SetTable.below t.place (way t.mask (kk.kd.hash k) N) = n at p2 p3 ⊢
  have erow : (SetTable.insertAt es n (kk.kd.hash k, Value.ref x)).toList = (L.take n ++ (x, k) :: L.drop n).map (row1 kk) := by
    rw [SetTable.toList_insertAt, R.rows, List.map_append, List.map_cons, List.map_take, List.map_drop]; rfl
  have pm := put_perm L n (x, k)
  have T1 : TabOk t1 ((L.take n ++ (x, k) :: L.drop n).map (hs kk)) := by
    rw [List.map_append, List.map_cons, List.map_take, List.map_drop]; exact p3
  generalize L.take n ++ (x, k) :: L.drop n = L1 at erow pm T1
  generalize SetTable.insertAt es n (kk.kd.hash k, Value.ref x) = es1 at erow ⊢
  have len1 : L1.length = L.length + 1 := pm.length_eq
  have esz : es1.size = L.length + 1 := (rows_len erow).trans len1
  have nd1 : (L1.map (·.2)).Nodup := (pm.map (·.2)).nodup_iff.mpr (List.nodup_cons.mpr ⟨hm, R.nd⟩)
  refine wpAny_bind (wpAny_storeSet_of R.at' R.data ?_ (by rw [esz, sizeLine_eq]; omega))
  have sb : Heap.SameBut a s.heap (s.heap.update a (Obj.putSet es1 t1)) := Heap.SameBut.update ..
  have ho1 := store_at (es' := es1) (t' := t1) R.at' R.data
  generalize s.heap.update a (Obj.putSet es1 t1) = h1 at sb ho1 ⊢
  have keys1 : ∀ p ∈ L1, kk.kd.is h1 p.2 p.1 := fun p hp => by
    refine key_but ?_ R.at' R.data sb
    rcases List.mem_cons.mp (pm.mem_iff.mp hp) with rfl | hp
    · exact hx
    · exact R.keys p hp
  have ld1 : w.params.followText "set-order" = true ∨ t1.led = true := by rw [p5]; exact R.led
  have fill1 : t1.fill = L.length + 1 := by rw [p9, List.length_map]
  cases hf : t1.tooFull
  · first
      | refine wp_if_neg (by simp) ?_
      | (refine wpAny_bind ?_; refine wp_if_neg (by simp) ?_; refine wpAny_pure ?_)
    have roomy : ¬ ((L.length + 1) * 5 ≥ t1.mask * 3) := by
      have := hf
      unfold SetTable.tooFull at this
      rwa [decide_eq_false_iff_not, fill1] at this
    exact wpAny_pure (q true h1 L1 _ es1 (ep + 1) t1 sb { at' := ho1, exact' := ⟨R.exact'.1, R.exact'.2.1, R.exact'.2.2⟩, data := rfl, rows := erow, tab := T1, nd := nd1, keys := keys1, plain := pl, led := ld1, room := by rw [len1]; omega, few := by rw [len1]; exact more } (.inr ⟨hm, pm⟩))
  · first
      | (refine wpAny_bind ?_; refine wp_if_pos (by simp) ?_)
      | (refine wp_if_pos (by simp) ?_; refine wpAny_bind ?_)
    have full : (L.length + 1) * 5 ≥ t1.mask * 3 := by
      have := hf
      unfold SetTable.tooFull at this
      rwa [decide_eq_true_eq, fill1] at this
    rw [len]
    have fit1 : L1.length ≤ t1.mask := by
      rw [len1, p4]
      rcases R.tab.mok with e | e | e <;> omega
    have go : ∀ M, SetTable.sizeAbove (SetTable.grown (L.length + 1)) = M + 1 → MaskOk M → (L.length + 1) * 5 < M * 3 → wpAny (model P w) A (setRelay a (SetTable.grown (L.length + 1))) (fun _ s' => wpAny (model P w) A (pure true) Q E s') E { s with heap := h1 } := fun M g1 g2 g3 =>
      relay (s := { s with heap := h1 }) ho1 ⟨R.exact'.1, R.exact'.2.1, R.exact'.2.2⟩ rfl erow T1 fit1 nd1 keys1 pl ld1 (by rw [len1]; exact more) g1 g2 (by rw [len1]; exact g3) fun h2 L2 o2 es2 ep2 t2 sb2 R2 pm2 => wpAny_pure (q true h2 L2 o2 es2 ep2 t2 (sb.trans sb2) R2 (.inr ⟨hm, pm2.trans pm⟩))
    rcases R.tab.mok with e | e | e
    · have l4 : L.length = 4 := by omega
      exact go 31 (by rw [l4, size_20]) (.inr (.inl rfl)) (by omega)
    · have l18 : L.length = 18 := by omega
      exact go 127 (by rw [l18, size_76]) (.inr (.inr rfl)) (by omega)
    · omega
end
end
end Sn

/-! Sn2: set(a list of keys). -/
namespace Sn
open PySem PySem.Spec PyProof.Rows L2
variable [Rs.Tabz]
section
variable {P : Program} {w : World} {K : Type} [DecidableEq K] {kk : SKind P w K}
/-- the set L came of the keys ks -/
structure Came (ks L : List (Addr × K)) : Prop where
  sub : ∀ p ∈ L, p ∈ ks
  iff : ∀ k, k ∈ L.map (·.2) ↔ k ∈ ks.map (·.2)
  len : L.length ≤ ks.length
theorem Came.snoc {ks L L' : List (Addr × K)} {p : Addr × K} (c : Came ks L) (h : (p.2 ∈ L.map (·.2) ∧ L' = L) ∨ (p.2 ∉ L.map (·.2) ∧ L'.Perm (p :: L))) : Came (ks ++ [p]) L' := by
  rcases h with ⟨hm, rfl⟩ | ⟨hm, pm⟩
  · refine ⟨fun x hx => List.mem_append_left _ (c.sub x hx), fun k => ?_, ?_⟩
    · rw [List.map_append, List.mem_append, c.iff k]
      refine ⟨.inl, fun h => h.elim id fun h => ?_⟩
      have : k = p.2 := by simpa using h
      rw [this]; exact (c.iff _).mp hm
    · have := c.len
      rw [List.length_append, List.length_singleton]; omega
  · refine ⟨fun x hx => ?_, fun k => ?_, ?_⟩
    · rcases List.mem_cons.mp (pm.mem_iff.mp hx) with rfl | hx
      · exact List.mem_append_right _ (List.mem_singleton.mpr rfl)
      · exact List.mem_append_left _ (c.sub x hx)
    · rw [(pm.map (·.2)).mem_iff, List.map_cons, List.mem_cons, List.map_append, List.mem_append, c.iff k]
      simp [or_comm]
    · have := c.len
      rw [pm.length_eq, List.length_append, List.length_singleton, List.length_cons]; omega
section
variable {A : Around} {E : Value → Shared → Prop} {s : Shared}
/-- the set at a -/
def IsSet (kk : SKind P w K) (h : Heap) (a : Addr) (L : List (Addr × K)) : Prop := ∃ o es ep t, SI kk h a L o es ep t
theorem IsSet.up {h h' : Heap} {a : Addr} {L : List (Addr × K)} (R : IsSet kk h a L) (ha : ∀ o, h.get? a = some o → h'.get? a = some o) (hk : ∀ p ∈ L, kk.kd.is h' p.2 p.1) : IsSet kk h' a L := by
  obtain ⟨o, es, ep, t, R⟩ := R
  exact ⟨o, es, ep, t, { R with at' := ha o R.at', keys := hk }⟩
theorem isSet_new {h : Heap} {a : Addr} (ho : h.get? a = some { cls := .type "set", dict := none, data := .set #[] 0 (.fresh 0 0 (!w.params.followText "set-order")) }) : IsSet kk h a [] := by
  refine ⟨_, _, _, _, { at' := ho, exact' := ⟨rfl, rfl, rfl⟩, data := rfl, rows := rfl, tab := ⟨List.Pairwise.nil, rfl, rfl, .inl rfl, fun x hx => (nomatch hx), fun i h j hi => (by simp at hi)⟩, nd := List.nodup_nil, keys := fun p hp => (nomatch hp), plain := rfl, led := ?_, room := (by show 0 * 5 < 7 * 3; decide), few := (by show 0 < 64; decide) }⟩
  show _ ∨ (!w.params.followText "set-order") = true
  cases w.params.followText "set-order"
  · exact .inr rfl
  · exact .inl rfl

theorem loop {I : Addr} {fp wr : List Addr} {G : Array GenState → Array GenState → Prop} {n : Nat} {Pv : Nat → Value → Prop} {St : Nat → Shared → Prop} {R : Result → Shared → Prop}
    (W : WalksS P w A.in1 I fp wr G n Pv St) (S : Addr) (out : S ∉ fp) (ks : List (Addr × K)) (hn : n = ks.length) (few : ks.length < 64) (vals : ∀ i v, Pv i v → ∃ p, ks[i]? = some p ∧ v = .ref p.1)
    (h0 : Heap) (keys : ∀ p ∈ ks, kk.kd.is h0 p.2 p.1) (noS : h0.get? S = none) (noW : ∀ b ∈ wr, h0.get? b = none) (hr : kk.kd.room A.in1) :
    ∀ (m i : Nat) (s : Shared), i + m = n → St i s → (∀ b o, h0.get? b = some o → s.heap.get? b = some o) → (∃ L, IsSet kk s.heap S L ∧ Came (ks.take i) L) →
      (∀ s' L, Moved (S :: wr) G s s' → IsSet kk s'.heap S L → Came ks L → (∀ b o, h0.get? b = some o → s'.heap.get? b = some o) → R (.ok (.ret .none)) s') →
      codeAny (model P w) A (.builtin "set.update.loop" ⟨[.ref S, .ref I], []⟩) R s := by
  have outW : S ∉ wr := fun h => out (W.sub _ h)
  have wider : ∀ b ∈ wr, b ∈ S :: wr := fun b hb => List.mem_cons_of_mem _ hb
  have kept : ∀ {s s' : Shared}, Moved wr G s s' → (∀ b o, h0.get? b = some o → s.heap.get? b = some o) → ∀ b o, h0.get? b = some o → s'.heap.get? b = some o := fun hm hk b o e => hm.heap b o (fun hb => by rw [noW b hb] at e; cases e) (hk b o e)
  intro m
  induction m with
  | zero =>
    intro i s him hst hk ⟨L, hS, g⟩ hR
    obtain rfl : i = n := him
    refine codeAny_builtin F.entry_set_update_loop ?_
    rw [Around.under_plainId F.plain_set_update_loop _]
    show wpAny _ A.in1 (pyNext (.ref I) >>= _) _ _ s
    refine wpAny_bind (W.done s _ _ hst fun s' hm => ?_)
    show wpAny _ A.in1 (ret Value.none) _ _ s'
    have hk' := kept hm hk
    rw [hn, List.take_length] at g
    exact wpAny_pure (hR s' L (hm.mono wider) (hS.up (fun o e => hm.heap S o outW e) fun p hp => key_up (keys p (g.sub p hp)) hk') g hk')
  | succ m ih =>
    intro i s him hst hk ⟨L, hS, g⟩ hR
    refine codeAny_builtin F.entry_set_update_loop ?_
    rw [Around.under_plainId F.plain_set_update_loop _]
    show wpAny _ A.in1 (pyNext (.ref I) >>= _) _ _ s
    refine wpAny_bind (W.item i s _ _ (by omega) hst fun v s' hv hst' hm => ?_)
    obtain ⟨p, hp, rfl⟩ := vals i v hv
    have hk' := kept hm hk
    obtain ⟨o, es, ep, t, S1⟩ := hS.up (h' := s'.heap) (fun o e => hm.heap S o outW e) fun z hz => key_up (keys z (List.mem_of_mem_take (g.sub z hz))) hk'
    have hx : kk.kd.is s'.heap p.2 p.1 := key_up (keys p (List.mem_of_getElem? hp)) hk'
    show wpAny _ A.in1 (holding [Value.ref p.1] (setAdd S (.ref p.1)) >>= _) _ _ s'
    refine wpAny_bind (wpAny_holding ?_)
    unfold setAdd
    refine wpAny_holding (wpAny_bind (kk.kd.pyHash hr hx ?_))
    have gl := g.len
    rw [List.length_take] at gl
    refine add (s := { s' with toks := s'.toks + kk.kd.draws p.2 }) S1 hx hr (by omega) fun b h' L' o' es' ep' t' sb S2 ch => ?_
    have g2 : Came (ks.take (i + 1)) L' := by
      rw [List.take_succ, hp]
      exact g.snoc ch
    have hk2 : ∀ b o, h0.get? b = some o → h'.get? b = some o := fun b o e => (sb.2 b (fun z => by rw [z, noS] at e; cases e)).trans (hk' b o e)
    refine wpAny_pure ⟨plainId_quiet F.plain_set_update_loop _, ih (i + 1) _ (by omega) (W.frame _ s' _ _ hst' (Nat.le_add_right _ _) fun b hb o e => ?_) hk2 ⟨L', ⟨_, _, _, _, S2⟩, g2⟩ fun s'' L2 hm2 S3 g3 hk3 => ?_⟩
    · exact (sb.2 b (fun z => out (z ▸ hb))).trans e
    · refine hR s'' L2 (Moved.trans W.gtrans ((hm.mono wider).then_heap (Nat.le_add_right _ _) fun b o hb e => ?_) hm2) S3 g3 hk3
      exact (sb.2 b (fun z => hb (z ▸ List.mem_cons_self))).trans e

set_option maxHeartbeats 3200000 in
theorem set_list {l : Addr} {items : Array Value} (ks : List (Addr × K)) {Q : Value → Shared → Prop} (hh : A.handled = none) (hl : s.heap.IsList l items) (hit : items.toList = ks.map fun p => Value.ref p.1)
    (keys : ∀ p ∈ ks, kk.kd.is s.heap p.2 p.1) (few : ks.length < 64) (hr : ∀ A', A'.units ≤ A.units + 8 → kk.kd.room A')
    (h : ∀ (h' : Heap) (tk : Nat) L, IsSet kk h' s.heap.objs.size L → Came ks L → (∀ b o, s.heap.get? b = some o → h'.get? b = some o) → Q (.ref s.heap.objs.size) { s with heap := h', toks := tk }) :
    wpAny (model P w) A (call (.type "set") [.ref l]) Q E s := by
  have isz : items.size = ks.length := by rw [← Array.length_toList, hit, List.length_map]
  obtain ⟨c0, tl0, hmro⟩ := F.called_set.mro
  have k1 := F.called_set.made
  have k2 := F.called_set.sub
  refine wpAny_call (codeAny_of_tree ?_)
  show wpAny _ _ (callAny (.type "set") _) _ _ _
  refine wpAny_pure ⟨Code.quiet_builtin _ (by decide +kernel), codeAny_builtin F.entry_type_call ?_⟩
  rw [Around.under_plain (weight_type_call_type "set" [.ref l] []) rfl]
  have k3 := F.called_set.notType
  have k4 := F.called_set.canCreate
  have k5 := F.typeCall_set_1 (.ref l)
  repeat (any_goals (first | assumption | wp_step))
  refine codeAny_mono (code_set_led1 (.ref l) (E := E) (Q₁ := fun obj s₁ => obj = .ref s.heap.objs.size ∧ s₁ = { s with heap := Rs.withSet w s.heap }) ⟨rfl, rfl⟩) fun r s₁ hr' => ?_
  match r, hr' with
  | .error e, hr' => exact hr'
  | .ok (.next), hr' => exact hr'.elim
  | .ok (.brk), hr' => exact hr'.elim
  | .ok (.cont), hr' => exact hr'.elim
  | .ok (.ret obj), hr' =>
    obtain ⟨rfl, rfl⟩ := hr'
    have atS : (Rs.withSet w s.heap).get? s.heap.objs.size = some { cls := .type "set", dict := none, data := .set #[] 0 (.fresh 0 0 (!w.params.followText "set-order")) } := Heap.get?_push_size _ rfl
    have tyS : Shared.TypeIs { s with heap := Rs.withSet w s.heap } (.ref s.heap.objs.size) "set" := ⟨_, atS, rfl⟩
    have k6 := F.called_set.init.lookup
    have k7 := F.called_set.init.bind (.ref s.heap.objs.size)
    repeat (any_goals (first | assumption | wp_step))
    refine codeAny_mono (codeAny_call_builtin (R := wants (fun r s₂ => r = .none ∧ ∃ h' tk L, s₂ = { s with heap := h', toks := tk } ∧ IsSet kk h' s.heap.objs.size L ∧ Came ks L ∧
        (∀ b o, s.heap.get? b = some o → h'.get? b = some o)) E) F.called_set.init.plain F.entry_set_init (check_set_init_1 tyS ?_)) fun r₂ s₂ hr₂ => ?_
    · obtain ⟨⟨oc, od, odt, osl⟩, hol, hcl, nl, hdl⟩ := hl
      obtain rfl : oc = .type "list" := hcl
      obtain rfl : odt = .seq items nl := hdl
      have up1 : ∀ b o, s.heap.get? b = some o → (Rs.withSet w s.heap).get? b = some o := fun b o e => Heap.get?_push_of_some _ e
      have hol' := up1 _ _ hol
      have k8 := F.sub_list_set
      have k9 := F.sub_list_frozenset
      have k10 : (Value.type "list" == Value.type "dict") = false := by decide
      have isL : (Rs.withSet w s.heap).IsList l items := ⟨_, hol', rfl, nl, rfl⟩
      have sz1 : (Rs.withSet w s.heap).objs.size = s.heap.objs.size + 1 := Heap.size_push ..
      unfold Builtin.«set.__init__» noKeywords Builtin.Frozenset.updateFrom
      generalize hPI : pyIter = PI
      wp_walk
      subst hPI
      refine wpAny_pyIter_list isL ?_
      refine wpAny_bind (wpAny_runValue ?_)
      have lS : l < s.heap.objs.size := Heap.lt_size hol
      have hh3 : A.in1.in1.in1.handled = none := hh
      have neI : l ≠ (Rs.withSet w s.heap).objs.size := by rw [sz1]; exact Nat.ne_of_lt (Nat.lt_succ_of_lt lS)
      have nfp : s.heap.objs.size ∉ [(Rs.withSet w s.heap).objs.size, l] := by
        rw [sz1]
        simp only [List.mem_cons, List.not_mem_nil, or_false, not_or]
        exact ⟨Nat.ne_of_lt (Nat.lt_succ_self _), Nat.ne_of_gt lS⟩
      have vals : ∀ (i : Nat) (v : Value), items[i]? = some v → ∃ p, ks[i]? = some p ∧ v = .ref p.1 := fun i v hv => by
        rw [← Array.getElem?_toList, hit, List.getElem?_map] at hv
        obtain ⟨p, hp, e⟩ := Option.map_eq_some_iff.mp hv
        exact ⟨p, hp, e.symm⟩
      have gone : ∀ b, s.heap.objs.size ≤ b → s.heap.get? b = none := fun b hb => by
        cases q : s.heap.get? b with
        | none => rfl
        | some o => exact absurd (Nat.lt_of_lt_of_le (Heap.lt_size q) hb) (Nat.lt_irrefl _)
      refine loop ((Walks.list hh3 _ l neI items).toS) s.heap.objs.size nfp ks isz few vals s.heap keys (gone _ (Nat.le_refl _)) (fun b hb => gone b ?_) (hr _ ?_) items.size 0 _ (Nat.zero_add _)
        ⟨⟨_, Heap.get?_push_size _ rfl, rfl, rfl⟩, (isL.push _)⟩ (fun b o e => Heap.get?_push_of_some _ (up1 b o e)) ?S0 ?S1
      · rw [List.mem_singleton.mp hb, sz1]; exact Nat.le_succ _
      · simp only [Around.in1_units]; omega
      case S0 => exact ⟨[], isSet_new (Heap.get?_push_of_some _ atS), ⟨fun p hp => (nomatch hp), fun k => (by simp), Nat.zero_le _⟩⟩
      case S1 =>
        intro s' L hm S1 g hk
        obtain ⟨h', g2, d', tk', os'⟩ := s'
        obtain rfl : g2 = s.gens := hm.gens
        obtain rfl : d' = s.drawn := hm.drawn
        obtain rfl : os' = s.os := hm.os
        show wpAny _ _ _ _ _ _
        refine wpAny_pure ?_
        show wpAny _ _ (ret Value.none) _ _ _
        exact wpAny_pure ⟨rfl, h', tk', L, rfl, S1, g, hk⟩
    · match r₂, hr₂ with
      | .error e, hr₂ => exact hr₂
      | .ok (.next), hr₂ => exact hr₂.elim
      | .ok (.brk), hr₂ => exact hr₂.elim
      | .ok (.cont), hr₂ => exact hr₂.elim
      | .ok (.ret r), hr₂ =>
        obtain ⟨rfl, h', tk, L, rfl, S1, g, hk⟩ := hr₂
        repeat (any_goals (first | assumption | wp_step))
        exact h _ _ _ S1 g hk
end
end
end Sn

/-! Sn3: keys that are whole numbers, truths, None and tuples of such, nested. -/
namespace Sn
open PySem PySem.Spec PyProof.Rows L2
variable [Rs.Tabz]
mutual
/-- no text within -/
def calm : NestedKey → Bool
  | .none => true
  | .num _ => true
  | .text _ => false
  | .tup ks => calmAll ks
def calmAll : List NestedKey → Bool
  | [] => true
  | k :: ks => calm k && calmAll ks
end
section
variable {P : Program} {w : World}
def NoAt (P : Program) (w : World) (n : Nat) (s : Shared) (v : Value) : Prop := ∀ (A : Around) (E : Value → Shared → Prop) (Q : Bool → Shared → Prop), Q false s → wpAny (model P w) A (ofAClassStatement n v) Q E s
def ByAt (P : Program) (w : World) (n : Nat) (s : Shared) (v : Value) : Prop := ∀ (A : Around) (E : Value → Shared → Prop) (Q : Bool → Shared → Prop), Q true s → wpAny (model P w) A (hashByValue n v) Q E s
theorem noAt_val {n : Nat} {s : Shared} {v : Value} (h : ofAClassStatement n v = pure false) : NoAt P w n s v := fun A E Q q => by
  rw [h]; exact wpAny_pure q
theorem byAt_val {n : Nat} {s : Shared} {v : Value} (h : hashByValue n v = pure true) : ByAt P w n s v := fun A E Q q => by
  rw [h]; exact wpAny_pure q
theorem noAt_tup {n m : Nat} {s : Shared} {a : Addr} {o : Obj} {vs : Array Value} (ho : s.heap.get? a = some o) (hc : o.cls = .type "tuple") (hd : o.data = .seq vs m) (hv : ∀ v ∈ vs.toList, NoAt P w n s v) : NoAt P w (n + 1) s (.ref a) := fun A E Q q => by
  have ty : s.TypeIs (.ref a) "tuple" := ⟨o, ho, hc⟩
  have isT : (("tuple" : String) == "tuple") = true := by decide
  unfold ofAClassStatement
  refine wpAny_bind (wpAny_typeOf ty ?_)
  dsimp only
  simp only [isT, if_true, Bool.not_true, Bool.false_eq_true, if_false]
  try refine wpAny_bind (wpAny_pure ?_)
  try simp only [Bool.not_true, Bool.false_eq_true, if_false]
  show wpAny _ _ (seqItems? (.ref a) >>= _) _ _ s
  refine wpAny_bind (wpAny_seqItems ho hd ?_)
  dsimp only
  refine wpAny_bind ?_
  show wpAny _ _ (forIn vs _ _) _ _ s
  rw [← Array.forIn_toList]
  refine wpAny_forIn_list _ (fun left r s' => (r.1 = none ∧ s' = s) ∧ ∀ v ∈ left, NoAt P w n s v) _ (fun v left r s' H => ?_) (fun r s' H => ?_) _ _ ⟨⟨rfl, rfl⟩, hv⟩
  · obtain ⟨⟨h1, rfl⟩, h2⟩ := H
    refine wpAny_bind (h2 v List.mem_cons_self _ _ _ ?_)
    simp only [Bool.false_eq_true, if_false]
    exact wpAny_pure ⟨⟨rfl, rfl⟩, fun u hu => h2 u (List.mem_cons_of_mem _ hu)⟩
  · obtain ⟨r1, r2⟩ := r
    obtain ⟨⟨h1, rfl⟩, _⟩ := H
    simp only at h1
    subst h1
    exact wpAny_pure q
theorem byAt_tup {n m : Nat} {s : Shared} {a : Addr} {o : Obj} {vs : Array Value} (ho : s.heap.get? a = some o) (hc : o.cls = .type "tuple") (hd : o.data = .seq vs m) (hv : ∀ v ∈ vs.toList, ByAt P w n s v) : ByAt P w (n + 1) s (.ref a) := fun A E Q q => by
  have ty : s.TypeIs (.ref a) "tuple" := ⟨o, ho, hc⟩
  unfold hashByValue
  refine wpAny_bind (wpAny_specialOf ty F.slot_tuple_hash.lookup ?_)
  show wpAny _ _ (seqItems? (.ref a) >>= _) _ _ s
  refine wpAny_bind (wpAny_seqItems ho hd ?_)
  refine wpAny_bind ?_
  show wpAny _ _ (forIn vs _ _) _ _ s
  rw [← Array.forIn_toList]
  refine wpAny_forIn_list _ (fun left r s' => (r.1 = none ∧ s' = s) ∧ ∀ v ∈ left, ByAt P w n s v) _ (fun v left r s' H => ?_) (fun r s' H => ?_) _ _ ⟨⟨rfl, rfl⟩, hv⟩
  · obtain ⟨⟨h1, rfl⟩, h2⟩ := H
    refine wpAny_bind (h2 v List.mem_cons_self _ _ _ ?_)
    simp only [Bool.not_true, Bool.false_eq_true, if_false]
    exact wpAny_pure ⟨⟨rfl, rfl⟩, fun u hu => h2 u (List.mem_cons_of_mem _ hu)⟩
  · obtain ⟨r1, r2⟩ := r
    obtain ⟨⟨h1, rfl⟩, _⟩ := H
    simp only at h1
    subst h1
    exact wpAny_pure q
mutual
theorem no_key : ∀ (k : NestedKey) (v : Value) (n : Nat) (s : Shared), NestedIs s.heap k v → k.depth ≤ n → NoAt P w n s v
  | .none, _, n, s, x, _ => by cases x; exact noAt_val (by cases n <;> rfl)
  | .num i, _, n, s, x, _ => by cases x <;> exact noAt_val (by cases n <;> rfl)
  | .text y, _, n, s, x, _ => by cases x; exact noAt_val (by cases n <;> rfl)
  | .tup ks, _, 0, s, x, h => by simp [NestedKey.depth] at h
  | .tup ks, _, n + 1, s, x, h => by
    cases x with
    | tup h1 h2 h3 h4 =>
      simp only [NestedKey.depth] at h
      exact noAt_tup h1 h2 h3 (no_keys ks _ n s h4 (by omega))
theorem no_keys : ∀ (ks : List NestedKey) (vs : List Value) (n : Nat) (s : Shared), NestedAll s.heap ks vs → NestedKey.depthAll ks ≤ n → ∀ v ∈ vs, NoAt P w n s v
  | [], _, n, s, x, _, v, hv => by cases x; cases hv
  | k :: ks, _, n, s, x, h, v, hv => by
    simp only [NestedKey.depthAll] at h
    cases x with
    | cons x1 x2 =>
      rcases List.mem_cons.mp hv with rfl | hv
      · exact no_key k _ n s x1 (by omega)
      · exact no_keys ks _ n s x2 (by omega) v hv
end
mutual
theorem by_key : ∀ (k : NestedKey) (v : Value) (n : Nat) (s : Shared), NestedIs s.heap k v → k.depth ≤ n → calm k = true → ByAt P w n s v
  | .none, _, n, s, x, _, _ => by cases x; exact byAt_val (by cases n <;> rfl)
  | .num i, _, n, s, x, _, _ => by cases x <;> exact byAt_val (by cases n <;> rfl)
  | .text y, _, n, s, x, _, hc => by cases hc
  | .tup ks, _, 0, s, x, h, _ => by simp [NestedKey.depth] at h
  | .tup ks, _, n + 1, s, x, h, hc => by
    cases x with
    | tup h1 h2 h3 h4 =>
      simp only [NestedKey.depth] at h
      exact byAt_tup h1 h2 h3 (by_keys ks _ n s h4 (by omega) hc)
theorem by_keys : ∀ (ks : List NestedKey) (vs : List Value) (n : Nat) (s : Shared), NestedAll s.heap ks vs → NestedKey.depthAll ks ≤ n → calmAll ks = true → ∀ v ∈ vs, ByAt P w n s v
  | [], _, n, s, x, _, _, v, hv => by cases x; cases hv
  | k :: ks, _, n, s, x, h, hc, v, hv => by
    simp only [NestedKey.depthAll] at h
    simp only [calmAll, Bool.and_eq_true] at hc
    cases x with
    | cons x1 x2 =>
      rcases List.mem_cons.mp hv with rfl | hv
      · exact by_key k _ n s x1 (by omega) hc.1
      · exact by_keys ks _ n s x2 (by omega) hc.2 v hv
end
/-- the kind of keys of which sets are made here -/
def nk (P : Program) (w : World) : SKind P w NestedKey where
  kd := { nestedKind P w with
    is := fun h k a => (nestedKind P w).is h k a ∧ calm k = true
    inj := fun hx hy => (nestedKind P w).inj hx.1 hy.1
    keeps := fun x ho hd hs => ⟨(nestedKind P w).keeps x.1 ho hd hs, x.2⟩
    pyHash := fun hu hk h => (nestedKind P w).pyHash hu hk.1 h
    eqBool := fun hu hx hy h => (nestedKind P w).eqBool hu hx.1 hy.1 h
    quiet := fun hk h => (nestedKind P w).quiet hk.1 h }
  noClass := fun {A E s k a Q} hk h => no_key k _ 8 s hk.1.1 hk.1.2 A E Q h
  byVal := fun {A E s k a Q} hk h => by_key k _ 8 s hk.1.1 hk.1.2 hk.2 A E Q h
  stay := fun {h h' k a} hk up => ⟨⟨NestedIs.at up k _ hk.1.1, hk.1.2⟩, hk.2⟩
end
/-! a value that reads as the data of a key is this key -/
section
variable {X : Cx} {pins : List (Addr × Obj)} {σ : L2.St} {H : Hp} {s : Shared}
mutual
theorem nested_of (I : Inv X pins σ H s) : ∀ (k : NestedKey) (v : V) (u : Value), Dp X.K H v k.data → RelV v u → NestedIs s.heap k u
  | .none, _, _, h, r => by cases h; cases r; exact .none
  | .num i, _, _, h, r => by
    cases h
    obtain ⟨t, rfl⟩ := r
    exact .int i t
  | .text x, _, _, h, r => by
    cases h
    obtain ⟨t, rfl⟩ := r
    exact .text x t
  | .tup ks, _, u, h, r => by
    cases h with
    | @tup a xs ds hs ha =>
      obtain rfl : u = Value.ref a := r
      obtain ⟨its, rv, p, _⟩ := I.tuple hs
      obtain ⟨o, e, c, n, d⟩ := (show s.heap.IsTuple a its.toArray from p)
      exact .tup e c d (nesteds_of I ks xs its ha rv)
theorem nesteds_of (I : Inv X pins σ H s) : ∀ (ks : List NestedKey) (vs : List V) (us : List Value), DpAll X.K H vs (NestedKey.datas ks) → Vals vs us → NestedAll s.heap ks us
  | [], _, _, h, r => by cases h; cases r; exact .nil
  | k :: ks, _, _, h, r => by
    cases h with
    | cons h1 h2 =>
      cases r with
      | cons r1 r2 => exact .cons (nested_of I k _ _ h1 r1) (nesteds_of I ks _ _ h2 r2)
end
end
end Sn

/-! Sn4: sets of nested keys as things; set(a list), len. -/
namespace Sn
open PySem PySem.Spec PyProof.Rows L2 SlX StX Rs Ma
variable [Rs.Tabz]
abbrev Ad := Addr × NestedKey
/-- what a set is, told of its own object alone -/
def S0 (P : Program) (w : World) (L : List Ad) (a : Addr) (h : Heap) : Prop := ∃ o es ep t, h.get? a = some o ∧ o.ExactSet ∧ o.data = .set es ep t ∧ es.toList = L.map (row1 (nk P w)) ∧ TabOk t (L.map (hs (nk P w))) ∧ (L.map (·.2)).Nodup ∧ t.plain = true ∧
  (w.params.followText "set-order" = true ∨ t.led = true) ∧ L.length * 5 < t.mask * 3 ∧ L.length < 64
def setN (P : Program) (w : World) (L : List Ad) (a : Addr) : HO := .ext (S0 P w L a)
section
variable {P : Program} {w : World} {h : Heap} {H : Hp} {a : Addr} {L : List Ad}
theorem IsSet.s0 (R : IsSet (nk P w) h a L) : S0 P w L a h := by
  obtain ⟨o, es, ep, t, R⟩ := R
  exact ⟨o, es, ep, t, R.at', R.exact', R.data, R.rows, R.tab, R.nd, R.plain, R.led, R.room, R.few⟩
theorem setN_new (R : S0 P w L a h) : ObjOk P w H h a (setN P w L a) := by
  refine ⟨R, ?_, fun h1 h2 ⟨o, es, ep, t, q1, q⟩ st => ⟨o, es, ep, t, st o q1, q⟩⟩
  obtain ⟨o, es, ep, t, q1, _⟩ := R
  exact ⟨o, q1⟩
end
/-- a key that may be in a set -/
def Good (k : NestedKey) : Prop := (∃ ks, k = .tup ks) ∧ calm k = true ∧ k.depth ≤ 8
theorem addrs_of {h : Heap} : ∀ {ks : List NestedKey} {us : List Value}, NestedAll h ks us → (∀ k ∈ ks, ∃ l, k = .tup l) → ∃ bs : List Ad, us = bs.map (fun p => Value.ref p.1) ∧ bs.map (·.2) = ks ∧ ∀ p ∈ bs, NestedIs h p.2 (.ref p.1)
  | [], us, x, _ => by cases x; exact ⟨[], rfl, rfl, fun p hp => nomatch hp⟩
  | k :: ks, us, x, hk => by
    cases x with
    | @cons _ v _ vs x1 x2 =>
      obtain ⟨bs, e1, e2, e3⟩ := addrs_of x2 fun y hy => hk y (List.mem_cons_of_mem _ hy)
      obtain ⟨l, rfl⟩ := hk k List.mem_cons_self
      cases x1 with
      | @tup b o vs' n _ h1 h2 h3 h4 =>
        refine ⟨(b, .tup l) :: bs, by rw [List.map_cons, e1], by rw [List.map_cons, e2], fun p hp => ?_⟩
        rcases List.mem_cons.mp hp with rfl | hp
        · exact .tup h1 h2 h3 h4
        · exact e3 p hp
/-- the addresses stand where the keys stand -/
theorem addrs_ix {bs : List Ad} {xs : List V} {us : List Value} (rv : Vals xs us) (e : us = bs.map fun p => Value.ref p.1) : ∀ p ∈ bs, ∃ i : Nat, xs[i]? = some (V.ref p.1) ∧ (bs.map (·.2))[i]? = some p.2 := fun p hp => by
  obtain ⟨i, hi⟩ := List.mem_iff_getElem?.mp hp
  refine ⟨i, ?_, by rw [List.getElem?_map, hi]; rfl⟩
  have hu : us[i]? = some (Value.ref p.1) := by rw [e, List.getElem?_map, hi]; rfl
  cases hx : xs[i]? with
  | none =>
    rw [Vals.none_of rv hx] at hu
    cases hu
  | some x =>
    obtain ⟨u, h1, h2⟩ := Vals.get rv hx
    rw [hu] at h1
    cases h1
    rw [RelV.inj h2 (show RelV (.ref p.1) (Value.ref p.1) from rfl)]
/-- set(a list of keys) -/
def rSetK (K : PySem.W.Frag) (P : Program) (w : World) : List V → Hp → VK → Prop := fun vs H Q => ∃ (a : Addr) (xs : List V) (ks : List NestedKey), vs = [.ref a] ∧ SqL K H a xs ∧ DpAll K H xs (NestedKey.datas ks) ∧ (∀ k ∈ ks, Good k) ∧ ks.length < 64 ∧
  ∀ p L, (L.map (·.2)).Nodup → (∀ k, k ∈ L.map (·.2) ↔ k ∈ ks) → (∀ z ∈ L, ∃ i : Nat, xs[i]? = some (V.ref z.1) ∧ ks[i]? = some z.2) → H p = none → Q (.ref p) (upd H p (setN P w L p))
def rLenK (P : Program) (w : World) : List V → Hp → VK → Prop := fun vs H Q => ∃ (a : Addr) (L : List Ad), vs = [.ref a] ∧ H a = some (setN P w L a) ∧ Q (.int (L.length : Int)) H
section
variable {X : Cx}
theorem cr_setK (hc : X.calm = true) (hu : X.A.units + 64 < cLine) : CallR X (.type "set") (rSetK X.K X.prog X.w) := by
  intro pins s σ H vs us Q I r h
  obtain ⟨a, xs, ks, rfl, hs, hd, hg, hl, q⟩ := h
  rw [Vals.ref1 r]
  obtain ⟨its, rv, ⟨o, n, e, c, d, hdat⟩, _⟩ := I.list hs
  obtain ⟨bs, e1, e2, e3⟩ := addrs_of (nesteds_of I ks xs its hd rv) fun k hk => (hg k hk).1
  have gd : ∀ p ∈ bs, Good p.2 := fun p hp => hg _ (by rw [← e2]; exact List.mem_map.mpr ⟨p, hp, rfl⟩)
  refine set_list (kk := nk X.prog X.w) bs (I.ok.hd hc) ⟨o, e, c, n, hdat⟩ (by simpa using e1) (fun p hp => ⟨⟨e3 p hp, (gd p hp).2.2⟩, (gd p hp).2.1⟩) (by rw [← List.length_map (f := (·.2)), e2]; exact hl) (fun A' hA => ?_) fun h' tk L hS hC hk => ?_
  · show A'.units + 8 < cLine
    omega
  · obtain ⟨_, _, _, _, S⟩ := id hS
    exact ⟨.ref _, _, I.laid (t' := tk) hk (Nat.le_refl _) (setN_new hS.s0), rfl, q _ L S.nd (fun k => by rw [hC.iff k, e2]) (fun z hz => by rw [← e2]; exact addrs_ix rv e1 z (hC.sub z hz)) (I.hok.fresh (Nat.le_refl _))⟩
theorem call_lenK : CallR X (.builtin "len") (rLenK X.prog X.w) := by
  intro pins s σ H xs us Q I r h
  obtain ⟨a, L, rfl, ha, q⟩ := h
  rw [Vals.ref1 r]
  obtain ⟨⟨o, es, ep, t, h1, h2, h3, h4, h5, h6, h7, h8, h9, h10⟩, _⟩ := I.hok a _ ha
  have hsz := rows_len h4
  have fit : t.fits es.size = true := fits_of (by rw [h5.sz, List.length_map, hsz]) h5.dm (by rw [hsz]; omega)
  refine call_len_set h1 h2 h3 fit (by omega) ?_
  rw [hsz]
  exact ⟨.int L.length, H, I.tok _, ⟨_, rfl⟩, q⟩
variable {e : Expr} {es : List Expr} {t : TA} {p pos : Pos}
theorem p_setNK (K : PySem.W.Frag) (P : Program) (w : World) (hc : X.calm = true) (hu : X.A.units + 64 < cLine) (B : Bf X.mg) (ha : PA X (e :: es) t) (hg : Gl X "set" := by rfl) (he : starEach (e :: es) X.env = (false, eval e X.env) :: starEach es X.env := by rfl) (hpl : (backTo pos (starEach es X.env)).any (·.1) = false := by rfl) (hK : X.K = K := by rfl) (hP : X.prog = P := by rfl) (hw : X.w = w := by rfl) :
    PE X (.Call (.Name "set" p) (e :: es) [] pos) (tCB (rSetK K P w) t) := by
  subst hK; subst hP; subst hw
  exact pe_callTy (cr_setK hc hu) hg B.set PyProof.Rows.boot_set ha (by decide) (by decide) he hpl
theorem p_lenNK (P : Program) (w : World) (B : Bf X.mg) (ha : PA X (e :: es) t) (hg : Gl X "len" := by rfl) (he : starEach (e :: es) X.env = (false, eval e X.env) :: starEach es X.env := by rfl) (hpl : (backTo pos (starEach es X.env)).any (·.1) = false := by rfl) (hP : X.prog = P := by rfl) (hw : X.w = w := by rfl) :
    PE X (.Call (.Name "len" p) (e :: es) [] pos) (tCB (rLenK P w) t) := by
  subst hP; subst hw
  exact pe_callB call_lenK hg B.len PySem.boot_len ha (by decide) (by decide) he hpl
end
end Sn

/-! Sn5: sets of nested keys in plain terms. -/
namespace Tw
open PySem PySem.Spec PyProof.Rows L2 SlX StX Rs Ma Sn
variable [Rs.Tabz]
/-- data that are keys -/
class Keyd {α : Type} (d : α → PyData) (n : outParam Nat) where
  key : α → NestedKey
  ok : ∀ a, (key a).data = d a
  quiet : ∀ a, calm (key a) = true
  dep : ∀ a, (key a).depth ≤ n
  inj : ∀ a b, key a = key b → a = b
theorem key_map_inj {α : Type} {f : α → NestedKey} (h : ∀ a b, f a = f b → a = b) : ∀ {xs ys : List α}, xs.map f = ys.map f → xs = ys
  | [], [], _ => rfl
  | [], _ :: _, e => nomatch e
  | _ :: _, [], e => nomatch e
  | x :: xs, y :: ys, e => by
    rw [List.map_cons, List.map_cons] at e
    injection e with e1 e2
    rw [h _ _ e1, key_map_inj h e2]
theorem datas_map {α : Type} {f : α → NestedKey} {d : α → PyData} (h : ∀ a, (f a).data = d a) : ∀ xs : List α, NestedKey.datas (xs.map f) = xs.map d
  | [] => rfl
  | x :: xs => by rw [List.map_cons, List.map_cons, NestedKey.datas, h, datas_map h xs]
theorem calm_map {α : Type} {f : α → NestedKey} (h : ∀ a, calm (f a) = true) : ∀ xs : List α, calmAll (xs.map f) = true
  | [] => rfl
  | x :: xs => by rw [List.map_cons, calmAll, h, calm_map h xs]; rfl
theorem dep_map {α : Type} {f : α → NestedKey} {n : Nat} (h : ∀ a, (f a).depth ≤ n) : ∀ xs : List α, NestedKey.depthAll (xs.map f) ≤ n
  | [] => Nat.zero_le _
  | x :: xs => by
    rw [List.map_cons, NestedKey.depthAll]
    exact Nat.max_le.mpr ⟨h x, dep_map h xs⟩
instance : Keyd dN 0 := ⟨fun n => .num (n : Nat), fun _ => rfl, fun _ => rfl, fun _ => Nat.le_refl _, fun a b e => by injection e with e; omega⟩
instance : Keyd dInt 0 := ⟨fun n => .num n, fun _ => rfl, fun _ => rfl, fun _ => Nat.le_refl _, fun a b e => by injection e⟩
instance keydT {α : Type} {d : α → PyData} {n : Nat} [c : Keyd d n] : Keyd (dT d) (n + 1) := ⟨fun xs => .tup (xs.map c.key), fun xs => by rw [NestedKey.data, datas_map c.ok]; rfl, fun xs => by rw [calm]; exact calm_map c.quiet xs, fun xs => by
  rw [NestedKey.depth]
  exact Nat.succ_le_succ (dep_map c.dep xs), fun a b e => by injection e with e; exact key_map_inj c.inj e⟩
/-- each once -/
def dd {α : Type} [DecidableEq α] : List α → List α
  | [] => []
  | x :: xs => if x ∈ xs then dd xs else x :: dd xs
theorem mem_dd {α : Type} [DecidableEq α] {x : α} : ∀ {xs : List α}, x ∈ dd xs ↔ x ∈ xs
  | [] => Iff.rfl
  | y :: ys => by
    unfold dd
    split
    · rename_i h
      rw [mem_dd, List.mem_cons]
      exact ⟨.inr, fun z => z.elim (fun e => e ▸ h) id⟩
    · rw [List.mem_cons, List.mem_cons, mem_dd]
theorem nodup_dd {α : Type} [DecidableEq α] : ∀ {xs : List α}, (dd xs).Nodup
  | [] => List.nodup_nil
  | y :: ys => by
    unfold dd
    split
    · exact nodup_dd
    · rename_i h
      exact List.nodup_cons.mpr ⟨fun z => h (mem_dd.mp z), nodup_dd⟩
theorem dd_le {α : Type} [DecidableEq α] : ∀ xs : List α, (dd xs).length ≤ xs.length
  | [] => Nat.le_refl _
  | y :: ys => by
    unfold dd
    have := dd_le ys
    split
    · rw [List.length_cons]; omega
    · rw [List.length_cons, List.length_cons]; omega
theorem dd_len {α : Type} [DecidableEq α] : ∀ {xs : List α}, (dd xs).length = xs.length ↔ xs.Nodup
  | [] => ⟨fun _ => List.nodup_nil, fun _ => rfl⟩
  | y :: ys => by
    unfold dd
    have := dd_le ys
    rw [List.nodup_cons, ← dd_len (xs := ys)]
    split
    · rename_i h
      rw [List.length_cons]
      exact ⟨fun e => by omega, fun z => absurd h z.1⟩
    · rename_i h
      rw [List.length_cons, List.length_cons]
      exact ⟨fun e => ⟨h, by omega⟩, fun z => by omega⟩
/-- a set of such data -/
def fSK (K : PySem.W.Frag) (P : Program) (w : World) {α : Type} (d : α → PyData) {n : Nat} [c : Keyd d n] : List α → VP := fun xs v F => ∃ a L, v = .ref a ∧ F a = some (setN P w L a) ∧ (L.map (·.2)).Nodup ∧ (∀ k, k ∈ L.map (·.2) ↔ k ∈ xs.map c.key) ∧ ∀ z ∈ L, Dp K F (.ref z.1) z.2.data
instance {K : PySem.W.Frag} {P : Program} {w : World} {α : Type} {d : α → PyData} {n : Nat} [Keyd d n] {xs : List α} : Mono (fSK K P w d xs) := ⟨fun _ _ _ e ⟨a, L, h, h1, r1, r2, r3⟩ => ⟨a, L, h, e _ _ h1, r1, r2, fun z hz => dp_up e (r3 z hz)⟩⟩
section
variable {ε : Type} {K : PySem.W.Frag} {P : Program} {w : World} {α : Type} {d : α → PyData} {n : Nat}
theorem c_setK [c : Keyd d n] (hn : n ≤ 7 := by decide) : Cb ε (rSetK K P w) (fun xs => [fD K (dL (dT d)) xs]) (fun xs Q X => xs.length < 64 ∧ Q xs) (fSK K P w (dT d)) := .of fun xs vs F L hv Q X ⟨q0, q1⟩ => by
  obtain ⟨v, rfl, hx⟩ := each1 hv
  refine ⟨xs, q1, fun F2 N H e A Qk qk => ?_⟩
  have hx2 : Dt K (dL (dT d) xs) v F := hx
  cases hx2 with
  | @lst a ys ds hs ha =>
    refine ⟨a, ys, xs.map (keydT (c := c)).key, rfl, sqL_up (e.trans A.ex) hs, ?_, fun k hk => ?_, by rw [List.length_map]; exact q0, fun p M h1 h2 h3 hp => ?_⟩
    · rw [datas_map (keydT (c := c)).ok]
      exact dpA_up (e.trans A.ex) ha
    · obtain ⟨x, _, rfl⟩ := List.mem_map.mp hk
      exact ⟨⟨_, rfl⟩, (keydT (c := c)).quiet x, Nat.le_trans ((keydT (c := c)).dep x) (by omega)⟩
    · refine qk _ (upd F2 p _) _ (same_new (A.free hp)) (A.new hp) ⟨p, M, rfl, upd_same, h1, h2, fun z hz => ?_⟩
      obtain ⟨i, g1, g2⟩ := h3 z hz
      rw [List.getElem?_map] at g2
      obtain ⟨x, g3, g4⟩ := Option.map_eq_some_iff.mp g2
      have at' : ∀ (xs : List (List α)) (ys : List V) (i : Nat) (x : List α) (y : V), DpAll K F ys (xs.map (dT d)) → xs[i]? = some x → ys[i]? = some y → Dp K F y (dT d x) := by
        intro xs
        induction xs with
        | nil => intro ys i x y _ h; simp at h
        | cons a xs ih =>
          intro ys i x y hd hx hy
          cases hd with
          | cons d1 d2 =>
            cases i with
            | zero => simp at hx hy; subst hx hy; exact d1
            | succ i => exact ih _ i x y d2 (by simpa using hx) (by simpa using hy)
      have := at' xs ys i x (.ref z.1) ha g3 g1
      rw [← g4, (keydT (c := c)).ok]
      exact dp_up (e.trans (same_new (A.free hp))) this
theorem c_lenK [DecidableEq α] [c : Keyd d n] : Cb ε (rLenK P w) (fun xs => [fSK K P w d xs]) (fun xs => pur (dd xs).length) (fD K dN) := cb1p fun xs v F L hx => by
  obtain ⟨a, M, rfl, h1, h2, h3, _⟩ := hx
  refine r_cb (cv (R := Eqv (.ref a)) rfl) fun vs F1 e1 hv => ?_
  obtain ⟨u, rfl, hu⟩ := each1 hv
  cases hu
  refine fun F2 N H e A Q q => ⟨a, M, rfl, A.ex _ _ (e _ _ (e1 _ _ h1)), q _ F2 H (Same.refl _) A ?_⟩
  have pm : (M.map (·.2)).Perm ((dd xs).map c.key) := by
    refine (List.perm_ext_iff_of_nodup h2 ?_).mpr fun k => ?_
    · refine List.Pairwise.map _ (fun a b hne he => hne (c.inj _ _ he)) nodup_dd
    · rw [h3 k, List.mem_map, List.mem_map]
      exact ⟨fun ⟨x, hx, e⟩ => ⟨x, mem_dd.mpr hx, e⟩, fun ⟨x, hx, e⟩ => ⟨x, mem_dd.mp hx, e⟩⟩
  have e : M.length = (dd xs).length := by
    have := pm.length_eq
    rwa [List.length_map, List.length_map] at this
  rw [e]
  exact .int _
end
end Tw

/-! Sn6: dicts by nested keys: d[k], k in d, d[k] = v within comprehensions. -/
namespace Sn
open PySem PySem.Spec PyProof.Rows L2 SlX StX Rs Ma
variable [Rs.Tabz]
abbrev Ent := NestedKey × Addr × V
def EntR (p : Ent) (q : NestedKey × Addr × Value) : Prop := p.1 = q.1 ∧ p.2.1 = q.2.1 ∧ RelV p.2.2 q.2.2
/-- what a dict is, told of its own object alone -/
def D0 (P : Program) (w : World) (zs : List Ent) (D : Addr) (h : Heap) : Prop := (D == sysModules) = false ∧ zs.length ≤ 100000 ∧ ∃ ys : List (NestedKey × Addr × Value), Paired EntR zs ys ∧ ∃ o es ep, h.get? D = some o ∧ o.ExactDict ∧ o.data = .dict es ep ∧ es.toList = ys.map (entryOfKey (nestedKind P w)) ∧ (ys.map (·.1)).Nodup
def dictN (P : Program) (w : World) (zs : List Ent) (D : Addr) : HO := .ext (D0 P w zs D)
def atN (zs : List Ent) (k : NestedKey) : Option (Addr × V) := (zs.find? fun z => decide (z.1 = k)).map (·.2)
def putN (zs : List Ent) (k : NestedKey) (a : Addr) (v : V) : List Ent := if (atN zs k).isSome then zs.map (fun z => if z.1 = k then (z.1, z.2.1, v) else z) else zs ++ [(k, a, v)]
/-- a key is here -/
def KeyAt (K : PySem.W.Frag) (H : Hp) (k : NestedKey) (a : Addr) : Prop := Dp K H (.ref a) k.data ∧ k.depth ≤ 8
section
variable {P : Program} {w : World} {h h' : Heap} {H : Hp} {D : Addr} {zs : List Ent}
theorem d0_new (hb : sysModules < h.objs.size) : D0 P w [] h.objs.size (h.push { cls := .type "dict", data := .dict #[] }) :=
  ⟨beq_eq_false_iff_ne.mpr (Ne.symm (Nat.ne_of_lt hb)), Nat.zero_le _, [], .nil, _, #[], 0, Heap.get?_push_size _ rfl, ⟨rfl, rfl, rfl⟩, rfl, rfl, List.nodup_nil⟩
theorem dictN_new (R : D0 P w zs D h) : ObjOk P w H h D (dictN P w zs D) := by
  refine ⟨R, ?_, fun h1 h2 ⟨q0, q1, ys, q2, o, es, ep, q3, q⟩ st => ⟨q0, q1, ys, q2, o, es, ep, st o q3, q⟩⟩
  obtain ⟨_, _, _, _, o, _, _, q, _⟩ := R
  exact ⟨o, q⟩
theorem atN_rel : ∀ {zs : List Ent} {ys : List (NestedKey × Addr × Value)}, Paired EntR zs ys → ∀ k, (atN zs k = none ∧ atKey ys k = none) ∨ ∃ a v u, atN zs k = some (a, v) ∧ atKey ys k = some (a, u) ∧ RelV v u
  | _, _, .nil, k => .inl ⟨rfl, rfl⟩
  | _ :: zt, _ :: yt, .cons (a := z) (b := y) r t, k => by
    obtain ⟨e1, e2, e3⟩ := r
    by_cases hk : z.1 = k
    · refine .inr ⟨z.2.1, z.2.2, y.2.2, ?_, ?_, e3⟩
      · unfold atN; rw [List.find?_cons_of_pos (by simp [hk])]; rfl
      · unfold atKey; rw [List.find?_cons_of_pos (by simp [← e1, hk]), e2]; rfl
    · have n1 : atN (z :: zt) k = atN zt k := by unfold atN; rw [List.find?_cons_of_neg (by simp [hk])]
      have n2 : atKey (y :: yt) k = atKey yt k := by unfold atKey; rw [List.find?_cons_of_neg (by simp [← e1, hk])]
      rw [n1, n2]
      exact atN_rel t k
theorem paired_snoc {α β : Type} {R : α → β → Prop} {x : α} {y : β} (r : R x y) : ∀ {l1 : List α} {l2 : List β}, Paired R l1 l2 → Paired R (l1 ++ [x]) (l2 ++ [y])
  | _, _, .nil => .cons r .nil
  | _, _, .cons q t => .cons q (paired_snoc r t)
theorem set_rel {k : NestedKey} {v : V} {u : Value} (r : RelV v u) : ∀ {zs : List Ent} {ys : List (NestedKey × Addr × Value)}, Paired EntR zs ys → Paired EntR (zs.map (fun z => if z.1 = k then (z.1, z.2.1, v) else z)) (ys.map (putAt k u))
  | _, _, .nil => .nil
  | _, _, .cons (a := z) (b := y) q t => by
    refine .cons ?_ (set_rel r t)
    obtain ⟨e1, e2, e3⟩ := q
    show EntR (if z.1 = k then (z.1, z.2.1, v) else z) (putAt k u y)
    unfold putAt
    rw [← e1]
    split
    · exact ⟨rfl, e2, r⟩
    · exact ⟨e1, e2, e3⟩
theorem put_rel {k : NestedKey} {a : Addr} {v : V} {u : Value} {zs : List Ent} {ys : List (NestedKey × Addr × Value)} (hp : Paired EntR zs ys) (r : RelV v u) : Paired EntR (putN zs k a v) (storedH ys k a u) := by
  have both : ((atN zs k).isSome : Bool) = (atKey ys k).isSome := by
    rcases atN_rel hp k with ⟨e1, e2⟩ | ⟨a, v, u, e1, e2, _⟩
    · rw [e1, e2]; rfl
    · rw [e1, e2]; rfl
  unfold putN storedH
  rw [both]
  split
  · exact set_rel r hp
  · exact paired_snoc ⟨rfl, rfl, r⟩ hp
theorem putN_len {k : NestedKey} {a : Addr} {v : V} {zs : List Ent} : (putN zs k a v).length ≤ zs.length + 1 := by
  unfold putN
  split
  · rw [List.length_map]; omega
  · rw [List.length_append]; exact Nat.le_refl _
end
section
variable {X : Cx} {pins : List (Addr × Obj)} {σ : L2.St} {H : Hp} {s : Shared} {D a : Addr} {k : NestedKey} {zs : List Ent} {E : Value → Shared → Prop} {v : V} {u : Value}
theorem key_at (I : Inv X pins σ H s) (hk : KeyAt X.K H k a) : (nestedKind X.prog X.w).is s.heap k a := ⟨nested_of I k _ _ hk.1 rfl, hk.2⟩
theorem dict_at (I : Inv X pins σ H s) (hD : Rd H D (dictN X.prog X.w zs D)) (hz : ∀ z ∈ zs, KeyAt X.K H z.1 z.2.1) : (D == sysModules) = false ∧ zs.length ≤ 100000 ∧ ∃ ys, Paired EntR zs ys ∧ s.heap.DictOfH (nestedKind X.prog X.w) D ys := by
  obtain ⟨⟨q0, q1, ys, q2, o, es, ep, q3, q4, q5, q6, q7⟩, _⟩ := hD.ok I.hok
  refine ⟨q0, q1, ys, q2, o, es, ep, q3, q4, q5, q6, fun y hy => ?_, q7⟩
  have all : ∀ {zs : List Ent} {ys : List (NestedKey × Addr × Value)}, Paired EntR zs ys → (∀ z ∈ zs, KeyAt X.K H z.1 z.2.1) → ∀ y ∈ ys, (nestedKind X.prog X.w).is s.heap y.1 y.2.1 := by
    intro zs ys hp
    induction hp with
    | nil => intro _ y hy; cases hy
    | @cons z y _ _ r t ih =>
      intro hz y' hy
      rcases List.mem_cons.mp hy with rfl | hy
      · rw [← r.1, ← r.2.1]
        exact key_at I (hz z List.mem_cons_self)
      · exact ih (fun z hz' => hz z (List.mem_cons_of_mem _ hz')) y' hy
  exact all q2 hz y hy
/-- k in d -/
def rInK (K : PySem.W.Frag) (P : Program) (w : World) (neg : Bool) : R2 := fun x y H Q => ∃ a D zs k, x = .ref a ∧ y = .ref D ∧ Rd H D (dictN P w zs D) ∧ (∀ z ∈ zs, KeyAt K H z.1 z.2.1) ∧ KeyAt K H k a ∧ Q (.bl (neg != (atN zs k).isSome)) H
/-- d[k], k being there -/
def rIxK (K : PySem.W.Frag) (P : Program) (w : World) : R2 := fun x y H Q => ∃ a D zs k b v, x = .ref D ∧ y = .ref a ∧ Rd H D (dictN P w zs D) ∧ (∀ z ∈ zs, KeyAt K H z.1 z.2.1) ∧ KeyAt K H k a ∧ atN zs k = some (b, v) ∧ Q v H
theorem op_inK (hu : X.A.units + 64 < cLine) : OpR X (compareOp .In) (rInK X.K X.prog X.w false) := by
  intro pins s σ H x y v u Q I rx ry ⟨a, D, zs, k, ex, ey, hD, hz, hk, q⟩
  subst ex ey
  obtain rfl : v = Value.ref a := rx
  obtain rfl : u = Value.ref D := ry
  obtain ⟨q0, _, ys, rel, dd⟩ := dict_at I hD hz
  refine wpAny_in_heap (show X.A.in1.units + 8 < cLine by rw [Around.in1_units]; omega) (key_at I hk) q0 dd ?_
  have e : (atKey ys k).isSome = (atN zs k).isSome := by
    rcases atN_rel rel k with ⟨e1, e2⟩ | ⟨a, v, u, e1, e2, _⟩
    · rw [e1, e2]; rfl
    · rw [e1, e2]; rfl
  rw [e]
  exact ⟨.bl _, H, I.tok _, rfl, by simpa using q⟩
theorem op_notInK (hu : X.A.units + 64 < cLine) : OpR X (compareOp .NotIn) (rInK X.K X.prog X.w true) := by
  intro pins s σ H x y v u Q I rx ry ⟨a, D, zs, k, ex, ey, hD, hz, hk, q⟩
  subst ex ey
  obtain rfl : v = Value.ref a := rx
  obtain rfl : u = Value.ref D := ry
  obtain ⟨q0, _, ys, rel, dd⟩ := dict_at I hD hz
  refine notIn_keyed (show X.A.in1.units + 8 < cLine by rw [Around.in1_units]; omega) (key_at I hk) q0 ⟨ys, dd, rfl⟩ ?_
  have e : (valueAt (pairsH ys) k).isSome = (atN zs k).isSome := by
    rw [valueAt_pairsH, Option.isSome_map]
    rcases atN_rel rel k with ⟨e1, e2⟩ | ⟨a, v, u, e1, e2, _⟩
    · rw [e1, e2]; rfl
    · rw [e1, e2]; rfl
  rw [e]
  exact ⟨.bl _, H, I.tok _, rfl, by simpa using q⟩
theorem p_ixNK {o i : Expr} {td ty : TE} {pos : Pos} (K : PySem.W.Frag) (P : Program) (w : World) (hu : X.A.units + 64 < cLine) (ho : PE X o td) (hi : PE X i ty) (hs : NoSl i) (hK : X.K = K := by rfl) (hP : X.prog = P := by rfl) (hw : X.w = w := by rfl) : PE X (.Subscript o i pos) (tOp (rIxK K P w) td ty) := by
  subst hK; subst hP; subst hw
  refine ⟨fun pins s σ H Q I h => ?_⟩
  refine subD_of PySem.F.slot_dict_getitem.lookup hs (thn (ho.run pins s σ H _ I h) fun u s1 ⟨x, H1, I1, rx, q1⟩ => thn (hi.run pins s1 σ H1 _ I1 q1) fun iv s2 ⟨y, H2, I2, ry, q2⟩ => ?_)
  obtain ⟨a, D, zs, k, b, v, ex, ey, hD, hz, hk, hv, q⟩ := q2
  subst ex ey
  obtain rfl : u = Value.ref D := rx
  obtain rfl : iv = Value.ref a := ry
  obtain ⟨_, _, ys, rel, dd⟩ := dict_at I2 hD hz
  refine ⟨dd.typeIs, ?_⟩
  rcases atN_rel rel k with ⟨e1, _⟩ | ⟨a', v', u', e1, e2, r⟩
  · rw [e1] at hv; cases hv
  · rw [e1] at hv
    cases hv
    exact wpAny_getItem_heap (show X.A.in1.units + 8 < cLine by rw [Around.in1_units]; omega) (key_at I2 hk) dd e2 ⟨v, H2, I2.tok _, r, q⟩
/-- d[k] = v by a comprehension -/
theorem dset {Q : Unit → Shared → Prop} {A : Around} (hu : A.units + 64 < cLine) (I : Inv X pins σ H s) (hD : H D = some (dictN X.prog X.w zs D)) (hz : ∀ z ∈ zs, KeyAt X.K H z.1 z.2.1) (hk : KeyAt X.K H k a) (r : RelV v u) (hl : zs.length < 100000)
    (h : ∀ s', Inv X pins σ (upd H D (dictN X.prog X.w (putN zs k a v) D)) s' → Q () s') : wpAny (model X.prog X.w) A (dictSet D (.ref a) u) Q E s := by
  obtain ⟨q0, _, ys, rel, dd⟩ := dict_at I (.inl hD) hz
  have hyl : ys.length ≤ sizeLine := by rw [← rel.length, sizeLine_eq]; omega
  refine wpAny_dictSet_heap (show A.units + 8 < cLine by omega) (key_at I hk) dd (fun h' dd' sb => h _ ?_) hyl
  obtain ⟨o, es, ep, g1, g2, g3, g4, _, g6⟩ := dd'
  refine d_write I (by rw [hD]; exact True.intro) sb ⟨o, g1⟩ (dictN_new ⟨q0, ?_, _, put_rel rel r, o, es, ep, g1, g2, g3, g4, g6⟩)
  have := putN_len (k := k) (a := a) (v := v) (zs := zs)
  omega
end
end Sn

/-! Sn7: {k: v for ..} with nested keys. -/
namespace Sn
open PySem PySem.Spec PyProof.Rows L2 SlX StX Rs Ma
variable [Rs.Tabz]
/-- what a turn of such a comprehension needs and leaves -/
def Turn (K : PySem.W.Frag) (P : Program) (w : World) (tt : TT) (tk tv : TE) (D : Addr) (Nx : Hp → Prop) : L2.St → Hp → Prop := fun τ H2 => tt τ H2 fun b H3 =>
  if b = true then tk τ H3 fun y H4 => tv τ H4 fun z H5 => ∃ a zs k, y = .ref a ∧ H5 D = some (dictN P w zs D) ∧ (∀ e ∈ zs, KeyAt K H5 e.1 e.2.1) ∧ KeyAt K H5 k a ∧ zs.length < 100000 ∧ Nx (upd H5 D (dictN P w (putN zs k a z) D)) else Nx H3
def tDcK (K : PySem.W.Frag) (P : Program) (w : World) (wi : TI) (g : TG) (tt : TT) (tk tv : TE) (vs : List Nat) : TE := fun σ H Q => wi σ H fun J H1 => ∀ D, H1 D = none → ∃ W : Nat → Nat → Hp → Prop, (∃ m, W 0 m (upd H1 D (dictN P w [] D))) ∧ ∀ i m H, W i m H →
  (J.stop i H ∧ Q (.ref D) H) ∨ (J.go i H ∧ ∃ Nx : Hp → Prop, (∀ H', Nx H' → ∃ m', m' < m ∧ W (i + 1) m' H') ∧ ∀ x H', J.yld i H x H' → g x (wipe σ vs) H' fun τ H2 => wipe τ vs = wipe σ vs ∧ Turn K P w tt tk tv D Nx τ H2)
section
variable {X : Cx}
theorem pe_dcK {kx vx tg iter : Expr} {ifs : List Expr} {scope : Scope} {own : List (Str × Nat)} {pos : Pos} {wi : TI} {g : TG} {tt : TT} {tk tv : TE} (calm' : X.calm = true) (hu : X.A.units + 64 < cLine) (hN : X.N.Nodup) (pi : PI X tg iter wi) (blk : BlkOk X.N X.env.scope scope own)
    (pg : ∀ (s : Shared) (H : Hp) (C : Addr) (cl : List (Str × Addr)) (fp : List Addr), PG (X.blk s H scope (compEnvC scope cl C X.env) fp) tg g) (pt : ∀ (s : Shared) (H : Hp) (C : Addr) (cl : List (Str × Addr)) (fp : List Addr), PTs (X.blk s H scope (compEnvC scope cl C X.env) fp) ifs tt)
    (pk : ∀ (s : Shared) (H : Hp) (C : Addr) (cl : List (Str × Addr)) (fp : List Addr), PE (X.blk s H scope (compEnvC scope cl C X.env) fp) kx tk)
    (pv : ∀ (s : Shared) (H : Hp) (C : Addr) (cl : List (Str × Addr)) (fp : List Addr), PE (X.blk s H scope (compEnvC scope cl C X.env) fp) vx tv) (nofold : ∀ x, foldedSetIterable iter X.env x = pure x := by intro _; rfl) :
    PE X (.DictComp kx vx [⟨tg, iter, ifs, 0⟩] scope pos) (tDcK X.K X.prog X.w wi g tt tk tv (own.map (·.2))) := by
  refine ⟨fun pins s σ H Q I h => ?_⟩
  rw [arm_eval_DictComp]
  have caught : ∀ y ∈ scope.names, y.2 = .free → ∃ c, X.env.cells.lookup y.1 = some c := fun y hy e => (blk.free y hy e).elim (fun k => I.ok.has _ (.inl k)) fun k => I.ok.has _ (.inr k)
  refine wpAny_comprehension_free (use := none) rfl nofold (closure_ok caught) blk.kind (fun y hy e => by rw [blk.uniq y hy, e]) (thn (pi.run pins s σ H _ I h) fun xv s1 hx => thn hx fun itv s2 h2 => ?_)
  obtain ⟨it, fp, tn, J, H2, rfl, I2, T, st2, fresh, body⟩ := h2
  refine wpAny_newObj_type (newEnv_comp ?_)
  -- the new dict at D
  obtain ⟨D, hD⟩ : ∃ D, D = s2.heap.objs.size := ⟨_, rfl⟩
  rw [← hD]
  have hn : H2 D = none := I2.hok.fresh (Nat.le_of_eq hD.symm)
  obtain ⟨W, ⟨m0, w0⟩, turns⟩ := body D hn
  obtain ⟨s3, hs3⟩ : ∃ s3 : Shared, s3 = { s2 with heap := s2.heap.push { cls := .type "dict", data := .dict #[] } } := ⟨_, rfl⟩
  rw [← hs3]
  have heap3 : s3.heap = s2.heap.push { cls := .type "dict", data := .dict #[] } := by rw [hs3]
  have I3 : Inv X pins σ (upd H2 D (dictN X.prog X.w [] D)) s3 := by
    rw [hs3]
    refine I2.laid (t' := s2.toks) (fun b o e => Heap.get?_push_of_some _ e) (Nat.le_of_eq hD.symm) ?_
    rw [hD]
    exact dictN_new (d0_new I2.big)
  obtain ⟨H3, hH3⟩ : ∃ H3, H3 = upd H2 D (dictN X.prog X.w [] D) := ⟨_, rfl⟩
  rw [← hH3] at I3 w0
  have below : ∀ b ∈ fp, b < s2.heap.objs.size := fun b hb => by
    obtain ⟨o, e, _⟩ := T.obj _ _ st2 b hb
    exact Heap.lt_size e
  have fp3 : ∀ b ∈ fp, FpOk X pins H3 b ∧ b < s3.heap.objs.size := fun b hb => by
    have lt := below b hb
    refine ⟨⟨?_, (fresh b hb).2⟩, by rw [heap3, Heap.size_push]; exact Nat.lt_succ_of_lt lt⟩
    rw [hH3, upd_ne (by rw [hD]; exact Nat.ne_of_lt lt)]
    exact (fresh b hb).1
  have st3 : tn 0 s3.heap := T.keep _ _ _ st2 fun b _ o e => by rw [heap3]; exact Heap.get?_push_of_some _ e
  have I4 := block_start I3 blk hN fp3
  have pg := pg s3 H3 s3.heap.objs.size (cellsFrom (s3.heap.objs.size + 1) scope.names (cloFrom X.env.cells scope.names [])) fp
  have pt := pt s3 H3 s3.heap.objs.size (cellsFrom (s3.heap.objs.size + 1) scope.names (cloFrom X.env.cells scope.names [])) fp
  have pk := pk s3 H3 s3.heap.objs.size (cellsFrom (s3.heap.objs.size + 1) scope.names (cloFrom X.env.cells scope.names [])) fp
  have pv := pv s3 H3 s3.heap.objs.size (cellsFrom (s3.heap.objs.size + 1) scope.names (cloFrom X.env.cells scope.names [])) fp
  show codeAny _ _ (.compStart (.DictComp kx vx [⟨tg, iter, ifs, 0⟩] scope pos) 0 (.ref it) (.ref D) (compEnvC scope (cellsFrom (s3.heap.objs.size + 1) scope.names (cloFrom X.env.cells scope.names [])) s3.heap.objs.size X.env)) (compPost (model X.prog X.w) X.A X.xe none (EP X pins σ Q) (.ref D) s3.heap.objs.size) { s3 with heap := pushCells (s3.heap.push { cls := .type "dict", data := .dict #[] }) scope.names }
  obtain ⟨ce, hce⟩ : ∃ ce, ce = compEnvC scope (cellsFrom (s3.heap.objs.size + 1) scope.names (cloFrom X.env.cells scope.names [])) s3.heap.objs.size X.env := ⟨_, rfl⟩
  have cloc : ce.locals = s3.heap.objs.size := by rw [hce]; rfl
  rw [← hce] at I4 pg pt pk pv ⊢
  obtain ⟨s4, hs4⟩ : ∃ s4 : Shared, s4 = { s3 with heap := pushCells (s3.heap.push { cls := .type "dict", data := .dict #[] }) scope.names } := ⟨_, rfl⟩
  rw [← hs4] at I4 ⊢
  have st4 : tn 0 s4.heap := T.keep _ _ _ st3 fun b _ o e => by rw [hs4]; exact pushCells_keeps _ _ _ _ (Heap.get?_push_of_some _ e)
  have fp4 : ∀ b ∈ fp, H3 b = none := fun b hb => (fp3 b hb).1.1
  have foot : ∀ {τ : L2.St} {H' : Hp} {s' : Shared}, Inv (X.blk s3 H3 scope ce fp) [] τ H' s' → (∀ b ∈ fp, H' b = none) → ∀ b ∈ fp, FpOk (X.blk s3 H3 scope ce fp) [] H' b := fun I' hn b hb =>
    ⟨hn b hb, (I'.ok.exf b hb).1, I'.ok.exfs b hb, .inl hb, fun x c e => (I'.ok.exf b hb).2 x c e, fun p hp => absurd (show p ∈ ([] : List (Addr × Obj)) ++ [] from hp) (by simp)⟩
  have loop : codeAny (model X.prog X.w) X.A (.compLoop (.DictComp kx vx [⟨tg, iter, ifs, 0⟩] scope pos) 0 (.ref it) (.ref D) ce) (compPost (model X.prog X.w) X.A X.xe none (EP X pins σ Q) (.ref D) s3.heap.objs.size) s4 := by
    refine compLoop_anyD (fun n s' => ∃ i H', (Inv (X.blk s3 H3 scope ce fp) [] (wipe σ (own.map (·.2))) H' s' ∧ tn i s'.heap) ∧ (∀ b ∈ fp, H' b = none) ∧ W i n H') (fun n s5 hi => ?_) m0 ⟨0, H3, ⟨I4, st4⟩, fp4, w0⟩
    obtain ⟨i, H5, ⟨I5, st5⟩, fp5, w5⟩ := hi
    rcases turns i n H5 w5 with ⟨stop, qq⟩ | ⟨go, Nx, next, step⟩
    · refine thnF (T.done (X.blk s3 H3 scope ce fp) rfl rfl rfl calm' i [] s5 _ H5 (fun _ _ => False) I5 (foot I5 fp5) st5 stop) fun r s6 hr => ?_
      obtain ⟨rfl, I6⟩ := hr
      have I7 : Inv X pins σ H5 s6 := I3.call' (ch := fp) I6.os I6.base I6.hok I6.bare fun b hb => ⟨(fp3 b hb).1.2.2.2.1, (fp3 b hb).1.2.1, (fp3 b hb).1.2.2.2.2.1, (fp3 b hb).1.2.2.2.2.2⟩
      have freeC : H5 s3.heap.objs.size = none := by
        have z : H5 ce.locals = none := I6.free
        rwa [cloc] at z
      obtain ⟨m, hm, _⟩ := I6.loc
      have hm : s6.heap.Ns ce.locals m := hm
      rw [cloc] at hm
      refine ⟨m, hm, fun h'' sb => ?_⟩
      obtain ⟨f0, f1, f2, f3, f4, f5⟩ := I3.fpOk (Nat.le_refl _) freeC
      exact ⟨.ref D, H5, I7.turned (t' := s6.toks) (fun b o hb e => (sb.2 b hb).trans e) f0 f1 f3 f4 f5, rfl, qq⟩
    · refine thnF (T.item (X.blk s3 H3 scope ce fp) rfl rfl rfl calm' i [] s5 _ H5 (fun _ _ => False) I5 (foot I5 fp5) st5 go) fun r s6 hr => ?_
      obtain ⟨u, rfl, h6⟩ := hr
      refine thnF h6 fun _ s7 h7 => ?_
      obtain ⟨x, H7, I7, r7, y7, st7, fp7⟩ := h7
      have I7' := I7.pinned (foot I7 fp7) (T.obj _ _ st7)
      refine thnF (pg.run _ s7 _ H7 x u _ I7' r7 (step x H7 y7)) fun _ s8 h8 => ?_
      obtain ⟨τ, H8, I8, wiped, q8⟩ := h8
      refine thnF (pt.run _ s8 τ H8 _ I8 q8) fun b s9 h9 => ?_
      obtain ⟨H9, I9, q9⟩ := h9
      have ends : ∀ {s' : Shared} {H' : Hp}, Inv (X.blk s3 H3 scope ce fp) ([] ++ pinsAt fp s7.heap) τ H' s' → Nx H' → ∃ m, m < n ∧ ∃ i H', (Inv (X.blk s3 H3 scope ce fp) [] (wipe σ (own.map (·.2))) H' s' ∧ tn i s'.heap) ∧ (∀ b ∈ fp, H' b = none) ∧ W i m H' := by
        intro s' H' I' nx
        obtain ⟨m', hm, w'⟩ := next H' nx
        have pinned : ∀ b ∈ fp, ∀ o, s7.heap.get? b = some o → s'.heap.get? b = some o ∧ H' b = none := fun b hb o e =>
          ⟨(I'.pin (b, o) (List.mem_append_right _ (List.mem_append_right _ (mem_pinsAt hb e)))).1, (I'.pin (b, o) (List.mem_append_right _ (List.mem_append_right _ (mem_pinsAt hb e)))).2.1⟩
        have hlen : (wipe σ (own.map (·.2))).length = τ.length := by rw [← wiped, wipe_length]
        refine ⟨m', hm, i + 1, H', ⟨(I'.unpinned (pins := [])).weak hlen fun j v e => ?_, T.keep _ _ _ st7 fun b hb o e => (pinned b hb o e).1⟩, fun b hb => ?_, w'⟩
        · rw [← wiped] at e
          exact (wipe_some e).1
        · obtain ⟨o, e, _⟩ := T.obj _ _ st7 b hb
          exact (pinned b hb o e).2
      cases b with
      | false =>
        rw [if_neg Bool.false_ne_true] at q9 ⊢
        exact ends I9 q9
      | true =>
        rw [if_pos rfl] at q9 ⊢
        refine thnF (pk.run _ s9 τ H9 _ I9 q9) fun z s10 h10 => ?_
        obtain ⟨yk, H10, I10, r10, q10⟩ := h10
        refine thnF (pv.run _ s10 τ H10 _ I10 q10) fun z2 s11 h11 => ?_
        obtain ⟨yv, H11, I11, r11, a, zs, k, rfl, hD11, hz, hk, hl, nx⟩ := h11
        obtain rfl : z = Value.ref a := r10
        exact dset (X := X.blk s3 H3 scope ce fp) hu I11 hD11 hz hk r11 hl fun s12 I12 => ends I12 nx
  exact codeAny_compStart_dict loop (T.self X.A 0 _ _ _ st4 loop)
end
end Sn

/-! Sn8: dicts by nested keys in plain terms. -/
namespace Tw
open PySem PySem.Spec PyProof.Rows L2 SlX StX Rs Ma Sn
variable [Rs.Tabz]
/-- a dict in plain terms: its pairs, as they came -/
def putA {α β : Type} [DecidableEq α] : List (α × β) → α → β → List (α × β)
  | [], a, b => [(a, b)]
  | p :: ps, a, b => if p.1 = a then (p.1, b) :: ps else p :: putA ps a b
def getA {α β : Type} [DecidableEq α] : List (α × β) → α → Option β
  | [], _ => none
  | p :: ps, a => if p.1 = a then some p.2 else getA ps a
def putsA {α β : Type} [DecidableEq α] : List (α × β) → List (α × β) → List (α × β)
  | kvs, [] => kvs
  | kvs, p :: ps => putsA (putA kvs p.1 p.2) ps
theorem getA_none {α β : Type} [DecidableEq α] {a : α} : ∀ {ps : List (α × β)}, getA ps a = none ↔ a ∉ ps.map (·.1)
  | [] => by simp [getA]
  | p :: ps => by
    unfold getA
    by_cases h : p.1 = a
    · simp [h]
    · rw [if_neg h, getA_none, List.map_cons, List.mem_cons, not_or]
      exact ⟨fun z => ⟨fun e => h e.symm, z⟩, fun z => z.2⟩
theorem putA_new {α β : Type} [DecidableEq α] {a : α} {b : β} : ∀ {ps : List (α × β)}, a ∉ ps.map (·.1) → putA ps a b = ps ++ [(a, b)]
  | [], _ => rfl
  | p :: ps, h => by
    rw [List.map_cons, List.mem_cons, not_or] at h
    rw [putA, if_neg fun e => h.1 e.symm, putA_new h.2]
    rfl
theorem putsA_new {α β : Type} [DecidableEq α] : ∀ {ps kvs : List (α × β)}, ((kvs ++ ps).map (·.1)).Nodup → putsA kvs ps = kvs ++ ps
  | [], kvs, _ => by rw [putsA, List.append_nil]
  | p :: ps, kvs, h => by
    have e : kvs ++ p :: ps = (kvs ++ [p]) ++ ps := by rw [List.append_assoc]; rfl
    have hn : p.1 ∉ kvs.map (·.1) := by
      rw [List.map_append, List.map_cons] at h
      intro z
      exact (List.nodup_append.mp h).2.2 _ z _ List.mem_cons_self rfl
    rw [putsA, putA_new hn, putsA_new (by rw [← e]; exact h), ← e]
/-- the entries say these pairs -/
def EntAll (K : PySem.W.Frag) {α β : Type} (d : α → PyData) {n : Nat} [c : Keyd d n] (R : β → VP) : List Ent → List (α × β) → Hp → Prop
  | [], [], _ => True
  | z :: zs, p :: ps, F => (z.1 = c.key p.1 ∧ KeyAt K F z.1 z.2.1 ∧ R p.2 z.2.2 F) ∧ EntAll K d R zs ps F
  | _, _, _ => False
theorem dictN_ne {P : Program} {w : World} {zs : List Ent} {D : Addr} (c : Addr) (q : Str) : dictN P w zs D ≠ CodeT c q := codeT_ne fun h ⟨_, _, _, _, o, es, ep, h1, _, h2, _⟩ => ⟨D, o, h1, fun vs z => by rw [h2] at z; cases z⟩
section
variable {K : PySem.W.Frag} {P : Program} {w : World} {α β : Type} [DecidableEq α] {d : α → PyData} {n : Nat} [c : Keyd d n] {R : β → VP} {F F' : Hp}
theorem keyAt_up {k : NestedKey} {a : Addr} (e : Same F F') (h : KeyAt K F k a) : KeyAt K F' k a := ⟨dp_up e h.1, h.2⟩
theorem entAll_up [∀ b, Mono (R b)] (e : Same F F') : ∀ {zs : List Ent} {ps : List (α × β)}, EntAll K d R zs ps F → EntAll K d R zs ps F'
  | [], [], _ => True.intro
  | z :: zs, p :: ps, ⟨⟨h1, h2, h3⟩, h4⟩ => ⟨⟨h1, keyAt_up e h2, Mono.mono _ _ _ e h3⟩, entAll_up e h4⟩
  | [], _ :: _, h => h.elim
  | _ :: _, [], h => h.elim
theorem entAll_keys : ∀ {zs : List Ent} {ps : List (α × β)}, EntAll K d R zs ps F → ∀ z ∈ zs, KeyAt K F z.1 z.2.1
  | [], [], _, z, hz => nomatch hz
  | z :: zs, p :: ps, h, y, hy => by
    rcases List.mem_cons.mp hy with rfl | hy
    · exact h.1.2.1
    · exact entAll_keys h.2 y hy
  | [], _ :: _, h, _, _ => h.elim
  | _ :: _, [], h, _, _ => h.elim
theorem entAll_get : ∀ {zs : List Ent} {ps : List (α × β)}, EntAll K d R zs ps F → ∀ a, (getA ps a = none ∧ atN zs (c.key a) = none) ∨ ∃ b x v, getA ps a = some b ∧ atN zs (c.key a) = some (x, v) ∧ R b v F
  | [], [], _, a => .inl ⟨rfl, rfl⟩
  | z :: zs, p :: ps, ⟨⟨h1, h2, h3⟩, h4⟩, a => by
    by_cases h : p.1 = a
    · refine .inr ⟨p.2, z.2.1, z.2.2, by rw [getA, if_pos h], ?_, h3⟩
      unfold atN
      rw [List.find?_cons_of_pos (by rw [h1, h]; simp)]
      rfl
    · have ne : ¬ z.1 = c.key a := fun e => h (c.inj _ _ (by rw [← h1, e]))
      have e1 : atN (z :: zs) (c.key a) = atN zs (c.key a) := by
        unfold atN
        rw [List.find?_cons_of_neg (by simpa using ne)]
      rw [getA, if_neg h, e1]
      exact entAll_get h4 a
  | [], _ :: _, h, _ => h.elim
  | _ :: _, [], h, _ => h.elim
theorem atN_cons_ne {z : Ent} {zs : List Ent} {k : NestedKey} (h : ¬ z.1 = k) : atN (z :: zs) k = atN zs k := by
  unfold atN
  rw [List.find?_cons_of_neg (by simpa using h)]
theorem atN_cons_eq {z : Ent} {zs : List Ent} {k : NestedKey} (h : z.1 = k) : atN (z :: zs) k = some (z.2.1, z.2.2) := by
  unfold atN
  rw [List.find?_cons_of_pos (by simpa using h)]
  rfl
theorem putN_cons_ne {z : Ent} {zs : List Ent} {k : NestedKey} {a : Addr} {v : V} (h : ¬ z.1 = k) : putN (z :: zs) k a v = z :: putN zs k a v := by
  unfold putN
  rw [atN_cons_ne h]
  split
  · rw [List.map_cons, if_neg h]
  · rfl
theorem set_same {zs : List Ent} {k : NestedKey} {v : V} (h : k ∉ zs.map (·.1)) : zs.map (fun z => if z.1 = k then (z.1, z.2.1, v) else z) = zs := by
  induction zs with
  | nil => rfl
  | cons z zs ih =>
    rw [List.map_cons, List.mem_cons, not_or] at h
    rw [List.map_cons, ih h.2, if_neg fun e => h.1 e.symm]
theorem entAll_fst : ∀ {zs : List Ent} {ps : List (α × β)}, EntAll K d R zs ps F → zs.map (·.1) = (ps.map (·.1)).map c.key
  | [], [], _ => rfl
  | z :: zs, p :: ps, h => by rw [List.map_cons, List.map_cons, List.map_cons, entAll_fst h.2, h.1.1]
  | [], _ :: _, h => h.elim
  | _ :: _, [], h => h.elim
theorem entAll_put {a : α} {b : β} {x : Addr} {v : V} (hk : KeyAt K F (c.key a) x) (hb : R b v F) : ∀ {zs : List Ent} {ps : List (α × β)}, EntAll K d R zs ps F → (ps.map (·.1)).Nodup → EntAll K d R (putN zs (c.key a) x v) (putA ps a b) F
  | [], [], _, _ => ⟨⟨rfl, hk, hb⟩, True.intro⟩
  | z :: zs, p :: ps, ⟨⟨h1, h2, h3⟩, h4⟩, hn => by
    rw [List.map_cons, List.nodup_cons] at hn
    by_cases h : p.1 = a
    · have e : z.1 = c.key a := by rw [h1, h]
      have no : c.key a ∉ zs.map (·.1) := by
        rw [entAll_fst h4]
        intro y
        obtain ⟨a', ha, ea⟩ := List.mem_map.mp y
        rw [c.inj _ _ ea, ← h] at ha
        exact hn.1 ha
      unfold putN
      rw [atN_cons_eq e, putA, if_pos h, Option.isSome_some, if_pos rfl, List.map_cons, if_pos e, set_same no]
      exact ⟨⟨h1, h2, hb⟩, h4⟩
    · have ne : ¬ z.1 = c.key a := fun e => h (c.inj _ _ (by rw [← h1, e]))
      rw [putN_cons_ne ne, putA, if_neg h]
      exact ⟨⟨h1, h2, h3⟩, entAll_put hk hb h4 hn.2⟩
  | [], _ :: _, h, _ => h.elim
  | _ :: _, [], h, _ => h.elim
theorem putA_nodup {a : α} {b : β} : ∀ {ps : List (α × β)}, (ps.map (·.1)).Nodup → ((putA ps a b).map (·.1)).Nodup ∧ ∀ x, x ∈ (putA ps a b).map (·.1) → x = a ∨ x ∈ ps.map (·.1)
  | [], _ => ⟨by simp [putA], fun x hx => by simp [putA] at hx; exact .inl hx⟩
  | p :: ps, h => by
    rw [List.map_cons, List.nodup_cons] at h
    unfold putA
    split
    · rename_i e
      exact ⟨by rw [List.map_cons]; exact List.nodup_cons.mpr h, fun x hx => .inr hx⟩
    · rename_i e
      obtain ⟨h1, h2⟩ := putA_nodup (a := a) (b := b) h.2
      refine ⟨by rw [List.map_cons]; exact List.nodup_cons.mpr ⟨fun z => (h2 _ z).elim (fun q => e q) h.1, h1⟩, fun x hx => ?_⟩
      rw [List.map_cons, List.mem_cons] at hx
      rcases hx with rfl | hx
      · exact .inr List.mem_cons_self
      · exact (h2 x hx).imp id (List.mem_cons_of_mem _)
end
theorem rd_up {F F' : Hp} {a : Addr} {u : HO} (e : Same F F') (h : Rd F a u) : Rd F' a u := h.imp (fun h => e _ _ h) fun ⟨o, h⟩ => ⟨o, e _ _ h⟩
/-- a dict that stays -/
def fDK (K : PySem.W.Frag) (P : Program) (w : World) {α β : Type} [DecidableEq α] (d : α → PyData) {n : Nat} [c : Keyd d n] (R : β → VP) : List (α × β) → VP := fun kvs v F => ∃ D zs, v = .ref D ∧ Rd F D (dictN P w zs D) ∧ EntAll K d R zs kvs F ∧ (kvs.map (·.1)).Nodup
instance {K : PySem.W.Frag} {P : Program} {w : World} {α β : Type} [DecidableEq α] {d : α → PyData} {n : Nat} [Keyd d n] {R : β → VP} [∀ b, Mono (R b)] {kvs : List (α × β)} : Mono (fDK K P w d R kvs) := ⟨fun _ _ _ e ⟨D, zs, h, h1, r, n⟩ => ⟨D, zs, h, rd_up e h1, entAll_up e r, n⟩⟩
theorem wipe_idem {σ : L2.St} {vs : List Nat} : wipe (wipe σ vs) vs = wipe σ vs := by
  have same : ∀ (vs : List Nat) (i : Nat), i ∉ vs → (wipe σ vs)[i]? = σ[i]? := by
    intro vs
    induction vs with
    | nil => intro i _; rfl
    | cons v vs ih =>
      intro i hi
      rw [List.mem_cons, not_or] at hi
      rw [wipe, List.getElem?_set_ne (fun z => hi.1 z.symm), ih i hi.2]
  exact wipe_agree (js := vs) (wipe_length _ _) (fun i hi => same vs i hi) (by rw [List.all_eq_true]; intro x hx; simpa using hx)
section
variable {ε α β γ δ : Type} {Z : Wsh ε} {ρ : List (Option VP)} {κ : List Ow} {K : PySem.W.Frag} {P : Program} {w : World} {tk tv : TE} {tt : TT} {wi : TI} {g : TG} {n : Nat} {d : α → PyData} [DecidableEq α] [c : Keyd d n] {Rb : β → VP} {R : β → VP}
theorem dc_it {J : It} {n : Nat} {G : Hp → Prop} {Y : Nat → Hp → V → Hp → Prop} (wk : Walk J n G Y) {g : TG} {tt : TT} {tk tv : TE} {vs : List Nat} {σ : L2.St} {H1 : Hp} {D : Addr} {Qd : Hp → Prop} (Pv : Nat → Hp → Prop) (h0 : Pv 0 (upd H1 D (dictN P w [] D))) (hG : ∀ i H, i ≤ n → Pv i H → G H)
    (hs : ∀ i x H H', i < n → Pv i H → Y i H x H' → g x (wipe σ vs) H' fun τ H2 => wipe τ vs = wipe σ vs ∧ Turn K P w tt tk tv D (Pv (i + 1)) τ H2) (hd : ∀ H, Pv n H → Qd H) :
    ∃ W : Nat → Nat → Hp → Prop, (∃ m, W 0 m (upd H1 D (dictN P w [] D))) ∧ ∀ i m H, W i m H →
      (J.stop i H ∧ Qd H) ∨ (J.go i H ∧ ∃ Nx : Hp → Prop, (∀ H', Nx H' → ∃ m', m' < m ∧ W (i + 1) m' H') ∧ ∀ x H', J.yld i H x H' → g x (wipe σ vs) H' fun τ H2 => wipe τ vs = wipe σ vs ∧ Turn K P w tt tk tv D Nx τ H2) := by
  refine ⟨fun i m H => i + m = n ∧ Pv i H, ⟨n, Nat.zero_add _, h0⟩, fun i m H hi => ?_⟩
  obtain ⟨him, p⟩ := hi
  have q := hG i H (by omega) p
  cases m with
  | zero =>
    obtain rfl : i = n := him
    exact .inl ⟨wk.stops H q, hd H p⟩
  | succ m => exact .inr ⟨wk.goes i H (by omega) q, Pv (i + 1), fun H' p' => ⟨m, Nat.lt_succ_self _, by omega, p'⟩, fun x H' y => hs i x H H' (by omega) p (wk.yields i H x H' (by omega) q y)⟩
/-- {k: v for ..}: the pairs one behind the other -/
theorem tr_dc {vs js : List Nat} {up : γ → List (Option VP) → List (Option VP)} {mi : Wm ε (List γ)} {mc : γ → Wm ε Bool} {mk : γ → Wm ε (List α)} {mv : γ → Wm ε β} {Rx : γ → VP} [∀ b, Mono (Rb b)] (hn : n ≤ 7) (hi : TrI Z ρ κ wi mi Rx) (hg : TrG g Rx js up) (hj : (js.all fun j => vs.contains j) = true) (fc : freeCs vs κ = true) (fj : freeCs js κ = true)
    (hlen : ∀ x, (up x (wipeE ρ vs)).length = ρ.length) (hc : ∀ x, TrT Z (up x (wipeE ρ vs)) κ tt (mc x)) (hk : ∀ x, TrE Z (up x (wipeE ρ vs)) κ tk (mk x) (fD K (dT d))) (hv : ∀ x, TrE Z (up x (wipeE ρ vs)) κ tv (mv x) Rb) :
    TrE Z ρ κ (tDcK K P w wi g tt tk tv vs) (fun Q X => mi (fun xs => xs.length ≤ 40000 ∧ lcW mc (fun x Q X => mk x (fun a => mv x (fun b => Q (a, b)) X) X) xs (fun ps => Q (putsA [] ps)) X) X) (fDK K P w (dT d) Rb) :=
  ⟨inferInstance, fun σ F L s cc Q X q F1 N H e A wsh Qk qk => hi.run σ F L s cc _ X q F1 N H e A wsh _ fun J F2 H2 e2 A2 ⟨xs, ⟨hz, q1⟩, ⟨G, Y, wk, hG, hY⟩⟩ D hD => by
    have hl := sat_len s
    rw [List.length_map] at wk
    refine dc_it wk (Qd := fun H => Qk (.ref D) H) (fun i H' => ∃ F' zs kvs, Same F2 F' ∧ At F' ((D, dictN P w zs D) :: (L ++ N)) H' ∧ EntAll K (dT d) Rb zs kvs F' ∧ (kvs.map (·.1)).Nodup ∧ zs.length ≤ i ∧ lcW mc (fun x Q X => mk x (fun a => mv x (fun b => Q (a, b)) X) X) (xs.drop i) (fun ps => Q (putsA kvs ps)) X)
      ⟨F2, [], [], Same.refl _, A2.cell hD (hc := dictN_ne), True.intro, List.nodup_nil, Nat.le_refl _, q1⟩ (fun i H' _ ⟨F', zs, kvs, e', A', _⟩ => hG F' _ H' e' A') ?_ ?_
    · rintro i x H3 H4 hi ⟨F', zs, kvs, e', A', hent, hnd, hzl, q2⟩ y
      obtain ⟨F3, R, e3, A3, hR, hx⟩ := hY F' _ H3 i x H4 e' A' (by rw [List.length_map]; exact hi) y
      rw [List.getElem?_map, List.getElem?_eq_getElem hi] at hR
      cases hR
      rw [drop_at (List.getElem?_eq_getElem hi), lcW] at q2
      have P0 : ((D, dictN P w zs D) :: (L ++ N)).Perm (L ++ ((D, dictN P w zs D) :: N)) := List.perm_middle.symm
      have e13 : Same F F3 := ((e.trans e2).trans e').trans e3
      have s3 := satV_up e13 s
      have c3 := satC_up e13 cc
      have w3 : WishOk Z F3 ((D, dictN P w zs D) :: N) X := (wsh.up ((e2.trans e').trans e3)).push1
      refine hg.run xs[i] x (wipe σ vs) F3 (wipeE ρ vs) _ H4 (satV_wipe s3 vs) hx A3 _ fun τ ag s4 => ⟨?_, ?_⟩
      · rw [wipe_agree (by rw [← sat_len s4, hlen, wipe_length, hl]) ag hj]
        exact wipe_idem
      · have c4 : SatC κ τ F3 L := satC_agree ag fj (satC_wipe c3 fc)
        refine (hc xs[i]).run τ F3 L s4 c4 _ X q2 F3 _ H4 (Same.refl _) (A3.perm P0) w3 _ fun b F5 H5 e5 A5 q5 => ?_
        cases b with
        | false =>
          rw [if_neg Bool.false_ne_true] at q5
          exact iteF ⟨F5, zs, kvs, (e'.trans e3).trans e5, A5.perm P0.symm, entAll_up (e3.trans e5) hent, hnd, Nat.le_succ_of_le hzl, q5⟩
        | true =>
          rw [if_pos rfl] at q5
          refine iteT ?_
          refine (hk xs[i]).run τ F5 L (satV_up e5 s4) (satC_up e5 c4) _ X q5 F5 _ H5 (Same.refl _) A5 (w3.up e5) _ fun y F6 H6 e6 A6 ⟨a, q6, hy⟩ => ?_
          refine (hv xs[i]).run τ F6 L (satV_up (e5.trans e6) s4) (satC_up (e5.trans e6) c4) _ X q6 F6 _ H6 (Same.refl _) A6 ((w3.up e5).up e6) _ fun z F7 H7 e7 A7 ⟨b, q7, hz7⟩ => ?_
          have A8 := A7.perm P0.symm
          have hent7 := entAll_up (((e3.trans e5).trans e6).trans e7) hent
          obtain ⟨ad, rfl⟩ : ∃ ad, y = V.ref ad := by
            have hy' : Dt K (.tuple (a.map d)) y F6 := hy
            cases hy' with
            | tup _ _ => exact ⟨_, rfl⟩
          have kat : KeyAt K F7 ((keydT (c := c)).key a) ad := ⟨by rw [(keydT (c := c)).ok]; exact dp_up e7 hy, Nat.le_trans ((keydT (c := c)).dep a) (by omega)⟩
          refine ⟨ad, zs, (keydT (c := c)).key a, rfl, A8.on1, fun z hz => keyAt_up A7.ex (entAll_keys hent7 z hz), keyAt_up A7.ex kat, by omega, F7, putN zs ((keydT (c := c)).key a) ad z, putA kvs a b, (((e'.trans e3).trans e5).trans e6).trans e7, A8.put (hc := dictN_ne), entAll_put kat hz7 hent7 hnd, (putA_nodup hnd).1, ?_, q7⟩
          have := putN_len (k := (keydT (c := c)).key a) (a := ad) (v := z) (zs := zs)
          omega
    · rintro H3 ⟨F', zs, kvs, e', A', hent, hnd, hzl, q2⟩
      rw [List.drop_length, lcW, putsA] at q2
      exact qk _ _ _ ((e2.trans e').trans (same_new A'.off1)) A'.keep ⟨kvs, q2, D, zs, rfl, .inl upd_same, entAll_up (same_new A'.off1) hent, hnd⟩⟩
/-- k in d -/
theorem o_inDK (hn : n ≤ 7 := by decide) [∀ b, Mono (Rb b)] : Op2 ε (rInK K P w false) (fD K (dT d)) (fDK K P w (dT d) Rb) (fun a kvs => pur (getA kvs a).isSome) (fD K dB) := op_pur fun a kvs x y F L hx ⟨D, zs, ey, hD, he, _⟩ => fun F1 N H e A Qk qk => by
  subst ey
  have hx' : Dt K (.tuple (a.map d)) x F := hx
  cases hx' with
  | @tup ad xs ds hs ha =>
    refine ⟨ad, D, zs, (keydT (c := c)).key a, rfl, rfl, rd_up (e.trans A.ex) hD, fun z hz => keyAt_up (e.trans A.ex) (entAll_keys he z hz), keyAt_up (e.trans A.ex) ⟨by rw [(keydT (c := c)).ok]; exact hx, Nat.le_trans ((keydT (c := c)).dep a) (by omega)⟩, qk _ F1 H (Same.refl _) A ?_⟩
    have q : (atN zs ((keydT (c := c)).key a)).isSome = (getA kvs a).isSome := by
      rcases entAll_get he a with ⟨e1, e2⟩ | ⟨b, x, v, e1, e2, _⟩
      · rw [e1, e2]; rfl
      · rw [e1, e2]; rfl
    rw [q]
    show Dp K F1 (.bl (false != (getA kvs a).isSome)) (.bool (getA kvs a).isSome)
    rw [Bool.false_bne]
    exact .bl _
theorem o_notInDK (hn : n ≤ 7 := by decide) [∀ b, Mono (Rb b)] : Op2 ε (rInK K P w true) (fD K (dT d)) (fDK K P w (dT d) Rb) (fun a kvs => pur (!(getA kvs a).isSome)) (fD K dB) := op_pur fun a kvs x y F L hx ⟨D, zs, ey, hD, he, _⟩ => fun F1 N H e A Qk qk => by
  subst ey
  have hx' : Dt K (.tuple (a.map d)) x F := hx
  cases hx' with
  | @tup ad xs ds hs ha =>
    refine ⟨ad, D, zs, (keydT (c := c)).key a, rfl, rfl, rd_up (e.trans A.ex) hD, fun z hz => keyAt_up (e.trans A.ex) (entAll_keys he z hz), keyAt_up (e.trans A.ex) ⟨by rw [(keydT (c := c)).ok]; exact hx, Nat.le_trans ((keydT (c := c)).dep a) (by omega)⟩, qk _ F1 H (Same.refl _) A ?_⟩
    have q : (atN zs ((keydT (c := c)).key a)).isSome = (getA kvs a).isSome := by
      rcases entAll_get he a with ⟨e1, e2⟩ | ⟨b, x, v, e1, e2, _⟩
      · rw [e1, e2]; rfl
      · rw [e1, e2]; rfl
    rw [q]
    show Dp K F1 (.bl (true != (getA kvs a).isSome)) (.bool (!(getA kvs a).isSome))
    rw [Bool.true_bne]
    exact .bl _
/-- d[k] -/
theorem o_ixDK (hn : n ≤ 7 := by decide) [∀ b, Mono (Rb b)] : Op2 ε (rIxK K P w) (fDK K P w (dT d) Rb) (fD K (dT d)) (fun kvs a Q X => ∃ b, getA kvs a = some b ∧ Q b) Rb := ⟨fun kvs a x y F L ⟨D, zs, ex, hD, he, _⟩ hy Q X ⟨b, q0, q1⟩ => fun F1 N H e A Qk qk => by
  subst ex
  have hy' : Dt K (.tuple (a.map d)) y F := hy
  cases hy' with
  | @tup ad xs ds hs ha =>
    rcases entAll_get he a with ⟨e1, e2⟩ | ⟨b', x, v, e1, e2, hr⟩
    · rw [e1] at q0; cases q0
    · rw [e1] at q0
      cases q0
      exact ⟨ad, D, zs, (keydT (c := c)).key a, x, v, rfl, rfl, rd_up (e.trans A.ex) hD, fun z hz => keyAt_up (e.trans A.ex) (entAll_keys he z hz), keyAt_up (e.trans A.ex) ⟨by rw [(keydT (c := c)).ok]; exact hy, Nat.le_trans ((keydT (c := c)).dep a) (by omega)⟩, e2, qk _ F1 H (Same.refl _) A ⟨b, q1, Mono.mono _ _ _ e hr⟩⟩⟩
end
end Tw

/-! RsW: own __getitem__, own __iter__ that hands out iter of a tuple. -/
namespace Rs
open PySem PySem.Spec PyProof.Rows L2 SlX StX Ma
variable [Rs.Tabz]
section
variable {X : Cx} {CX : CXT} {C g : Addr} {n : Nat} {sp : Sp} {E : XK}
def rGetOwn (C : Addr) (sp : Sp) (E : XK) : R2 := fun x y H Q => ∃ a dx vs, x = V.ref a ∧ Slt H a C dx vs ∧ sp [.ref a, y] H Q E
theorem p_getOwn {o i : Expr} {ta ti : TE} {pos : Pos} (hs : PySem.W.findIn X.K (.ref C) "__getitem__" = some (some (.ref g))) (hk : PySem.W.fnIn X.K g = true) (hf : PySem.W.isFn X.K (.ref g) = true) (F : FnR X.prog X.w X.K X.mg X.base CX n g sp) (hr : Room (n + 1) X.A) (hx : Passes CX X E) (ho : PE X o ta) (hi : PE X i ti)
    (hsl : ∀ a iv, subscripted i true (.ref a) iv = runValue (.builtin "lifetime.subscript" ⟨[.ref a, iv], []⟩)) : PE X (.Subscript o i pos) (tOp (rGetOwn C sp E) ta ti) := by
  refine ⟨fun pins s σ H Q I h => ?_⟩
  refine Subscript_ (binT ho hi I h fun v u s2 x y H2 I2 rx ry q => ?_)
  obtain ⟨a, dx, vs, rfl, hsl2, q⟩ := q
  cases (show v = Value.ref a from rx)
  obtain ⟨sl, od, _, J, _⟩ := slt_inst I2 hsl2
  obtain ⟨m, hF⟩ := I2.fr
  refine PySem.W.sub_K hF I2.ok.mod.kin J hs hk hf (wpAny_call (codeAny_mono (run_at (us := [.ref a, u]) (ws := [.ref a, y]) F hr.in1 I2.env0.in1 hx I2 (.cons rfl (.cons ry .nil)) q) fun r s' z => z)) (hsl a u)
end
/-- the own __getitem__ of the class at C -/
structure GetS (P : Program) (w : World) (K : PySem.W.Frag) (mg : Str → Option Value) (base : Heap) (k : Nat) (C : Addr) (sp : Sp) : Prop where
  ex : ∃ g, PySem.W.findIn K (.ref C) "__getitem__" = some (some (.ref g)) ∧ PySem.W.fnIn K g = true ∧ PySem.W.isFn K (.ref g) = true ∧ FnR P w K mg base CX0 k g sp
section
variable {X : Cx} {k j : Nat} {C : Addr} {sp : Sp}
theorem p_getO {o i : Expr} {ta ti : TE} {pos : Pos} (c : GetS X.prog X.w X.K X.mg X.base k C sp) (hr : Room j X.A) (hk : k + 1 ≤ j) (ho : PE X o ta) (hi : PE X i ti)
    (hsl : ∀ a iv, subscripted i true (.ref a) iv = runValue (.builtin "lifetime.subscript" ⟨[.ref a, iv], []⟩)) : PE X (.Subscript o i pos) (tOp (rGetOwn C sp E0) ta ti) := by
  obtain ⟨g, h1, h2, h3, F⟩ := c.ex
  exact p_getOwn h1 h2 h3 F (hr.mono hk) pass0 ho hi hsl
end

/-! ### iter of a tuple, as a value -/
def tiObj (l : Addr) : Obj := { cls := .type "tuple_iterator", data := .fields #[.ref l, .int 0 0] }
def TiO (l it : Addr) : HO := .ext fun h => h.get? it = some (tiObj l)
theorem tiO_ok {P : Program} {w : World} {H : Hp} {h : Heap} {l it : Addr} (e : h.get? it = some (tiObj l)) : ObjOk P w H h it (TiO l it) := ⟨e, ⟨_, e⟩, fun h1 h2 q k => k _ q⟩
def rIterT (K : PySem.W.Frag) (n : Nat) : List V → Hp → VK → Prop := fun xs H Q => ∃ (l : Addr) (zs : List V), xs = [.ref l] ∧ SqT K H l zs ∧ ∀ it, H it = none → n ≤ it → Q (.ref it) (upd H it (TiO l it))
section
variable {X : Cx}
theorem call_iterT : CallR X (.builtin "iter") (rIterT X.K X.s_0.heap.objs.size) := by
  intro pins s σ H xs us Q I r h
  obtain ⟨l, zs, rfl, hq, q⟩ := h
  rw [Vals.ref1 r]
  obtain ⟨its, rv, pl, hz⟩ := I.tuple hq
  refine Calls.call_function_entry (by decide +kernel) (by decide +kernel) PySem.W.kdk_entry_iter (PySem.W.kdk_args_iter _) ?_
  unfold Builtin.«iter»
  refine wpAny_bind (m := someArgs "iter" 1 2 _) (wpAny_of_eq (a := [Value.ref l]) (by first | rfl | kernel_rfl!) ?_)
  show wpAny _ _ (pyIter (.ref l) >>= _) _ _ _
  refine wpAny_bind (wpAny_pyIter_tuple (show s.heap.IsTuple l its.toArray from pl) ?_)
  refine wpAny_pure ⟨_, rfl, ?_⟩
  exact ⟨.ref s.heap.objs.size, _, I.laid (t' := s.toks) (fun b u e => Heap.get?_push_of_some _ e) (Nat.le_refl _) (tiO_ok (Heap.get?_push_size _ rfl)), rfl, q _ (I.hok.fresh (Nat.le_refl _)) I.sz⟩
variable {e : Expr} {t : TA} {p pos : Pos}
theorem p_iterT (Bi : X.mg "iter" = none) (ha : PA X [e] t) (hg : Gl X "iter" := by rfl) (he : starEach [e] X.env = (false, eval e X.env) :: starEach [] X.env := by rfl) (hpl : (backTo pos (starEach [] X.env)).any (·.1) = false := by rfl) :
    PE X (.Call (.Name "iter" p) [e] [] pos) (tCB (rIterT X.K X.s_0.heap.objs.size) t) := pe_callB call_iterT hg Bi boot_iter ha (by decide) (by decide) he hpl
end
/-- a def at one state -/
theorem fn_at {P : Program} {w : World} {K : PySem.W.Frag} {mg : Str → Option Value} {base : Heap} {x qual : Str} {st : Stmt} {f : Addr} {fd : FuncData} {N ps : List Str} {k : Nat} (F : Fun K x qual st f fd) (b : Binds K fd ps []) (S : FnScope N ps (defScope st))
    {A : Around} {outer : List Env} {s : Shared} {H : Hp} {us : List Value} {vs : List V} {Q : VK} {E : XK} (hr : Room (k + 1) A) (e0 : Env0 P w K mg base A outer s H) (rel : Vals vs us) (len : vs.length = ps.length)
    (body : ∀ cdv, Room k (A.deeper (envOfC qual (defScope st) s.heap.objs.size f cdv)) → ∃ t, PSs (cxOf CX0 P w K mg base N qual (defScope st) f cdv A outer s H E).nox (defBody st) t ∧ t { nx := fun _ H' => Q .non H', rt := Q } (start N vs) H) :
    codeAny (model P w) A (.call (.ref f) ⟨us, []⟩) (CR CX0 outer P w H s Q E) s := by
  obtain ⟨oc, od, kV, doc, pm, an, cdv, ct, osl, rfl, lk, hcd⟩ := F.ex
  have grown : ∀ b o, base.get? b = some o → s.heap.get? b = some o := fun b o e => (e0.bs b o e).1
  have inK : K.In s.heap := e0.mod.kin.keeps grown
  have places : ∀ y ∈ ps.zip us, (defScope st).names.lookup y.1 = some .local ∨ ((defScope st).names.lookup y.1 = some .cell ∧ ((cellsFrom (s.heap.objs.size + 1) (defScope st).names []).lookup y.1).isSome = true) := fun y hy =>
    (S.par y.1 (List.of_mem_zip (a := y.1) (b := y.2) hy).1).imp id fun q => ⟨q, PySem.W.cellsFrom_some _ _ _ (.inl q)⟩
  have bound : BindsTo s (PySem.W.fnOf x qual (defArgs st) (defBody st) (defScope st) .none kV doc pm an cdv ct) ⟨us, []⟩ (ps.zip us) := by
    have := b s us inK (by rw [List.append_nil, ← rel.length]; exact len)
    rwa [List.append_nil] at this
  refine codeAny_call_function hr.depth (inK _ _ lk) rfl S.co S.gen rfl (PySem.W.codeRec_of inK hcd) (bound _ _ _ _ ?_)
  refine wpAny_newFunctionEnv_cells S.kind places fun env he s1 into => ?_
  subst he
  refine ⟨(e0.mod.nolimit.keeps grown).keeps into.toInCall.keep, codeAny_func ?_⟩
  obtain ⟨t, ht, q⟩ := body cdv (hr.deeper _)
  have I : Inv (cxOf CX0 P w K mg base N qual (defScope st) f cdv A outer s H E) [] (start N vs) H s1 := inv_start S hr.hd e0 len rel into
  refine wpAny_mono (ht.nox.run [] s1 (start N vs) H _ I q) (fun fl s' hs => ?_) fun e s' hs => hs
  match fl, hs with
  | .ret u, ⟨v, σ', H', J, rv, q⟩ => exact ⟨v, H', J.os, J.bare, J.base, J.hok, rv, q⟩
  | .next, ⟨σ', H', J, q⟩ => exact ⟨V.non, H', J.os, J.bare, J.base, J.hok, rfl, q⟩
  | .brk, ⟨_, _, _, q⟩ => exact q.elim
  | .cont, ⟨_, _, _, q⟩ => exact q.elim
/-- the own __iter__ of the class at C hands out iter of the tuple in the slot i -/
structure ItS (P : Program) (w : World) (K : PySem.W.Frag) (mg : Str → Option Value) (base : Heap) (k : Nat) (C : Addr) (i : Nat) : Prop where
  ex : ∃ g, PySem.W.findIn K (.ref C) "__iter__" = some (some (.ref g)) ∧ PySem.W.isFn K (.ref g) = true ∧ ∀ (A : Around) (outer : List Env) (s : Shared) (H : Hp) (a dx : Addr) (vs : List (Option V)) (l : Addr) (zs : List V) (Q : VK) (E : XK),
    Room k A → Env0 P w K mg base A outer s H → Slt H a C dx vs → vs[i]? = some (some (.ref l)) → SqT K H l zs → (∀ it, H it = none → s.heap.objs.size ≤ it → Q (.ref it) (upd H it (TiO l it))) → codeAny (model P w) A (.call (.ref g) ⟨[.ref a], []⟩) (CR CX0 outer P w H s Q E) s
def iOwn (K : PySem.W.Frag) (C : Addr) (i : Nat) (te : TE) : TI := fun σ H R => te σ H fun v H1 => ∃ a dx vs l zs, v = .ref a ∧ Slt H1 a C dx vs ∧ vs[i]? = some (some (.ref l)) ∧ SqT K H1 l zs ∧ R (Itt K l) H1
theorem pi_own {X : Cx} {tg e : Expr} {te : TE} {k j i : Nat} {C : Addr} (c : ItS X.prog X.w X.K X.mg X.base k C i) (hr : Room j X.A) (hk : k ≤ j) (he : PE X e te) : PI X tg e (iOwn X.K C i te) := by
  refine ⟨fun pins s σ H R I h => ?_⟩
  obtain ⟨g, h1, h2, run⟩ := c.ex
  refine thn (he.run pins s σ H _ I h) fun u s1 ⟨v, H1, I1, r1, a, dx, vs, l, zs, ev, hsl, hl, hq, q⟩ => ?_
  subst ev
  cases r1
  obtain ⟨sl, od, _, J, _⟩ := slt_inst I1 hsl
  obtain ⟨m, hF⟩ := I1.fr
  refine PySem.W.owit_iter hF I1.ok.mod.kin J h1 h2 (wpAny_call (codeAny_mono (run X.A X.stack s1 H1 a dx vs l zs (fun z H' => ∃ it, z = .ref it ∧ H1 it = none ∧ s1.heap.objs.size ≤ it ∧ H' = upd H1 it (TiO l it)) E0 (hr.mono hk) I1.env0 hsl hl hq fun it z1 z2 => ⟨it, rfl, z1, z2, rfl⟩) fun r s' hq' => ?_))
  cases r with
  | error e => exact hq'.elim
  | ok fl =>
    cases fl with
    | next => exact False.elim hq'
    | brk => exact False.elim hq'
    | cont => exact False.elim hq'
    | ret u =>
      obtain ⟨z, H', I', rz, it, ez, n1, n2, eH⟩ := I1.after hq'
      subst ez
      cases rz
      rw [eH] at I'
      have at' : s'.heap.get? it = some (tiObj l) := (I'.hok it _ upd_same).1
      have ty : s'.TypeIs (.ref it) "tuple_iterator" := ⟨_, at', rfl⟩
      unfold PySem.W.OwitIt
      refine wpAny_specialOf ty F.slot_tuple_iterator_next.lookup ?_
      have J2 := ItX.inv_drop I' (a := it) (φ := fun h => h.get? it = some (tiObj l)) upd_same
      have fp := ItX.inv_fp I' (a := it) upd_same (Nat.le_trans I1.sz n2)
      rw [ItX.dropH_upd n1] at J2 fp
      refine ⟨it, [it], _, _, H1, rfl, J2, turn_tuple l it, ⟨_, at', rfl, rfl⟩, fun b hb => ?_, q⟩
      rw [List.mem_singleton.mp hb]
      exact fp
end Rs

/-! Tx0: own items, own iteration, slices, lists * int, objects being made. -/
namespace Tw
open PySem PySem.Spec PyProof.Rows L2 SlX StX Rs Ma Sn
variable [Rs.Tabz]
section
variable {ε α β γ δ : Type} {Z : Wsh ε} {ρ : List (Option VP)} {κ : List Ow} {K : PySem.W.Frag} {te ta tb ti : TE} {C : Addr} {Ra R : α → VP} {Rb : β → VP} {Rc : γ → VP} {ma : Wm ε α} {ml : Wm ε (List α)} {i : Nat} {E : XK}
/-! own items -/
theorem o_getOwn {spec : α × β → (γ → Prop) → Prop} [∀ a, Mono (Ra a)] [∀ b, Mono (Rb b)] (h1 : ∀ a v F, Ra a v F → IsOb C v F) :
    Op2 ε (rGetOwn C (SpN (fun p : α × β => [Ra p.1, Rb p.2]) spec Rc) E) Ra Rb (fun a b Q _ => spec (a, b) Q) Rc :=
  ⟨fun a b x y F L hx hy Q X q => fun F2 N H e2 A Qk qk => by
    obtain ⟨p, dx, us, rfl, q1, q2⟩ := h1 _ _ _ hx
    exact ⟨p, dx, us, rfl, at_slt A (e2 _ _ q1) (e2 _ _ q2), (a, b), F2, L ++ N, Q, A, ⟨Mono.go hx e2, Mono.go hy e2, True.intro⟩, q, fun d v F3 H3 e3 A3 pd r => qk _ F3 H3 e3 A3 ⟨d, pd, r⟩⟩⟩
/-! own iteration -/
def SlT (K : PySem.W.Frag) (C : Addr) (i : Nat) (Rs : List VP) : VP := fun v F => ∃ a dx vs l, v = .ref a ∧ F a = some (SlO a C dx vs) ∧ F dx = some (.xd []) ∧ vs[i]? = some (some (.ref l)) ∧ Tp K Rs (.ref l) F
theorem ti_own {f : α → List β} [∀ b, Mono (Rb b)] (hS : ∀ a v F, Ra a v F → SlT K C i ((f a).map Rb) v F) (h : TrE Z ρ κ te ma Ra) : TrI Z ρ κ (iOwn K C i te) (fun Q X => ma (fun a => Q (f a)) X) Rb :=
  ⟨inferInstance, fun σ F L s c Q X q => rw_bind (k := te σ) (k2 := fun v H1 R => ∃ a dx vs l zs, v = .ref a ∧ Slt H1 a C dx vs ∧ vs[i]? = some (some (.ref l)) ∧ SqT K H1 l zs ∧ R (Itt K l) H1) (h.run σ F L s c _ X q) fun x F1 e1 ⟨a, q1, hx⟩ => .of fun F2 N H e A Qk qk => by
    obtain ⟨ad, dx, vs, l, rfl, h1, h2, h3, h4⟩ := hS _ _ _ hx
    obtain ⟨l', zs, el, hs, hr⟩ := id h4
    cases el
    refine ⟨ad, dx, vs, l, zs, rfl, at_slt A (e _ _ h1) (e _ _ h2), h3, sqT_up (e.trans A.ex) hs, ?_⟩
    have hi := i_tup (σ := []) (te := tC (.ref l)) (L := L) (r_c (R := Tp K ((f a).map Rb)) h4)
    have := hi F2 N H e A (fun J H' => J = Itt K l → Qk J H') fun J F3 H3 e3 A3 hJ _ => qk J F3 H3 e3 A3 ⟨f a, q1, hJ⟩
    obtain ⟨l2, el, _, r⟩ := this
    cases el
    exact r rfl⟩
/-! slices -/
structure TrO (Z : Wsh ε) (ρ : List (Option VP)) (κ : List Ow) (to : TO) (m : Wm ε (Option Nat)) : Prop where
  run : ∀ σ F L, SatV ρ σ F → SatC κ σ F L → ∀ Q X, m Q X → RunW Z (to σ) F L (fun o _ => ∃ k : Option Nat, Q k ∧ o = k.map fun n => (n : Int)) X
theorem to_no : TrO Z ρ κ tNoPart (pur none) := ⟨fun σ F L s c Q X q => .of fun F1 N H e A Qk qk => qk none F1 H (Same.refl _) A ⟨none, q, rfl⟩⟩
theorem to_some {m : Wm ε Nat} (h : TrE Z ρ κ te m (fD K dN)) : TrO Z ρ κ (tPart te) (fun Q X => m (fun n => Q (some n)) X) :=
  ⟨fun σ F L s c Q X q => rw_bind (k := te σ) (k2 := fun x H Q => ∃ i, x = .int i ∧ Q (some i) H) (h.run σ F L s c _ X q) fun x F1 e1 ⟨n, q1, hx⟩ => .of fun F2 N H e A Qk qk => by
    cases hx
    exact ⟨(n : Int), rfl, qk _ F2 H (Same.refl _) A ⟨some n, q1, rfl⟩⟩⟩
/-- xs[lo:hi] -/
def cutL (xs : List α) (lo hi : Option Nat) : List α := (xs.take (hi.getD xs.length)).drop (lo.getD 0)
theorem cut_eq {xs : List V} {lo hi : Option Nat} : cutV xs (lo.map fun n => (n : Int)) (hi.map fun n => (n : Int)) = cutL xs lo hi := by
  have e1 : HT.sIx xs.length 0 (lo.map fun n => (n : Int)) = min (lo.getD 0) xs.length := by
    cases lo with
    | none => show (0 : Nat) = min 0 xs.length; omega
    | some n => exact HT.sIx_nat _ _ _
  have e2 : HT.sIx xs.length xs.length (hi.map fun n => (n : Int)) = min (hi.getD xs.length) xs.length := by
    cases hi with
    | none => show xs.length = min xs.length xs.length; omega
    | some n => exact HT.sIx_nat _ _ _
  unfold cutV cutL
  rw [e1, e2, List.drop_take]
  apply List.ext_getElem?
  intro n
  rw [List.getElem?_take, List.getElem?_take, List.getElem?_drop, List.getElem?_drop]
  by_cases h : lo.getD 0 ≤ xs.length
  · rw [Nat.min_eq_left h]
    by_cases h2 : n < min (hi.getD xs.length) xs.length - lo.getD 0
    · rw [if_pos h2, if_pos (by omega)]
    · rw [if_neg h2]
      split
      · rw [List.getElem?_eq_none (by omega)]
      · rfl
  · rw [if_neg (by omega)]
    split
    · rw [List.getElem?_eq_none (by omega)]
    · rfl
theorem cutL_each {xs : List α} {vs : List V} {F : Hp} {lo hi : Option Nat} (h : Each (xs.map R) vs F) : Each ((cutL xs lo hi).map R) (cutL vs lo hi) F := by
  have hl : vs.length = xs.length := by rw [each_length h, List.length_map]
  have tk : ∀ (n : Nat) (xs : List α) (vs : List V), Each (xs.map R) vs F → Each ((xs.take n).map R) (vs.take n) F := by
    intro n
    induction n with
    | zero => intro xs vs _; exact True.intro
    | succ n ih => intro xs vs h; match xs, vs, h with
      | [], [], _ => exact True.intro
      | x :: xs, v :: vs, h => exact ⟨h.1, ih xs vs h.2⟩
  have dp : ∀ (n : Nat) (xs : List α) (vs : List V), Each (xs.map R) vs F → Each ((xs.drop n).map R) (vs.drop n) F := by
    intro n
    induction n with
    | zero => intro xs vs h; exact h
    | succ n ih => intro xs vs h; match xs, vs, h with
      | [], [], _ => exact True.intro
      | x :: xs, v :: vs, h => exact ih xs vs h.2
  unfold cutL
  rw [hl]
  exact dp _ _ _ (tk _ _ _ h)
theorem tr_slT {tl th : TO} {mlo mhi : Wm ε (Option Nat)} [∀ a, Mono (R a)] (h : TrE Z ρ κ te ml (fTp K R)) (hl : TrO Z ρ κ tl mlo) (hh : TrO Z ρ κ th mhi) :
    TrE Z ρ κ (L2.tSl (rSlA K) te tl th) (fun Q X => ml (fun xs => mlo (fun lo => mhi (fun hi => Q (cutL xs lo hi)) X) X) X) (fTp K R) :=
  ⟨inferInstance, fun σ F L s c Q X q => rw_bind (k := te σ) (h.run σ F L s c _ X q) fun x F1 e1 ⟨xs, q1, hx⟩ => rw_bind (k := tl σ) (hl.run σ F1 L (satV_up e1 s) (satC_up e1 c) _ X q1) fun o1 F2 e2 ⟨lo, q2, hlo⟩ =>
    rw_bind (k := th σ) (k2 := fun o2 H Q => rSlA K x o1 o2 H Q) (hh.run σ F2 L (satV_up (e1.trans e2) s) (satC_up (e1.trans e2) c) _ X q2) fun o2 F3 e3 ⟨hi, q3, hhi⟩ => .of fun F4 N H e A Qk qk => by
      obtain ⟨a, vs, rfl, hs, hr⟩ := id hx
      subst hlo hhi
      have hx4 : Tp K (xs.map R) (.ref a) F4 := Mono.mono (R := Tp K (xs.map R)) _ _ _ ((e2.trans e3).trans e) hx
      have hl : vs.length = xs.length := by rw [each_length hr, List.length_map]
      refine ⟨a, vs, rfl, sqT_up (((e2.trans e3).trans e).trans A.ex) hs, fun hw => ?_, fun _ p hp => ?_⟩
      · have e5 : cutL vs lo hi = vs := by
          rw [← cut_eq]
          unfold cutV
          rw [hw.1, hw.2, List.drop_zero, Nat.sub_zero, List.take_length]
        have e6 : cutL xs lo hi = xs := by
          have hle : (cutL xs lo hi).length = xs.length := by
            have := congrArg List.length e5
            unfold cutL at this ⊢
            rw [List.length_drop, List.length_take] at this ⊢
            rw [hl] at this
            exact this
          unfold cutL at hle ⊢
          rw [List.length_drop, List.length_take] at hle
          have z1 : lo.getD 0 = 0 ∨ xs.length = 0 := by omega
          rcases z1 with z1 | z1
          · rw [z1, List.drop_zero, List.take_of_length_le (by rw [z1] at hle; omega)]
          · rw [List.length_eq_zero_iff.mp z1, List.take_nil, List.drop_nil]
        exact qk _ F4 H (Same.refl _) A ⟨_, q3, by rw [e6]; exact hx4⟩
      · rw [cut_eq]
        exact qk _ (upd F4 p _) _ (same_new (A.free hp)) (A.new hp) ⟨_, q3, p, _, rfl, .inl (.inl upd_same), cutL_each (MonoL.mono _ _ _ (((e2.trans e3).trans e).trans (same_new (A.free hp))) hr)⟩⟩
/-! a list so many times -/
theorem flat_rep {xs : List α} {vs : List V} {F : Hp} (h : Each (xs.map R) vs F) : ∀ n : Nat, Each (((List.replicate n xs).flatten).map R) (List.replicate n vs).flatten F
  | 0 => True.intro
  | n + 1 => by
    rw [List.replicate_succ, List.replicate_succ, List.flatten_cons, List.flatten_cons, List.map_append]
    exact each_app h (flat_rep h n)
end
/-! ### an object being made -/
section
variable {α : Type} {ρ : List (Option VP)} {K : PySem.W.Frag} {σ : L2.St} {F : Hp} {L : Cells} {Nx : L2.St → Hp → Cells → Prop} {Rt : VP} {u : TS} {tv : TE} {tt : TT} {C a dx : Addr} {f : Str} {i : Nat} {vs : List (Option V)} {o o2 : HO} {R : α → VP} {m : Wm Empty α} {mb : Wm Empty Bool}
theorem run0 {k : Hp → (α → Hp → Prop) → Prop} {S : α → Hp → Prop} (h : RunW Z0 k F L S X0) : Run k F L S := fun F1 N H e A Q q => h F1 N H e A wish0 Q q
/-- self.f = value -/
theorem q_slW (s : SlF K C f i) (hc : SCell a C dx vs o o2) (h0 : σ[0]? = some (some (.ref a))) (hv : TrE Z0 ρ [] tv m R) (sv : SatV ρ σ F) {Q : α → Prop} (q : m Q X0)
    (k : ∀ x v F1, Same F F1 → Q x → R x v F1 → RunS u σ F1 ((a, SlO a C dx (putS i v vs)) :: (dx, .xd []) :: L) Nx Rt) : RunS (tSeq (sSl K (tVar 0) tv f) u) σ F ((a, o) :: (dx, o2) :: L) Nx Rt := by
  have mo : Mono (fun v F1 => ∃ x, Q x ∧ R x v F1) := ⟨fun v F1 F2 e ⟨x, h1, h2⟩ => ⟨x, h1, (hv.mono x).mono _ _ _ e h2⟩⟩
  exact q_slset (R := fun v F1 => ∃ x, Q x ∧ R x v F1) s hc (r_varE h0) (run0 (hv.run σ F _ sv True.intro Q X0 q)) fun v F1 e ⟨x, h1, h2⟩ => k x v F1 e h1 h2
theorem s_slW (s : SlF K C f i) (hc : SCell a C dx vs o o2) (h0 : σ[0]? = some (some (.ref a))) (hv : TrE Z0 ρ [] tv m R) (sv : SatV ρ σ F) {Q : α → Prop} (q : m Q X0)
    (k : ∀ x v F1, Same F F1 → Q x → R x v F1 → Nx σ F1 ((a, SlO a C dx (putS i v vs)) :: (dx, .xd []) :: L)) : RunS (sSl K (tVar 0) tv f) σ F ((a, o) :: (dx, o2) :: L) Nx Rt := by
  have mo : Mono (fun v F1 => ∃ x, Q x ∧ R x v F1) := ⟨fun v F1 F2 e ⟨x, h1, h2⟩ => ⟨x, h1, (hv.mono x).mono _ _ _ e h2⟩⟩
  exact s_slset (R := fun v F1 => ∃ x, Q x ∧ R x v F1) s hc (r_varE h0) (run0 (hv.run σ F _ sv True.intro Q X0 q)) fun v F1 e ⟨x, h1, h2⟩ => k x v F1 e h1 h2
end
end Tw

/-! Tx1: isinstance of tuples of objects, of objects. -/
namespace Tw
open PySem PySem.Spec PyProof.Rows L2 SlX StX Rs Ma Sn
variable [Rs.Tabz]
section
variable {ε α : Type} {Z : Wsh ε} {ρ : List (Option VP)} {κ : List Ow} {K : PySem.W.Frag} {C : Addr} {R Ra : α → VP} {F H : Hp}
theorem ty_sqT {a : Addr} {xs : List V} (h : SqT K H a xs) : TyX K H (.ref a) (.type "tuple") := by
  rcases h with (h | ⟨o, h⟩) | ⟨o, its, n, h, hc, _⟩
  · exact .base (.tup h)
  · exact .fTuple h
  · exact .kTuple h hc
theorem c_isiTp [∀ a, Mono (R a)] : Cb ε (rIsi K) (fun p : List α × Unit => [fTp K R p.1, Eqv (.ty "tuple")]) (fun _ => pur true) (fD K dB) := .of fun g vs F L hv Q X q1 => by
  obtain ⟨v, u, rfl, h1, h2⟩ := each2 hv
  exact ⟨true, q1, r_isi (σ := []) (t := tCons (tC v) (tCons (tC u) tNil)) (K := K) (ty := .type "tuple") (b := true) (r_cons (r_c (R := fTp K R g.1) h1) (r_cons (r_c h2) r_nil)) (fun v F1 F2 H hv e1 e2 => by
    obtain ⟨a, xs, rfl, hs, _⟩ := hv
    exact ty_sqT (sqT_up (e1.trans e2) hs)) (kit_ty (by decide +kernel))⟩
theorem c_isiOwn [∀ a, Mono (Ra a)] (sc : SCls K C) (si : SIsi K C) (kit : PySem.W.kitOne K (.ref C) (.ref C) = some true) (hS : ∀ a v F, Ra a v F → IsOb C v F) :
    Cb ε (fun xs H Q => rIsi K xs H Q ∨ rIsiSl K (.ref C) xs H Q) (fun p : α × Unit => [Ra p.1, Eqv (.ref C)]) (fun _ => pur true) (fD K dB) := .of fun g vs F L hv Q X q1 => by
  obtain ⟨v, u, rfl, h1, h2⟩ := each2 hv
  cases h2
  obtain ⟨a, dx, vs, rfl, p1, p2⟩ := hS _ _ _ h1
  exact ⟨true, q1, fun F2 N H e2 A Qk qk => .inr ⟨a, C, dx, vs, .ref C, true, rfl, rfl, fun w hw => hw, at_slt A (e2 _ _ p1) (e2 _ _ p2), sc, si, kit, qk _ F2 H (Same.refl _) A (.bl true)⟩⟩
theorem tr_clsV : TrE Z ρ κ (tC (.ref C)) (pur ()) fun _ : Unit => Eqv (.ref C) := ⟨fun _ => inferInstance, fun σ F L s c Q X q => .of (run_ret fun F1 e => ⟨(), q, rfl⟩)⟩
end
/-! ### defs that fall off their end -/
section
variable {P : Program} {w : World} {K : PySem.W.Frag} {mg : Str → Option Value} {base : Heap} {γ : Type}
theorem gw_metN {x qual : Str} {stt : Stmt} {f : Addr} {fd : FuncData} {N ps : List Str} {k : Nat} {Rs : γ → List VP} {spec : γ → (Unit → Prop) → Prop} (F : Fun K x qual stt f fd) (Sc : FnScope N ps (defScope stt)) (len : ∀ g, (Rs g).length = ps.length) (hm : ∀ g, MonoAll (Rs g))
    (body : ∀ (cdv : Value) (A : Around) (outer : List Env) (s : Shared) (H : Hp) (E : XK) (g : γ), Room k (A.deeper (envOfC qual (defScope stt) s.heap.objs.size f cdv)) →
      ∃ t, PSs (cxOf CX0 P w K mg base N qual (defScope stt) f cdv A outer s H E).nox (defBody stt) t ∧ ∃ m : Ws Empty Unit Unit, TrS Z0 (ofArgs (Rs g) N.length) [] t m (fun _ => List.replicate N.length none) (fun _ => []) (fD K dU) ∧ ∀ Q, (∃ vs F, Each (Rs g) vs F) → spec g Q → m (fun _ => Q ()) Q X0) :
    FnOk P w K mg base CX0 (k + 1) f fd ps (SpN Rs spec (fD K dU)) := gw_ok (fun Q _ => Q ()) F Sc len hm _ _ (fun _ _ h => ⟨(), h, fun _ => .non⟩) body
theorem gw_mkN {x : Str} {stt : Stmt} {f : Addr} {fd : FuncData} {N ps : List Str} {k : Nat} {Rs : γ → List VP} {spec : γ → (Unit → Prop) → Prop} (F : Fun K x x stt f fd) (hmg : mg x = some (.ref f)) (b : Binds K fd ps []) (Sc : FnScope N ps (defScope stt)) (len : ∀ g, (Rs g).length = ps.length) (hm : ∀ g, MonoAll (Rs g))
    (body : ∀ (cdv : Value) (A : Around) (outer : List Env) (s : Shared) (H : Hp) (E : XK) (g : γ), Room k (A.deeper (envOfC x (defScope stt) s.heap.objs.size f cdv)) →
      ∃ t, PSs (cxOf CX0 P w K mg base N x (defScope stt) f cdv A outer s H E).nox (defBody stt) t ∧ ∃ m : Ws Empty Unit Unit, TrS Z0 (ofArgs (Rs g) N.length) [] t m (fun _ => List.replicate N.length none) (fun _ => []) (fD K dU) ∧ ∀ Q, (∃ vs F, Each (Rs g) vs F) → spec g Q → m (fun _ => Q ()) Q X0) :
    Gf P w K mg base (k + 1) x (SpN Rs spec (fD K dU)) := ⟨f, fd, ps, gw_metN F Sc len hm body, hmg, F.kp, b⟩
end
theorem forW_inv2 {ε S β δ : Type} {mbd : S → β → Ws ε S δ} {Nx : S → Prop} {Rt : δ → Prop} {X : ε → Prop} : ∀ {xs : List β} {s : S} (J : Nat → S → Prop), J 0 s → (∀ i x s (P : S → Prop), xs[i]? = some x → J i s → (∀ s', J (i + 1) s' → P s') → mbd s x P Rt X) → (∀ s, J xs.length s → Nx s) → forW mbd xs s Nx Rt X
  | [], s, J, h0, _, hn => hn s h0
  | x :: xs, s, J, h0, hb, hn => hb 0 x s _ rfl h0 fun s' h1 => forW_inv2 (fun i => J (i + 1)) h1 (fun i y s P hy => hb (i + 1) y s P hy) hn
theorem fn_in {K : PySem.W.Frag} {x qual : Str} {stt : Stmt} {f : Addr} {fd : FuncData} (F : Fun K x qual stt f fd) : PySem.W.fnIn K f = true := by
  obtain ⟨oc, od, kV, doc, pm, an, cdv, ct, osl, rfl, lk, hcd⟩ := F.ex
  unfold PySem.W.fnIn
  rw [lk]
end Tw

/-! Td0: dicts by numbers and texts, in plain terms. -/
namespace Tw
open PySem PySem.Spec PyProof.Rows L2 SlX StX Rs Ma Sn
variable [Rs.Tabz]
/-- data that are keys of such dicts -/
class NumK {α : Type} (d : α → PyData) where
  key : α → Key
  val : ∀ {K : PySem.W.Frag} {F : Hp} {v : V} {a : α}, Dp K F v (d a) → v = kV (key a)
  inj : ∀ a b, key a = key b → a = b
instance : NumK dN := ⟨fun n => .inl (n : Nat), fun h => by cases h; rfl, fun a b e => by have := Sum.inl.inj e; omega⟩
instance : NumK dInt := ⟨fun n => .inl n, fun h => by cases h; rfl, fun a b e => Sum.inl.inj e⟩
instance : NumK dS := ⟨fun x => .inr x, fun h => by cases h; rfl, fun a b e => Sum.inr.inj e⟩
section
variable {α β : Type} [DecidableEq α] {d : α → PyData} [c : NumK d] {R : β → VP} {F F' : Hp}
def RelD (d : α → PyData) [c : NumK d] (R : β → VP) : List (Key × V) → List (α × β) → Hp → Prop
  | [], [], _ => True
  | z :: zs, p :: ps, F => (z.1 = c.key p.1 ∧ R p.2 z.2 F) ∧ RelD d R zs ps F
  | _, _, _ => False
theorem relD_up [∀ b, Mono (R b)] (e : Same F F') : ∀ {zs : List (Key × V)} {ps : List (α × β)}, RelD d R zs ps F → RelD d R zs ps F'
  | [], [], _ => True.intro
  | z :: zs, p :: ps, ⟨⟨h1, h2⟩, h3⟩ => ⟨⟨h1, Mono.mono _ _ _ e h2⟩, relD_up e h3⟩
  | [], _ :: _, h => h.elim
  | _ :: _, [], h => h.elim
theorem valV_neg {p : Key × V} {r : List (Key × V)} {k : Key} (e : ¬ p.1 = k) : valV (p :: r) k = valV r k := by simp [valV, List.find?_cons, e]
end
/-- a dict that stays -/
def fDI {α β : Type} [DecidableEq α] (d : α → PyData) [c : NumK d] (R : β → VP) : List (α × β) → VP := fun kvs v F => ∃ D zs, v = .ref D ∧ Rd F D (.dK zs) ∧ RelD d R zs kvs F ∧ (kvs.map (·.1)).Nodup
instance {α β : Type} [DecidableEq α] {d : α → PyData} [NumK d] {R : β → VP} [∀ b, Mono (R b)] {kvs : List (α × β)} : Mono (fDI d R kvs) := ⟨fun _ _ _ e ⟨D, zs, h, h1, r, n⟩ => ⟨D, zs, h, rd_up e h1, relD_up e r, n⟩⟩
/-- one's own -/
def ownDI {α β : Type} [DecidableEq α] (d : α → PyData) [c : NumK d] (R : β → VP) (kvs : List (α × β)) : Addr → HO → Hp → Prop := fun _ o F => ∃ zs, o = .dK zs ∧ RelD d R zs kvs F ∧ (kvs.map (·.1)).Nodup
/-! ### new things of one's own -/
structure TrM {ε γ : Type} (Z : Wsh ε) (ρ : List (Option VP)) (κ : List Ow) (te : TE) (m : Wm ε γ) (ow : γ → Addr → HO → Hp → Prop) : Prop where
  run : ∀ σ F L, SatV ρ σ F → SatC κ σ F L → ∀ Q X, m Q X → ∀ F1 N H, Same F F1 → At F1 (L ++ N) H → WishOk Z F1 N X → ∀ Qk : VK, (∀ a o F2 H2 g, Same F1 F2 → At F2 ((a, o) :: (L ++ N)) H2 → (∀ F', Same F2 F' → ow g a o F') → Q g → Qk (.ref a) H2) → te σ H Qk
/-- a thing of one's own, looked at as a value -/
class Bor {γ : Type} (ow : γ → Addr → HO → Hp → Prop) (fam : outParam (γ → VP)) : Prop where
  mono : ∀ g, Mono (fam g)
  bor : ∀ g a o F, F a = none → (∀ F', Same F F' → ow g a o F') → fam g (.ref a) (upd F a o)
instance {α : Type} {R : α → VP} [∀ a, Mono (R a)] : Bor (fun xs : List α => ownL (xs.map R)) (fLn R) := ⟨inferInstance, fun g a o F h q => by
  obtain ⟨vs, rfl, r⟩ := q F (Same.refl _)
  exact ⟨a, vs, rfl, upd_same, MonoL.mono _ _ _ (same_new h) r⟩⟩
instance {α β : Type} [DecidableEq α] {d : α → PyData} [NumK d] {R : β → VP} [∀ b, Mono (R b)] : Bor (ownDI d R) (fDI d R) := ⟨inferInstance, fun g a o F h q => by
  obtain ⟨zs, rfl, r, n⟩ := q F (Same.refl _)
  exact ⟨a, zs, rfl, .inl upd_same, relD_up (same_new h) r, n⟩⟩
section
variable {ε α β γ δ S T : Type} {Z : Wsh ε} {ρ : List (Option VP)} {κ : List Ow} {K : PySem.W.Frag} {td ty tv te ta tb : TE} {t u : TS} {i j : Nat} {R : β → VP} {Rd : δ → VP} {ow : γ → Addr → HO → Hp → Prop} {fam : γ → VP} {g : γ} {ρ2 : S → List (Option VP)} {κ2 : S → List Ow}
theorem TrN.m {Ra : α → VP} {ml : Wm ε (List α)} (h : TrN Z ρ κ te ml Ra) : TrM Z ρ κ te ml (fun xs => ownL (xs.map Ra)) :=
  have := h.mono
  ⟨fun σ F L s c Q X q F1 N H e A wsh Qk qk => h.run σ F L s c Q X q F1 N H e A wsh Qk fun a vs F2 H2 xs e2 A2 r q1 => qk a _ F2 H2 xs e2 A2 (fun F' e' => ⟨vs, rfl, MonoL.mono _ _ _ e' r⟩) q1⟩
end
section
variable {ε α β δ S : Type} [DecidableEq α] {d : α → PyData} [c : NumK d] {Z : Wsh ε} {ρ : List (Option VP)} {κ : List Ow} {K : PySem.W.Frag} {td ty tv te : TE} {u : TS} {i : Nat} {R : β → VP} {Rd : δ → VP} {kvs : List (α × β)} {ρ2 : S → List (Option VP)} {κ2 : S → List Ow} {mv : Wm ε β} {mk : Wm ε α} {md : Wm ε (List (α × β))}
end
end Tw

/-! Td1: comprehensions of two fors. -/
namespace Tw
open PySem PySem.Spec PyProof.Rows L2 SlX StX Rs Ma Sn
variable [Rs.Tabz]
section
variable {ε β γ δ : Type} {Z : Wsh ε} {ρ : List (Option VP)} {κ : List Ow} {wi wi1 : TI} {g g1 : TG} {tt tt1 : TT} {te : TE} {Rd : δ → VP}
end
end Tw

/-! Td2: data taken out of things of one's own; triples. -/
namespace Tw
open PySem PySem.Spec PyProof.Rows L2 SlX StX Rs Ma Sn
variable [Rs.Tabz]
mutual
/-- no list within -/
def noList : PyData → Bool
  | .list _ => false
  | .tuple ds => noLists ds
  | .dict _ => false
  | _ => true
def noLists : List PyData → Bool
  | [] => true
  | d :: ds => noList d && noLists ds
end
theorem noLists_map {α : Type} {d : α → PyData} (h : ∀ a, noList (d a) = true) : ∀ xs : List α, noLists (xs.map d) = true
  | [] => rfl
  | x :: xs => by rw [List.map_cons, noLists, h, noLists_map h xs]; rfl
class NoL {α : Type} (d : α → PyData) : Prop where
  no : ∀ a, noList (d a) = true
instance : NoL dN := ⟨fun _ => rfl⟩
instance : NoL dInt := ⟨fun _ => rfl⟩
instance : NoL dB := ⟨fun _ => rfl⟩
instance : NoL dS := ⟨fun _ => rfl⟩
instance : NoL dU := ⟨fun _ => rfl⟩
instance {α : Type} {d : α → PyData} [h : NoL d] : NoL (dT d) := ⟨fun xs => by rw [dT, noList]; exact noLists_map h.no xs⟩
instance {α β : Type} {d : α → PyData} {e : β → PyData} [h : NoL d] [g : NoL e] : NoL (dP d e) := ⟨fun p => by rw [dP, noList, noLists, noLists, noLists, h.no, g.no]; rfl⟩
instance {α β γ : Type} {d : α → PyData} {e : β → PyData} {f : γ → PyData} [h : NoL d] [g : NoL e] [i : NoL f] : NoL (dP3 d e f) := ⟨fun p => by rw [dP3, noList, noLists, noLists, noLists, noLists, h.no, g.no, i.no]; rfl⟩
/-- the heap told without a -/
def cutF (F : Hp) (a : Addr) : Hp := fun b => if b = a then none else F b
section
variable {K : PySem.W.Frag} {F : Hp} {a : Addr} {o : HO}
theorem sqT_cut (h1 : F a = some o) (h2 : ∀ xs, o ≠ .tup xs) (h3 : ∀ o' u, o ≠ .frz o' u) {b : Addr} {xs : List V} (h : SqT K F b xs) : SqT K (cutF F a) b xs := by
  rcases h with (h | ⟨u, h⟩) | h
  · refine .inl (.inl ?_)
    have : b ≠ a := fun z => by
      rw [z, h1] at h
      exact h2 _ (Option.some.inj h)
    show (if b = a then none else F b) = _
    rw [if_neg this, h]
  · refine .inl (.inr ⟨u, ?_⟩)
    have : b ≠ a := fun z => by
      rw [z, h1] at h
      exact h3 _ _ (Option.some.inj h)
    show (if b = a then none else F b) = _
    rw [if_neg this, h]
  · exact .inr h
mutual
theorem dp_cut (h1 : F a = some o) (h2 : ∀ xs, o ≠ .tup xs) (h3 : ∀ o' u, o ≠ .frz o' u) : ∀ (d : PyData) (v : V), noList d = true → Dp K F v d → Dp K (cutF F a) v d
  | .none, _, _, h => by cases h; exact .non
  | .bool b, _, _, h => by cases h; exact .bl b
  | .int i, _, _, h => by cases h; exact .int i
  | .str x, _, _, h => by cases h; exact .str x
  | .list ds, _, n, _ => by cases n
  | .dict _, _, n, _ => by cases n
  | .tuple ds, _, n, h => by
    cases h with
    | tup hs ha => exact .tup (sqT_cut h1 h2 h3 hs) (dps_cut h1 h2 h3 ds _ n ha)
theorem dps_cut (h1 : F a = some o) (h2 : ∀ xs, o ≠ .tup xs) (h3 : ∀ o' u, o ≠ .frz o' u) : ∀ (ds : List PyData) (vs : List V), noLists ds = true → DpAll K F vs ds → DpAll K (cutF F a) vs ds
  | [], _, _, h => by cases h; exact .nil
  | d :: ds, _, n, h => by
    rw [noLists, Bool.and_eq_true] at n
    cases h with
    | cons x1 x2 => exact .cons (dp_cut h1 h2 h3 d _ n.1 x1) (dps_cut h1 h2 h3 ds _ n.2 x2)
end
end
/-- what is told of such values does not lean on lists, dicts -/
class Cut {δ : Type} (R : δ → VP) : Prop where
  cut : ∀ d v F a o, F a = some o → (∀ xs, o ≠ .tup xs) → (∀ o' u, o ≠ .frz o' u) → R d v F → R d v (cutF F a)
instance {K : PySem.W.Frag} {α : Type} {d : α → PyData} [h : NoL d] : Cut (fD K d) := ⟨fun x v F a o h1 h2 h3 r => dp_cut h1 h2 h3 (d x) v (h.no x) r⟩
class NotFrz {γ : Type} (ow : γ → Addr → HO → Hp → Prop) : Prop where
  no : ∀ g a o F, ow g a o F → ∀ o' u, o ≠ .frz o' u
instance {α : Type} {R : α → VP} : NotFrz (fun xs : List α => ownL (xs.map R)) := ⟨fun g a o F ⟨vs, h, _⟩ o' u z => by rw [h] at z; cases z⟩
instance {α β : Type} [DecidableEq α] {d : α → PyData} [NumK d] {R : β → VP} : NotFrz (ownDI d R) := ⟨fun g a o F ⟨zs, h, _⟩ o' u z => by rw [h] at z; cases z⟩
section
variable {ε α β γ δ : Type} {Z : Wsh ε} {ρ : List (Option VP)} {κ : List Ow} {K : PySem.W.Frag} {te ta tb tc : TE} {i : Nat} {Rd : δ → VP} {ow : γ → Addr → HO → Hp → Prop} {fam : γ → VP} {g : γ}
/-! triples -/
variable {d : α → PyData} {e : β → PyData} {f : γ → PyData} {ma : Wm ε α} {mb : Wm ε β} {mc : Wm ε γ} {mp : Wm ε (α × β × γ)}
end
end Tw

/-! Sn9: sorted of a set of nested keys. -/
namespace Tw
open PySem PySem.Spec PyProof.Rows L2 SlX StX Rs Ma Sn
variable [Rs.Tabz]
section
variable {X : Cx}
variable {e : Expr} {es : List Expr} {t : TA} {p pos : Pos}
end
end Tw

/-! Te0: repr of data; what is taken off a list's end; a dict made of pairs; two places of a dict at once; triples as rows. -/
namespace Tw
open PySem PySem.Spec PyProof.Rows L2 SlX StX Rs Ma Sn
variable [Rs.Tabz]
/-! ### repr -/
/-- a text can be made of it -/
def Sayable (d : PyData) : Prop := d.showable = true ∧ d.hasDict = false ∧ d.depth ≤ 60 ∧ d.shown.length ≤ sizeLine
section
variable {X : Cx}
variable {e : Expr} {es : List Expr} {t : TA} {p pos : Pos}
end
/-- lists and tuples -/
class Shown {α : Type} (d : α → PyData) : Prop where
  ref : ∀ a (K : PySem.W.Frag) (F : Hp) v, Dp K F v (d a) → ∃ p, v = .ref p
instance {α : Type} {d : α → PyData} : Shown (dT d) := ⟨fun a K F v h => by cases h; exact ⟨_, rfl⟩⟩
instance {α : Type} {d : α → PyData} : Shown (dL d) := ⟨fun a K F v h => by cases h; exact ⟨_, rfl⟩⟩
instance {α β : Type} {d : α → PyData} {e : β → PyData} : Shown (dP d e) := ⟨fun a K F v h => by cases h; exact ⟨_, rfl⟩⟩
/-! ### a triple as a row -/
section
variable {ε α β γ δ S : Type} {Z : Wsh ε} {ρ : List (Option VP)} {κ : List Ow} {K : PySem.W.Frag} {te ta tb tx ty : TE} {t u : TS} {i j : Nat} {R : α → VP} {Rd : δ → VP} {ρ2 : S → List (Option VP)} {κ2 : S → List Ow}
/-! ### x = ys.pop() -/
end
/-! ### a dict made of pairs -/
section
variable {X : Cx} {e : Expr} {es : List Expr} {t : TA} {p pos : Pos}
end
section
variable {α β : Type} [DecidableEq α] {d : α → PyData} [c : NumK d] {F F' : Hp}
end
section
variable {ε α β δ S : Type} [DecidableEq α] {d : α → PyData} [c : NumK d] {Z : Wsh ε} {ρ : List (Option VP)} {κ : List Ow} {K : PySem.W.Frag} {te ta tb tx ty : TE} {u : TS} {i : Nat} {R : β → VP} {Rd : δ → VP} {kvs : List (α × β)} {ρ2 : S → List (Option VP)} {κ2 : S → List Ow}
/-! ### x[a], x[b] = y, z -/
end
/-! ### f(e, .., *y) -/
section
variable {X : Cx} {e : Expr} {es : List Expr} {t : TA} {p pos : Pos} {f : Str}
end
end Tw

/-! Te1: promises of defs that are called where no repr is under way. -/
namespace Tw
open PySem PySem.Spec PyProof.Rows L2 SlX StX Rs Ma Sn
variable [Rs.Tabz]
structure FnG (P : Program) (w : World) (K : PySem.W.Frag) (mg : Str → Option Value) (base : Heap) (k : Nat) (f : Addr) (fd : FuncData) (ps : List Str) (sp : Sp) : Prop where
  len : ∀ vs H Q E, sp vs H Q E → vs.length = ps.length
  run : ∀ (A : Around) (outer : List Env) (s : Shared) (H : Hp) (args : Args) (us : List Value) (vs : List V) (Q : VK) (E : XK), A.guards = some [] → Room k A → Env0 P w K mg base A outer s H → BindsTo s fd args (ps.zip us) → Vals vs us → sp vs H Q E →
    codeAny (model P w) A (.call (.ref f) args) (CR CX0 outer P w H s Q E) s
theorem FnG.imp {P : Program} {w : World} {K : PySem.W.Frag} {mg : Str → Option Value} {base : Heap} {k : Nat} {f : Addr} {fd : FuncData} {ps : List Str} {sp sp' : Sp} (F : FnG P w K mg base k f fd ps sp) (h : ∀ vs H Q E, sp' vs H Q E → sp vs H Q E) : FnG P w K mg base k f fd ps sp' :=
  ⟨fun vs H Q E q => F.len vs H Q E (h _ _ _ _ q), fun A outer s H args us vs Q E hg hr e0 hb r q => F.run A outer s H args us vs Q E hg hr e0 hb r (h _ _ _ _ q)⟩
section
variable {X : Cx} {e : Expr} {es : List Expr} {t : TA} {p pos : Pos} {f : Str}
end
section
variable {P : Program} {w : World} {K : PySem.W.Frag} {mg : Str → Option Value} {base : Heap}
variable {γ δ S : Type}
end
end Tw

/-! Te2: the head of a law whose def is promised where no repr is under way. -/
namespace Tw
open PySem PySem.Spec PyProof.Rows L2 SlX StX Rs Ma Sn
variable [Rs.Tabz]
section
variable {P : Program} {w : World} {K : PySem.W.Frag} {mg mb : Str → Option Value} {k : Nat} {fa a : Addr} {fd : FuncData} {x : Str} {s₁ : Shared} {vs : List Value} {ns : List Int}
end
end Tw

/-! Te3: == of tuples of objects with an own ==, told where they are equal. -/
namespace Tw
open PySem PySem.Spec PyProof.Rows L2 SlX StX Rs Ma Sn
variable [Rs.Tabz]
section
variable {X : Cx} {α : Type} {Ra : α → VP} {C : Addr} {k : Nat}
def DOwn (Ra : α → VP) : V → V → Hp → Prop := fun x y H => ∃ a, Ra a x H ∧ Ra a y H
theorem mon_own [∀ a, Mono (Ra a)] : Mon (DOwn Ra) := fun x y H H' e ⟨a, h1, h2⟩ => ⟨a, Mono.mono _ _ _ e h1, Mono.mono _ _ _ e h2⟩
theorem rcG_own [∀ a, Mono (Ra a)] {spec : α × α → (Bool → Prop) → Prop} (c : EqS X.prog X.w X.K X.mg X.base k C (SpN (fun p : α × α => [Ra p.1, Ra p.2]) spec (fD X.K dB))) (hn : PySem.W.notFirst X.K C (.ref C) = true) (h1 : ∀ a v F, Ra a v F → IsOb C v F)
    (hs : ∀ a (Q : Bool → Prop), Q true → spec (a, a) Q) (hz : ∀ P, ¬ Tabz.ts P) : RcG X k (DOwn Ra) := by
  intro A pins s σ H x y u v sb I rx ry ⟨g, ra, rb⟩
  obtain ⟨f, _, _, hq, hf, F⟩ := c.ex
  obtain ⟨p, dx, vs, rfl, q1, q2⟩ := h1 _ _ _ ra
  obtain ⟨p', dy, ws, rfl, q3, q4⟩ := h1 _ _ _ rb
  cases (show u = Value.ref p from rx)
  cases (show v = Value.ref p' from ry)
  obtain ⟨sl, od, _, J, _⟩ := slt_inst I (.inr ⟨q1, q2⟩)
  obtain ⟨sl', od', _, J', _⟩ := slt_inst I (.inr ⟨q3, q4⟩)
  obtain ⟨m, hF⟩ := I.fr
  refine PySem.W.cmp_K (op := .Eq) (tb := .ref C) sb.room.units0 hF I.ok.mod.kin J J'.type hn hq hf ?_
  have e := I.env0
  have e0 : Env0 X.prog X.w X.K X.mg X.base A X.stack s H := ⟨by rw [sb.fr]; exact e.frames, e.mod, e.bs, e.bsz, e.funs, e.frf, e.hok, e.bare⟩
  have hsp : SpN (fun p : α × α => [Ra p.1, Ra p.2]) spec (fD X.K dB) [.ref p, .ref p'] H (fun v H' => v = .bl true ∧ Ext H H') E0 :=
    ⟨(g, g), H, [], fun b => b = true, At.nil (Same.refl H) (fun P hP => absurd hP (hz P)) (fun P hP => absurd hP (hz P)), ⟨ra, rb, True.intro⟩, hs g _ rfl, fun d v F' H' e' A' (pd : d = true) r => by
      subst pd
      exact ⟨dt_bl r, fun b o z => A'.ex _ _ (e' _ _ z)⟩⟩
  refine wpAny_call (codeAny_mono (F A X.stack s H [.ref p, .ref p'] [.ref p, .ref p'] _ E0 sb.room e0 (.cons rfl (.cons rfl .nil)) hsp) fun r s' hq => ?_)
  match r, hq with
  | .error err, hq => exact hq.elim
  | .ok (.ret w), hq =>
    obtain ⟨z, H', I', rz, ez, ex⟩ := I.after hq
    subst ez
    cases rz
    exact ⟨rfl, H', I', ex⟩
end
section
variable {ε α : Type} {K : PySem.W.Frag} {Ra : α → VP}
theorem at_ext {F H H' : Hp} {L : Cells} (A : At F L H) (e : Ext H H') : At F L H' := ⟨fun b o z => e _ _ (A.ex _ _ z), fun p hp => e _ _ (A.on p hp), A.off, A.nd, A.nt, A.nb, A.nc, fun P hP => (A.tb P hP).imp fun ps h => ⟨e _ _ h.1, h.2⟩, A.ft⟩
theorem prs_own {H : Hp} : ∀ {as : List α} {xs ys : List V}, Each (as.map Ra) xs H → Each (as.map Ra) ys H → Prs (DOwn Ra) xs ys H
  | [], [], [], _, _ => .nil
  | a :: as, x :: xs, y :: ys, h1, h2 => .cons ⟨a, h1.1, h2.1⟩ (prs_own (as := as) h1.2 h2.2)
  | [], _ :: _, _, h, _ => h.elim
  | [], [], _ :: _, _, h => h.elim
  | _ :: _, [], _, h, _ => h.elim
  | _ :: _, _ :: _, [], _, h => h.elim
end
end Tw

/-! Te4: of what a short text can be made. -/
namespace Tw
open PySem PySem.Spec PyProof.Rows L2 SlX StX Rs Ma Sn
variable [Rs.Tabz]
structure Says (d : PyData) (n w : Nat) : Prop where
  sh : d.showable = true
  nd : d.hasDict = false
  dp : d.depth ≤ n
  lv : d.leavesShort 13 = true
  wt : d.bulk ≤ w
theorem Says.ok {d : PyData} {n w : Nat} (h : Says d n w) (hn : n ≤ 60) (hw : w ≤ 1048576) : Sayable d :=
  ⟨h.sh, h.nd, Nat.le_trans h.dp hn, by
  have h1 := PyData.shown_le_bulk 13 (by decide) d h.lv
  have h2 := h.wt
  rw [sizeLine_eq]
  omega⟩
section
variable {α : Type} {d : α → PyData} {n w m : Nat}
end
section
variable {ε α : Type} {Z : Wsh ε} {ρ : List (Option VP)} {κ : List Ow} {K : PySem.W.Frag} {te : TE} {t : TA} {R : α → VP}
end
/-! items by any whole number -/
theorem each_atI {α : Type} {R : α → VP} {F : Hp} {xs : List α} {vs : List V} {i : Int} {a : α} (h : Each (xs.map R) vs F) (e : atI xs i = some a) : ∃ v, atI vs i = some v ∧ R a v F := by
  have hl : vs.length = xs.length := by rw [each_length h, List.length_map]
  unfold atI at e ⊢
  rw [hl]
  cases hx : ixN xs.length i with
  | none => rw [hx] at e; cases e
  | some j =>
    rw [hx] at e
    have e : xs[j]? = some a := e
    have hj : j < vs.length := by rw [hl]; exact (List.getElem?_eq_some_iff.mp e).1
    obtain ⟨R', g1, g2⟩ := each_at h (List.getElem?_eq_getElem hj)
    rw [List.getElem?_map, e] at g1
    cases g1
    exact ⟨vs[j], List.getElem?_eq_getElem hj, g2⟩
section
variable {ε α : Type} {K : PySem.W.Frag} {R : α → VP}
theorem o_ixTpI [∀ a, Mono (R a)] : Op2 ε (rIxT K) (fTp K R) (fD K dInt) (fun xs i Q X => ∃ a, atI xs i = some a ∧ Q a) R :=
  op_of fun xs i x y F L hx hy Q X ⟨a, h, q⟩ => ⟨a, q, fun F1 N H e A Q q => by
    obtain ⟨p, vs, rfl, hs, hr⟩ := hx
    cases hy
    obtain ⟨v, hv, g⟩ := each_atI hr h
    exact ⟨p, vs, i, v, rfl, rfl, sqT_up (e.trans A.ex) hs, hv, q _ F1 H (Same.refl _) A (Mono.go g e)⟩⟩
end
theorem atI_last {α : Type} {xs : List α} (h : xs ≠ []) : atI xs (-1) = some (xs.getLast h) := by
  have := List.length_pos_iff.mpr h
  unfold atI ixN
  rw [if_neg (by omega), if_pos (by omega)]
  show xs[_]? = _
  rw [List.getLast_eq_getElem, List.getElem?_eq_some_iff]
  have e : ((xs.length : Int) + -1).toNat = xs.length - 1 := by omega
  exact ⟨by omega, by congr 1⟩
instance {α β γ : Type} [DecidableEq α] [DecidableEq β] [DecidableEq γ] {d : α → PyData} {e : β → PyData} {f : γ → PyData} {n m k : Nat} [h : Nice d n] [g : Nice e m] [j : Nice f k] : Nice (dP3 d e f) (n + m + k + 1) := ⟨fun a => by
  simp only [dP3, PyData.canLay0, PyData.canLayAll0, h.lay, g.lay, j.lay, Bool.and_self], fun a => by
  have h1 := h.dep a.1
  have h2 := g.dep a.2.1
  have h3 := j.dep a.2.2
  simp only [dP3, PyData.depth, PyData.depthAll]
  omega, fun a b => by
  simp only [dP3, PyData.eqv, PyData.eqvAll, h.eq, g.eq, j.eq, Bool.and_true]
  obtain ⟨a1, a2, a3⟩ := a
  obtain ⟨b1, b2, b3⟩ := b
  by_cases h1 : a1 = b1 <;> by_cases h2 : a2 = b2 <;> by_cases h3 : a3 = b3 <;> simp [h1, h2, h3]⟩
end Tw

/-! Tf0: three things bound at once; a comprehension that takes items off a list; index; sorted triples; range by twos. -/
namespace Tw
open PySem PySem.Spec PyProof.Rows L2 SlX StX Rs Ma Sn
variable [Rs.Tabz]
section
variable {ε α β γ γ' δ S : Type} {Z : Wsh ε} {ρ : List (Option VP)} {κ : List Ow} {K : PySem.W.Frag} {ta tb tc te : TE} {wi : TI} {u : TS} {i j k t : Nat} {Ra : α → VP} {R : α → VP} {Rd : δ → VP} {ow : γ → Addr → HO → Hp → Prop} {ow' : γ' → Addr → HO → Hp → Prop} {fam : γ → VP} {ρ2 : S → List (Option VP)} {κ2 : S → List Ow}
/-! ### return [xs.pop(..) for ..] -/
end
end Tw

/-! Tf1: index; sorted triples; rows of three as triples; range by twos. -/
namespace Tw
open PySem PySem.Spec PyProof.Rows L2 SlX StX Rs Ma Sn
variable [Rs.Tabz]
section
variable {X : Cx} {o e : Expr} {es : List Expr} {to : TE} {t : TA} {name : Str} {apos cpos : Pos} {T id : String} {r : V → List V → Hp → VK → Prop}
theorem pe_bmK (K : PySem.W.Frag) (pa : PlainAttrs T) (slot : Slot T name id) (hty : typeOf (.builtin id) = pure (.type "method_descriptor")) (hm : MtR X id r) (ho : PE X o to) (ha : PA X (e :: es) t)
    (hbase : attributeBase o name X.env (eval o X.env) = eval o X.env := by rfl)
    (hfew : ((backTo cpos (starEach (e :: es) X.env)).all (fun x => !x.1) && (backToKw cpos (keywordEach [] X.env)).all (fun x => x.1.isSome)
      && decide ((e :: es).length + ([] : List Keyword).length + (if ([] : List Keyword).isEmpty then 0 else 1) < 30)) = true := by rfl)
    (hline : (apos.endLine == cpos.line) = true := by rfl) (hs : starEach (e :: es) X.env = (false, eval e X.env) :: starEach es X.env := by rfl) (hplain : (backTo cpos (starEach es X.env)).any (·.1) = false := by rfl) (hK : X.K = K := by rfl) :
    PE X (.Call (.Attribute o name apos) (e :: es) [] cpos) (tBM K T r to t) := by
  subst hK
  exact pe_bm pa slot hty hm ho ha hbase hfew hline hs hplain
end
/-! ### index -/
section
variable {ε α β S δ : Type} {Z : Wsh ε} {ρ : List (Option VP)} {κ : List Ow} {K : PySem.W.Frag} {te tx ta tb tc : TE} {wi : TI} {u : TS} {R : α → VP}
theorem each_ints {F : Hp} : ∀ {xs : List Nat} {vs : List V}, Each (xs.map (fD K dN)) vs F → vs = xs.map fun n => V.int (n : Nat)
  | [], [], _ => rfl
  | x :: xs, v :: vs, h => by
    have h1 : Dp K F v (.int (x : Nat)) := h.1
    cases h1
    rw [each_ints (xs := xs) h.2]; rfl
  | [], _ :: _, h => h.elim
  | _ :: _, [], h => h.elim
/-! ### triples -/
def t3 (p : Nat × Nat × Nat) : List Nat := [p.1, p.2.1, p.2.2]
/-! ### range(a, b, 2) -/
end
end Tw

/-! Tg0: next((x for x, y in enumerate(e) if not y[z]), None). -/
namespace Rs
open PySem PySem.Spec PyProof.Rows L2 GxR

section
variable {prog : Program} {w : World} {A : Around} {E : Value → Shared → Prop} {s : Shared}
end

section
variable {X : Cx} {pins : List (Addr × Obj)} {σ : L2.St} {H : Hp} {s : Shared}
end

variable {X : Cx}
end Rs

/-! Tg1: for x, y in zip(a, b, strict=True), two tuples. -/
namespace Rz
open PySem PySem.Spec PyProof.Rows L2
variable [Rs.Tabz]
open PySem.Sem (wp)
section
variable {prog : Program} {w : World} {A : Around} {E : Value → Shared → Prop} {s : Shared}
open Builtin.SmallTypes (nextOf nextOrEnd)
end
section
end
end Rz

/-! Tg2: zip(.., strict=True) walked, enumerate of a list, next of a generator expression, what is optional, in terms. -/
namespace Tw
open PySem PySem.Spec PyProof.Rows L2 SlX StX Rs Ma Sn
variable [Rs.Tabz]
section
variable {K : PySem.W.Frag} {a b : Addr} {xs ys vs ws : List V} {Ra Ss : List VP} {F1 : Hp}
end
section
variable {ε α β γ δ : Type} {Z : Wsh ε} {ρ : List (Option VP)} {κ : List Ow} {K : PySem.W.Frag} {te ta tb tc : TE} {i : Nat} {R : α → VP} {Rb : β → VP}
/-! ### what is optional -/
def dO : Option Nat → PyData
  | none => .none
  | some n => .int (n : Nat)
instance : Nice dO 0 := ⟨fun a => by cases a <;> rfl, fun a => by cases a <;> exact Nat.zero_le _, fun a b => by
  cases a with
  | none => cases b <;> rfl
  | some x =>
    cases b with
    | none => rfl
    | some y =>
      show ((x : Int) == (y : Int)) = _
      by_cases h : x = y
      · subst h; simp
      · have : (x : Int) ≠ y := by omega
        simp [h, this]⟩
instance : NoL dO := ⟨fun a => by cases a <;> rfl⟩
/-! ### a table has grown -/
theorem At.tab {F H H' : Hp} {L : Cells} {P : Addr} (A : At F L H) (hP : Tabz.ts P) (hnm : Tabz.nm P = none) (t : GxR.Tabbed P H H') : At F L H' := by
  have ne : ∀ {b : Addr} {u : HO}, H b = some u → (∀ ps, u ≠ .tbl ps) → b ≠ P := fun {b u} e h z => by
    obtain ⟨ps, e2, _⟩ := A.tb P hP
    rw [z, e2] at e
    exact h ps (Option.some.inj e).symm
  refine ⟨fun b u e => ?_, fun p q => by rw [t.2 p.1 (ne (A.on p q) (A.nb p q))]; exact A.on p q, A.off, A.nd, A.nt, A.nb, A.nc, fun P2 h2 => ?_, A.ft⟩
  · have hb : b ≠ P := fun z => by rw [z, A.ft P hP] at e; cases e
    rw [t.2 b hb]; exact A.ex b u e
  · by_cases h : P2 = P
    · subst h
      obtain ⟨ps, e, r⟩ := t.1
      exact ⟨ps, e, r, fun q hq => by rw [hnm] at hq; cases hq⟩
    · obtain ⟨ps, e, r⟩ := A.tb P2 h2
      exact ⟨ps, by rw [t.2 P2 h]; exact e, r⟩
end
end Tw

/-! Tg3: promises of defs with a table of code objects; the head of a law with one. -/
namespace Tw
open PySem PySem.Spec PyProof.Rows L2 SlX StX Rs Ma
variable [Rs.Tabz]
section
variable {P : Program} {w : World} {K : PySem.W.Frag} {mg : Str → Option Value} {base : Heap} {γ δ S : Type}
end
end Tw

/-! Me: webs that are often used. -/
namespace Ma
open PySem Rs L2
variable [Rs.Tabz]
def fullRow (n h : Nat) : List Nat := (List.range n).filter fun x => !decide (x = h)
def fullR (n : Nat) : Rows := (List.range n).map (fullRow n)
def starRow (c h : Nat) : List Nat := if h = c then [] else [c]
def starR (n c : Nat) : Rows := (List.range n).map (starRow c)
def chainRow (n f h : Nat) : List Nat := if h = f then [] else [(h + n - 1) % n]
def chainR (n f : Nat) : Rows := (List.range n).map (chainRow n f)
/-- rows made house by house -/
theorem made_ok {n : Nat} {g : Nat → List Nat} (h1 : 1 ≤ n) (h2 : n ≤ 5) (ha : ∀ h, h < n → Asc (g h)) (hb : ∀ h, h < n → ∀ x ∈ g h, x < n ∧ x ≠ h) : Ok ((List.range n).map g) := by
  have e : ((List.range n).map g).length = n := by rw [List.length_map, List.length_range]
  refine ⟨by rw [e]; exact h1, by rw [e]; exact h2, fun r hr => ?_, fun r hr x hx => ?_, fun i r hr hi => ?_⟩
  · obtain ⟨h, hh, rfl⟩ := List.mem_map.mp hr
    exact ha h (List.mem_range.mp hh)
  · obtain ⟨h, hh, rfl⟩ := List.mem_map.mp hr
    rw [e]
    exact (hb h (List.mem_range.mp hh) x hx).1
  · rw [List.getElem?_map] at hr
    by_cases hl : i < n
    · rw [List.getElem?_range hl] at hr
      cases hr
      exact (hb i hl i hi).2 rfl
    · rw [List.getElem?_eq_none (by rw [List.length_range]; omega)] at hr
      cases hr
theorem full_ok {n : Nat} (h1 : 1 ≤ n) (h2 : n ≤ 5) : Ok (fullR n) := made_ok h1 h2 (fun h _ => (asc_range n).filter _) fun h _ x hx => by
  obtain ⟨a, b⟩ := List.mem_filter.mp hx
  exact ⟨List.mem_range.mp a, by simpa using b⟩
theorem star_ok {n c : Nat} (h1 : 1 ≤ n) (h2 : n ≤ 5) (hc : c < n) : Ok (starR n c) := made_ok h1 h2 (fun h _ => by unfold starRow; split <;> simp) fun h _ x hx => by
  unfold starRow at hx
  split at hx
  · cases hx
  · rename_i hne
    rw [List.mem_singleton] at hx
    subst hx
    exact ⟨hc, fun z => hne z.symm⟩
theorem chain_ok {n f : Nat} (h1 : 1 ≤ n) (h2 : n ≤ 5) (hf : f < n) : Ok (chainR n f) := made_ok h1 h2 (fun h _ => by unfold chainRow; split <;> simp) fun h hh x hx => by
  unfold chainRow at hx
  split at hx
  · cases hx
  · rename_i hne
    rw [List.mem_singleton] at hx
    subst hx
    refine ⟨Nat.mod_lt _ (by omega), ?_⟩
    by_cases h0 : h = 0
    · subst h0
      rw [Nat.zero_add, Nat.mod_eq_of_lt (by omega)]
      omega
    · rw [show h + n - 1 = (h - 1) + n from by omega, Nat.add_mod_right, Nat.mod_eq_of_lt (by omega)]
      omega
end Ma

/-! Mf: those who hear somebody's word, round by round. -/
namespace Ma
open PySem Rs L2
variable [Rs.Tabz]
def stepL (rs : Rows) (fs : List Nat) : List Nat := (List.range rs.length).filter fun y => decide (y ∈ fs) || !decide ((row rs y).filter (fun x => decide (x ∈ fs)) = [])
def fromL (rs : Rows) (h : Nat) : Nat → List Nat
  | 0 => [h]
  | k + 1 => stepL rs (fromL rs h k)
section
variable {rs : Rows} {h : Nat} {fs : List Nat} {y k j : Nat}
theorem mem_step : y ∈ stepL rs fs ↔ y < rs.length ∧ (y ∈ fs ∨ ∃ x, x ∈ row rs y ∧ x ∈ fs) := by
  unfold stepL
  rw [List.mem_filter, List.mem_range, Bool.or_eq_true, decide_eq_true_eq, Bool.not_eq_true', decide_eq_false_iff_not, List.filter_eq_nil_iff]
  refine and_congr_right fun _ => or_congr_right ⟨fun z => ?_, fun ⟨x, h1, h2⟩ z => z x h1 (decide_eq_true h2)⟩
  apply Classical.byContradiction
  intro q
  exact z fun x hx hd => q ⟨x, hx, of_decide_eq_true hd⟩
theorem from_lt (hh : h < rs.length) : ∀ {k y : Nat}, y ∈ fromL rs h k → y < rs.length ∧ Reach rs h y
  | 0, y, z => by
    rw [List.mem_singleton.mp z]
    exact ⟨hh, .refl⟩
  | k + 1, y, z => by
    obtain ⟨h1, h2⟩ := mem_step.mp z
    refine ⟨h1, ?_⟩
    rcases h2 with h2 | ⟨x, h2, h3⟩
    · exact (from_lt hh h2).2
    · exact .step (from_lt hh h3).2 h1 h2
theorem from_up (hh : h < rs.length) (z : y ∈ fromL rs h k) : y ∈ fromL rs h (k + 1) := mem_step.mpr ⟨(from_lt hh z).1, .inl z⟩
theorem from_le (hh : h < rs.length) (hk : k ≤ j) (z : y ∈ fromL rs h k) : y ∈ fromL rs h j := by
  obtain ⟨d, rfl⟩ : ∃ d, j = k + d := ⟨j - k, by omega⟩
  induction d with
  | zero => exact z
  | succ d ih => exact from_up hh (ih (by omega))
theorem from_nodup : ∀ {k : Nat}, (fromL rs h k).Nodup
  | 0 => by unfold fromL; simp
  | k + 1 => asc_nodup ((asc_range _).filter _)
theorem sub_len {a b : List Nat} (ha : a.Nodup) (hb : b.Nodup) (hs : ∀ x ∈ a, x ∈ b) : a.length ≤ b.length := by
  have p : (b.filter fun x => decide (x ∈ a)).Perm a := (List.perm_ext_iff_of_nodup (hb.filter _) ha).mpr fun x => by
    rw [List.mem_filter, decide_eq_true_eq]
    exact ⟨fun z => z.2, fun z => ⟨hs x z, z⟩⟩
  rw [← p.length_eq]
  exact List.length_filter_le _ _
theorem from_grow (hh : h < rs.length) : ∀ k, (∃ j, j < k ∧ ∀ y, y ∈ fromL rs h (j + 1) → y ∈ fromL rs h j) ∨ k + 1 ≤ (fromL rs h k).length
  | 0 => .inr (by unfold fromL; simp)
  | k + 1 => by
    rcases from_grow hh k with ⟨j, h1, h2⟩ | h1
    · exact .inl ⟨j, by omega, h2⟩
    · by_cases q : ∀ y, y ∈ fromL rs h (k + 1) → y ∈ fromL rs h k
      · exact .inl ⟨k, by omega, q⟩
      · right
        obtain ⟨y, q⟩ := Classical.not_forall.mp q
        obtain ⟨q1, q2⟩ := Classical.not_imp.mp q
        have := sub_len (a := y :: fromL rs h k) (b := fromL rs h (k + 1)) (List.nodup_cons.mpr ⟨q2, from_nodup⟩) from_nodup fun x hx => by
          rcases List.mem_cons.mp hx with z | z
          · rw [z]; exact q1
          · exact from_up hh z
        rw [List.length_cons] at this
        omega
theorem from_all (hh : h < rs.length) (q : ∀ y, y ∈ fromL rs h (j + 1) → y ∈ fromL rs h j) (r : Reach rs h y) : y ∈ fromL rs h j := by
  induction r with
  | refl => exact from_le (k := 0) hh (by omega) (by unfold fromL; simp)
  | step r1 h1 h2 ih => exact q _ (mem_step.mpr ⟨h1, .inr ⟨_, h2, ih⟩⟩)
theorem from_reach (hh : h < rs.length) : fromL rs h rs.length = reachL rs h := by
  obtain ⟨m, hm⟩ : ∃ m, rs.length = m + 1 := ⟨rs.length - 1, by omega⟩
  refine asc_one (by rw [hm]; exact (asc_range _).filter _) asc_reachL fun y => ?_
  rw [mem_reachL]
  refine ⟨from_lt hh, fun ⟨_, r⟩ => ?_⟩
  rcases from_grow hh rs.length with ⟨j, h1, h2⟩ | h1
  · exact from_le hh (Nat.le_of_lt h1) (from_all hh h2 r)
  · have := nodup_len _ _ (from_nodup (rs := rs) (h := h) (k := rs.length)) fun x hx => (from_lt hh hx).1
    omega
end
end Ma

/-! Mg: laws of joins, shares and often used webs. -/
namespace Ma
open PySem Rs L2
variable [Rs.Tabz]
section
variable {rs : Rows} {n c h : Nat}
theorem len_star : (starR n c).length = n := by unfold starR; rw [List.length_map, List.length_range]
theorem len_chain : (chainR n c).length = n := by unfold chainR; rw [List.length_map, List.length_range]
end
end Ma

/-! Mh: roots of often used webs. -/
namespace Ma
open PySem Rs L2
variable [Rs.Tabz]
section
variable {rs : Rows} {n c h y : Nat}
end
end Ma

/-! Mi: rounds with a full web. -/
namespace Ma
open PySem Rs L2
variable [Rs.Tabz]
section
variable {rs qs : Rows} {n c h y : Nat}
end
end Ma

/-! Mj: a ring of two chains. -/
namespace Ma
open PySem Rs L2
variable [Rs.Tabz]
section
variable {n c : Nat}
end
end Ma

/-! Mk: new numbers. The row of a house goes to its new number, each in it renumbered, sorted. -/
namespace Ma
open PySem Rs L2
variable [Rs.Tabz]
section
variable {rs : Rows} {ns : List Nat} {n y z : Nat}
end
end Ma

/-! Mn: roots of whatever webs are heard by all in time; other numbers of houses and roots. -/
namespace Ma
variable [Rs.Tabz]
open Rs
section
variable {n x : Nat} {l : List Rows} {r rs qs : Rows} {ns : List Nat}
/-- who hears x behind the rounds l -/
def hears (n : Nat) (l : List Rows) (x : Nat) : List Nat := (List.range n).filter fun o => decide (x ∈ hbL (wholeR l n) o)
/-! other numbers -/
abbrev pi (ns : List Nat) (x : Nat) : Nat := ns.getD x 0
section
variable (inj : ∀ a b, a < rs.length → b < rs.length → pi ns a = pi ns b → a = b) (lt : ∀ a, a < rs.length → pi ns a < rs.length)
include inj lt
end
end
end Ma

/-! Tp0: what a pool is. -/
namespace Wb
open PySem PySem.Spec PyProof.Rows L2 SlX StX Rs Ma Sn Tw
variable [Rs.Tabz]
def psize (rss : List Rows) : Nat := (rss.headD []).length
/-- different webs on the same houses -/
structure POk (rss : List Rows) : Prop where
  pos : 1 ≤ rss.length
  le : rss.length ≤ 8
  nd : rss.Nodup
  ok : ∀ rs ∈ rss, Ok rs
  sz : ∀ rs ∈ rss, rs.length = psize rss
def placesL (rss : List Rows) : List (Rows × Nat) := (enumL rss).map fun x => (x.2, x.1)
noncomputable def poolVs (CW : Addr) (K : PySem.W.Frag) (P : Program) (w : World) (rss : List Rows) : List VP := [fTp K (webP CW K) rss, fD K dN (psize rss), fDK K P w (dT (dT dN)) (fD K dN) (placesL rss)]
instance {CW : Addr} {K : PySem.W.Frag} {P : Program} {w : World} {rss : List Rows} : MonoL (poolVs CW K P w rss) := by unfold poolVs; infer_instance
noncomputable def poolP (C CW : Addr) (K : PySem.W.Frag) (P : Program) (w : World) (rss : List Rows) : VP := fun v F => POk rss ∧ Ob C [2, 1, 0] (poolVs CW K P w rss) v F
instance {C CW : Addr} {K : PySem.W.Frag} {P : Program} {w : World} {rss : List Rows} : Mono (poolP C CW K P w rss) := ⟨fun _ _ _ e h => ⟨h.1, Mono.go h.2 e⟩⟩
structure PoolK (K : PySem.W.Frag) (C : Addr) : Prop where
  sc : SCls K C
  si : SIsi K C
  kit : PySem.W.kitOne K (.ref C) (.ref C) = some true
  webs : SlF K C "own_webs" 2
  size : SlF K C "own_size" 1
  places : SlF K C "own_places" 0
noncomputable abbrev spPoolInit (C CW : Addr) (K : PySem.W.Frag) (P : Program) (w : World) : Sp := SpI C (γ := List Rows) POk (fun rss => [fTp K (webP CW K) rss]) (fun rss => poolP C CW K P w rss)
section
variable {P : Program} {w : World} {K : PySem.W.Frag} {C_Pool C_Web : Addr}
theorem is_pool : ∀ (a : List Rows) v F, poolP C_Pool C_Web K P w a v F → IsOb C_Pool v F := fun _ _ _ h => h.2.is
theorem ok_pool : ∀ (a : List Rows) v F, poolP C_Pool C_Web K P w a v F → POk a := fun _ _ _ h => h.1
theorem fl_pool_own_webs (W : PoolK K C_Pool) : Fld K (poolP C_Pool C_Web K P w) "own_webs" (fun rss => rss) (fTp K (webP C_Web K)) := ⟨fun a v F L h => r_fld (k := 0) (is := [2, 1, 0]) (Rs := poolVs C_Web K P w a) W.webs (r_c (R := Ob C_Pool [2, 1, 0] (poolVs C_Web K P w a)) h.2) rfl rfl⟩
theorem fl_pool_own_size (W : PoolK K C_Pool) : Fld K (poolP C_Pool C_Web K P w) "own_size" (fun rss => psize rss) (fD K dN) := ⟨fun a v F L h => r_fld (k := 1) (is := [2, 1, 0]) (Rs := poolVs C_Web K P w a) W.size (r_c (R := Ob C_Pool [2, 1, 0] (poolVs C_Web K P w a)) h.2) rfl rfl⟩
theorem fl_pool_own_places (W : PoolK K C_Pool) : Fld K (poolP C_Pool C_Web K P w) "own_places" (fun rss => placesL rss) (fDK K P w (dT (dT dN)) (fD K dN)) := ⟨fun a v F L h => r_fld (k := 2) (is := [2, 1, 0]) (Rs := poolVs C_Web K P w a) W.places (r_c (R := Ob C_Pool [2, 1, 0] (poolVs C_Web K P w a)) h.2) rfl rfl⟩
theorem it_pool : ∀ (rss : List Rows) v F, poolP C_Pool C_Web K P w rss v F → SlT K C_Pool 2 (rss.map (webP C_Web K)) v F := fun rss v F h => by
  obtain ⟨a, dx, vs, xs, rfl, h1, h2, g, r⟩ := h.2
  match xs, r with
  | x :: xs, r =>
    obtain ⟨l, zs, el, hs, hr⟩ := r.1
    refine ⟨a, dx, vs, l, rfl, h1, h2, ?_, l, zs, rfl, hs, hr⟩
    have := g.2 0 2 x rfl rfl
    rw [this, el]
/-- what the constructor leaves -/
theorem pool_of {rss : List Rows} {F : Hp} {a dx : Addr} {vs : List (Option V)} {v1 v2 v3 : V} (ok : POk rss) (h1 : F a = some (SlO a C_Pool dx vs)) (h2 : F dx = some (.xd [])) (g : Got [2, 1, 0] [v1, v2, v3] vs) (r1 : fTp K (webP C_Web K) rss v1 F) (r2 : fD K dN (psize rss) v2 F) (r3 : fDK K P w (dT (dT dN)) (fD K dN) (placesL rss) v3 F) :
    poolP C_Pool C_Web K P w rss (.ref a) F := ⟨ok, a, dx, vs, [v1, v2, v3], rfl, h1, h2, g, r1, r2, r3, True.intro⟩
end
theorem enumL_map {α : Type} {xs : List α} : (enumL xs).map (·.2) = xs := by
  unfold enumL
  rw [List.map_map]
  show List.map (fun p : α × Nat => p.1) xs.zipIdx = xs
  rw [List.zipIdx_map_fst]
theorem places_nodup {rss : List Rows} (h : rss.Nodup) : ((placesL rss).map (·.1)).Nodup := by
  unfold placesL
  rw [List.map_map]
  show ((enumL rss).map (·.2)).Nodup
  rw [enumL_map]; exact h
theorem psize_head {rss : List Rows} {rs : Rows} (h : rss[0]? = some rs) : psize rss = rs.length := by
  cases rss with
  | nil => cases h
  | cons a b => cases h; rfl
/-- the houses that are roots of all webs -/
noncomputable def alwaysN (rss : List Rows) : List Nat := (List.range (psize rss)).filter fun h => (rss.map fun rs => decide (h ∈ rootsN rs)).all id
end Wb

/-! Mo: equal views, in plain terms. -/
namespace Wb
open Rs Ma
variable [Rs.Tabz]
/-- which houses still have equal views behind one more round -/
def stillL (ahead : List Bool) (one other : Rows) : List Bool := (List.range one.length).map fun h => decide (hbL one h = hbL other h) && (hbL one h).all fun n => ahead.getD n false
def eqStep (p : List Rows) (acc : List (List Bool)) (lr : Nat × Nat) : List (List Bool) := acc ++ [stillL (acc.getLast?.getD []) (p.getD lr.1 []) (p.getD lr.2 [])]
def eqRowsL (p : List Rows) (one other : List Nat) : List (List Bool) := (one.zip other).foldl (eqStep p) [List.replicate (psize p) true]
def eqInL (p : List Rows) (one other : List Nat) : List Nat := (List.range (psize p)).filter fun h => ((eqRowsL p one other).getLast?.getD []).getD h false
theorem still_len {E : List Bool} {a b : Rows} : (stillL E a b).length = a.length := by unfold stillL; rw [List.length_map, List.length_range]
theorem fold_len {p : List Rows} {n : Nat} (hp : ∀ rs ∈ p, rs.length = n) : ∀ {zs : List (Nat × Nat)} {acc : List (List Bool)}, (∀ z ∈ zs, z.1 < p.length) → (∀ r ∈ acc, r.length = n) → ∀ r ∈ zs.foldl (eqStep p) acc, r.length = n
  | [], acc, _, h, r, hr => h r hr
  | z :: zs, acc, hz, h, r, hr => by
    refine fold_len hp (fun y hy => hz y (List.mem_cons_of_mem _ hy)) (fun q hq => ?_) r hr
    rcases List.mem_append.mp hq with q1 | q1
    · exact h q q1
    · rw [List.mem_singleton.mp q1, still_len]
      have e := List.getElem?_eq_getElem (hz z List.mem_cons_self)
      rw [List.getD_eq_getElem?_getD, e]
      exact hp _ (List.getElem_mem _)
theorem rows_len {p : List Rows} (ok : POk p) {one other : List Nat} (h : ∀ x ∈ one, x < p.length) : ∀ r ∈ eqRowsL p one other, r.length = psize p := by
  refine fold_len ok.sz (fun z hz => h _ (List.of_mem_zip hz).1) fun r hr => ?_
  rw [List.mem_singleton.mp hr, List.length_replicate]
end Wb

/-! Tg4: sorted of a list, as a list that can be joined; is None. -/
namespace Tw
open PySem PySem.Spec PyProof.Rows L2 SlX StX Rs Ma
variable [Rs.Tabz]
section
variable {ε α β γ δ : Type} {Z : Wsh ε} {ρ : List (Option VP)} {κ : List Ow} {K : PySem.W.Frag} {te ta tb tc : TE} {i : Nat} {R : α → VP} {Rb : β → VP}
theorem nums_vs {vs : List V} {F : Hp} : ∀ {xs : List Nat} {vs : List V}, Each (xs.map (fD K dN)) vs F → vs = (cI xs).map V.int
  | [], [], _ => rfl
  | x :: xs, v :: vs, h => by
    have h1 : Dp K F v (.int (x : Nat)) := h.1
    cases h1
    rw [nums_vs (vs := vs) h.2]; rfl
theorem vs_nums {F : Hp} : ∀ {xs : List Nat}, Each (xs.map (fD K dN)) ((cI xs).map V.int) F
  | [] => True.intro
  | x :: xs => ⟨.int _, vs_nums⟩
theorem c_sortedLn : Cb ε (rSorted K) (fun xs => [fLn (fD K dN) xs]) (fun xs Q X => xs.length < 64 ∧ Q (sortN xs)) (fLn (fD K dN)) :=
  cb1 fun xs v F L hx Q X ⟨q0, q1⟩ => ⟨_, q1, r_cb (r_cons (r_c (R := Ln (xs.map (fD K dN))) hx) r_nil) fun vs F1 e1 hv => by
    obtain ⟨v, rfl, a, us, rfl, hs, hr⟩ := each1 hv
    have eu := nums_vs (vs := us) hr
    subst eu
    refine fun F2 N H e A Q q => ⟨a, cI xs, rfl, .inl (.inl (A.ex _ _ (e _ _ hs))), by rw [List.length_map]; exact q0, fun ms p hp hm hn => q _ (upd F2 p _) _ (same_new (A.free hn)) (A.new hn) ?_⟩
    have e : ms = cI (sortN xs) := List.Perm.eq_of_pairwise (le := (· ≤ ·)) (fun a b _ _ x y => Int.le_antisymm x y) hm (List.pairwise_map.mpr (sortN_asc.imp fun {a b} h => by show (a : Int) ≤ (b : Int); omega)) (hp.trans (sortN_perm.map _).symm)
    rw [e]
    exact ⟨p, _, rfl, upd_same, vs_nums⟩⟩
end
end Tw

/-! Ti0: next((e for x in xs if c), None), c and e any expressions (calls too). -/
namespace Rs
open PySem PySem.Spec PyProof.Rows L2 GxR

section
variable {X : Cx} {pins : List (Addr × Obj)} {σ : L2.St} {H : Hp} {s : Shared}
end

section
variable {Xg : Cx} {A : Around} {elt iter cond : Expr} {x : Str} {px : Pos} {scope : Scope} {pos : Pos} {it : Addr} {fp : List Addr} {tn : Nat → Heap → Prop} {J : It} {ix : Nat} {tt : TT} {tv : TE} {Q : VK} {s₀ : Shared}
end
section
variable {prog : Program} {w : World} {A : Around} {E : Value → Shared → Prop} {s : Shared}
end
section
variable {X : Cx}
end
end Rs
namespace Tw
open PySem PySem.Spec PyProof.Rows L2 SlX StX Rs Ma
variable [Rs.Tabz]
def fOpt {δ : Type} (R : δ → VP) : Option δ → VP := fun o v F => match o with
  | none => v = .non
  | some d => R d v F
instance {δ : Type} {R : δ → VP} [hM : ∀ d, Mono (R d)] {o : Option δ} : Mono (fOpt R o) := ⟨fun v F F' e h => by
  cases o with
  | none => exact h
  | some d => exact (hM d).mono v F F' e h⟩
section
variable {ε β δ : Type} {Z : Wsh ε} {ρ : List (Option VP)} {κ : List Ow} {K : PySem.W.Frag} {wi : TI} {tt : TT} {tv te : TE} {ix : Nat} {P : Addr} {Rd : δ → VP}
end
end Tw

/-! Ti1: t[::-1] of tuples, is not of bools, zip of two tuples, list * int as a list of one's own. -/
namespace HT
open PySem PySem.Spec PyProof.Rows L2
section
variable {prog : Program} {w : World} {A : Around} {E : Value → Shared → Prop} {s : Shared}
theorem places_rev (n : Nat) : Builtin.Slice.slicePlaces ((n : Int) - 1) (-1) (-1) = n := by
  unfold Builtin.Slice.slicePlaces
  rw [if_neg (by decide)]
  by_cases c : n = 0
  · subst c; rfl
  · rw [if_pos (by omega)]
    show ((((n : Int) - 1 - -1 - 1) / 1 + 1).toNat) = n
    rw [Int.ediv_one]
    omega
theorem sliceApplied_rev {sl : Addr} {vl vu vs : Value} {n : Nat} {Q : Int × Int × Nat → Shared → Prop} (hs : s.heap.IsSliceOf sl vl vu vs) (pl : IsPart vl none) (pu : IsPart vu none) (ps : IsPart vs (some (-1)))
    (h : Q ((n : Int) - 1, -1, n) s) : wpAny (model prog w) A (Builtin.Slice.sliceApplied (.ref sl) (pure (n : Int))) Q E s := by
  obtain ⟨os, hos, hcs, hds⟩ := id hs
  unfold Builtin.Slice.sliceApplied Builtin.Slice.sliceFields
  refine wpAny_bind (wpAny_bind (wpAny_field hos hds (x := vl) rfl (wpAny_bind (wpAny_field hos hds (x := vu) rfl (wpAny_bind (wpAny_field hos hds (x := vs) rfl (wpAny_pure ?_)))))))
  refine wpAny_bind (slicePart_ ps ?_)
  show wpAny _ _ (if ((-1 : Int) == 0) = true then _ else _) _ _ s
  rw [if_neg (by decide)]
  refine wpAny_bind (slicePart_ pl (wpAny_bind (slicePart_ pu (wpAny_bind (wpAny_pure ?_)))))
  show wpAny _ _ (pure ((n : Int) - 1, (-1 : Int), Builtin.Slice.slicePlaces ((n : Int) - 1) (-1) (-1))) _ _ s
  rw [places_rev]
  exact wpAny_pure h
theorem fm_congr {α β : Type} {f g : α → Option β} : ∀ {l : List α}, (∀ m ∈ l, f m = g m) → l.filterMap f = l.filterMap g
  | [], _ => rfl
  | x :: l, h => by
    rw [List.filterMap_cons, List.filterMap_cons, h x List.mem_cons_self, fm_congr (l := l) fun m hm => h m (List.mem_cons_of_mem _ hm)]
theorem pick_rev (xs : Array Value) : ((List.range xs.size).filterMap fun (m : Nat) => xs[(((xs.size : Int) - 1) + (m : Int) * (-1)).toNat]?).toArray = xs.toList.reverse.toArray := by
  congr 1
  have e : ∀ m ∈ List.range xs.size, (fun (m : Nat) => xs[(((xs.size : Int) - 1) + (m : Int) * (-1)).toNat]?) m = (some ∘ fun m => xs.toList.reverse.getD m .none) m := fun m hm => by
    have hm := List.mem_range.mp hm
    have e1 : (((xs.size : Int) - 1) + (m : Int) * (-1)).toNat = xs.size - 1 - m := by omega
    show xs[(((xs.size : Int) - 1) + (m : Int) * (-1)).toNat]? = some (xs.toList.reverse.getD m .none)
    rw [e1, List.getD_eq_getElem?_getD, List.getElem?_reverse (by simpa using hm)]
    have h2 : xs.size - 1 - m < xs.size := by omega
    simp [Array.getElem?_eq_getElem h2]
  rw [fm_congr e, List.filterMap_eq_map]
  refine List.ext_getElem (by simp) fun i h1 h2 => ?_
  rw [List.getElem_map, List.getElem_range, List.getD_eq_getElem?_getD, List.getElem?_eq_getElem h2]; rfl
theorem getItem_tuple_rev {t sl : Addr} {items : Array Value} {vl vu vs : Value} {Q : Value → Shared → Prop} (ht : IsTup s.heap t items) (hs : s.heap.IsSliceOf sl vl vu vs) (pl : IsPart vl none) (pu : IsPart vu none) (ps : IsPart vs (some (-1)))
    (h : Q (.ref s.heap.objs.size) { s with heap := s.heap.push { cls := .type "tuple", data := .seq items.toList.reverse.toArray } })
    (hsz : items.size ≤ sizeLine) : wpAny (model prog w) A (getItem (.ref t) (.ref sl)) Q E s := by
  have htake : sizeOk (.seq items.toList.reverse.toArray) := by
    show items.toList.reverse.toArray.size ≤ sizeLine
    rw [List.size_toArray, List.length_reverse, Array.length_toList]
    exact hsz
  obtain ⟨os, hos, hcs, hds⟩ := id hs
  have hTs : s.TypeIs (.ref sl) "slice" := ⟨os, hos, hcs⟩
  unfold getItem
  try with_reducible refine wpAny_holding ?_
  first | refine wpAny_bind (wpAny_pure ?_) | skip
  refine wpAny_bind (wpAny_sequenceKey ht.typeIs (by decide) ?_)
  refine wpAny_bind (wpAny_callSpecial?_slot (name := Str.ofString "__getitem__") ht.typeIs PyProof.Rows.slot_tuple_getitem
    (wpAny_call_entry PyProof.Rows.slot_tuple_getitem ht.typeIs entry_tuple_getitem ?_ (args_tuple_getitem _ _)))
  show wpAny _ _ (Builtin.Tuple.tupleItemsOf (.ref t) >>= _) _ _ s
  refine wpAny_bind (tupleItemsOf_ ht ?_)
  refine wpAny_bind (wpAny_typeOf hTs ?_)
  rw [if_pos (by decide)]
  refine wpAny_bind (sliceApplied_rev hs pl pu ps ?_)
  have hno : ¬ ((((items.size : Int) - 1) == 0 && (-1 : Int) == 1 && items.size == items.size) = true) := by
    intro q
    rw [Bool.and_eq_true, Bool.and_eq_true] at q
    exact absurd q.1.2 (by decide)
  show wpAny _ _ (if (((items.size : Int) - 1) == 0 && (-1 : Int) == 1 && items.size == items.size) = true then _ else _) _ _ s
  rw [if_neg hno, pick_rev]
  first
    | exact wpAny_bind (m := Builtin.Tuple.tupleExact _) (wpAny_newObj_type (wpAny_pure ⟨_, rfl, wpAny_pure h⟩) htake)
    | exact wpAny_bind (m := Builtin.Tuple.tupleExact _) (wpAny_newObj_type (wpAny_bind (wpAny_pure (wpAny_pure ⟨_, rfl, wpAny_pure h⟩))) htake)
    | exact wpAny_bind (wpAny_bind (m := Builtin.Tuple.tupleExact _) (wpAny_newObj_type (wpAny_pure (wpAny_pure ⟨_, rfl, wpAny_pure h⟩)) htake))
    | exact wpAny_bind (wpAny_bind (m := Builtin.Tuple.tupleExact _) (wpAny_newObj_type (wpAny_pure ⟨_, rfl, wpAny_pure h⟩) htake))
end
end HT
namespace Rs
open PySem PySem.Spec PyProof.Rows L2
section
variable {X : Cx}
def tRevT (K : PySem.W.Frag) (te : TE) : TE := fun σ H Q => te σ H fun x H1 => ∃ a xs, x = .ref a ∧ SqT K H1 a xs ∧ ∀ p, H1 p = none → Q (.ref p) (upd H1 p (.tup xs.reverse))
theorem pe_revT (K : PySem.W.Frag) {e : Expr} {te : TE} {k : Nat} {p1 p2 p3 pos : Pos} (he : PE X e te) (hK : X.K = K := by rfl) : PE X (.Subscript e (.Slice none none (some (.UnaryOp .USub (.Constant (.int 1) k p1) p2)) p3) pos) (tRevT K te) := by
  subst hK
  refine ⟨fun pins s σ H Q I h => ?_⟩
  refine Subscript_ (thn (he.run pins s σ H _ I h) fun v s1 ⟨x, H1, I1, r1, q1⟩ => ?_)
  obtain ⟨a, xs, ex, hx, q⟩ := q1
  subst ex
  cases r1
  have hst : PO X (some (.UnaryOp .USub (.Constant (.int 1) k p1) p2)) (tPart (tUn (rU fun i => .int (-i)) (tC (.int 1)))) := po_some (pe_un un_neg pe_int)
  refine wpAny_Slice (thn (po_none.run pins s1 σ H1 (fun o H2 => o = none ∧ H2 = H1) I1 ⟨rfl, rfl⟩) fun vl s2 ⟨l, H2, I2, pl, el, e2⟩ => ?_)
  subst el e2
  refine thn (po_none.run pins s2 σ H2 (fun o H3 => o = none ∧ H3 = H2) I2 ⟨rfl, rfl⟩) fun vu s3 ⟨u, H3, I3, pu, eu, e3⟩ => ?_
  subst eu e3
  refine thn (hst.run pins s3 σ H3 (fun o H4 => o = some (-1) ∧ H4 = H3) I3 ⟨1, rfl, -1, rfl, rfl, rfl⟩) fun vs s4 ⟨o, H4, I4, ps, eo, e4⟩ => ?_
  subst eo e4
  have I5 : Inv X pins σ H4 { s4 with heap := s4.heap.push { cls := .type "slice", data := .fields #[vl, vu, vs] } } := I4.kept (t' := s4.toks) fun b ob q => Heap.get?_push_of_some _ q
  obtain ⟨its, r, ht, hz⟩ := I5.tuple hx
  have hlen := r.length
  show wpAny (model X.prog X.w) X.A (subscriptTail e (.Slice none none (some (.UnaryOp .USub (.Constant (.int 1) k p1) p2)) p3) (.ref a) (.ref s4.heap.objs.size)) (EP X pins σ Q) X.xe { s4 with heap := s4.heap.push { cls := .type "slice", data := .fields #[vl, vu, vs] } }
  refine tail_any (ops := [.ref a, .ref s4.heap.objs.size]) ht.typeIs (PyProof.Rows.slot_tuple_getitem.lookup) ?_ (by with_unfolding_all rfl)
  refine HT.getItem_tuple_rev ht (Heap.IsSliceOf.new _ vl vu vs) pl pu ps ?_ (by rw [List.size_toArray]; omega)
  refine ⟨.ref _, _, I5.laid (t' := s4.toks) (o := .tup xs.reverse) (fun b ob q => Heap.get?_push_of_some _ q) (Nat.le_refl _) ?_, rfl, q _ (I5.hok.fresh (Nat.le_refl _))⟩
  exact ⟨by rw [List.length_reverse]; exact hz, _, r.reverse, IsTup.new _ _⟩
end
end Rs
namespace Tw
open PySem PySem.Spec PyProof.Rows L2 SlX StX Rs Ma
variable [Rs.Tabz]
section
variable {ε α β γ δ : Type} {Z : Wsh ε} {ρ : List (Option VP)} {κ : List Ow} {K : PySem.W.Frag} {te ta tb tc tx : TE} {i : Nat} {R : α → VP} {Rb : β → VP}
theorem each_rev : ∀ {Rs : List VP} {vs : List V} {F : Hp}, Each Rs vs F → Each Rs.reverse vs.reverse F
  | [], [], _, _ => True.intro
  | R :: Rs, v :: vs, F, h => by
    rw [List.reverse_cons, List.reverse_cons]
    exact each_app (each_rev h.2) ⟨h.1, True.intro⟩
  | [], _ :: _, _, h => h.elim
  | _ :: _, [], _, h => h.elim
theorem tr_revT {ml : Wm ε (List α)} [∀ a, Mono (R a)] (h : TrE Z ρ κ te ml (fTp K R)) : TrE Z ρ κ (tRevT K te) (fun Q X => ml (fun xs => Q xs.reverse) X) (fTp K R) :=
  ⟨inferInstance, fun σ F L s c Q X q => rw_bind (k := te σ) (k2 := fun (v : V) (H1 : Hp) (Q : V → Hp → Prop) => ∃ (a : Addr) (xs : List V), v = V.ref a ∧ SqT K H1 a xs ∧ ∀ p : Addr, H1 p = none → Q (V.ref p) (upd H1 p (HO.tup xs.reverse))) (h.run σ F L s c _ X q) fun v F1 e ⟨xs, q1, a, vs, ev, hs, hv⟩ => .of fun F2 N H e2 A Qk qk => by
    subst ev
    refine ⟨a, vs, rfl, sqT_up (e2.trans A.ex) hs, fun p hp => ?_⟩
    have s1 : Same F2 (upd F2 p (.tup vs.reverse)) := same_new (A.free hp)
    refine qk _ _ _ s1 (A.new hp) ⟨_, q1, p, _, rfl, .inl (.inl upd_same), ?_⟩
    have h2 := MonoL.mono _ _ _ (e2.trans s1) hv
    rw [List.map_reverse]
    exact each_rev h2⟩
end
end Tw

/-! Tj0: a list of one's own that is changed no more. -/
namespace Tw
open PySem PySem.Spec PyProof.Rows L2 SlX StX Rs Ma
variable [Rs.Tabz]
section
variable {ε α S δ : Type} {Z : Wsh ε} {ρ : List (Option VP)} {κ : List Ow} {K : PySem.W.Frag} {t : TS} {i : Nat} {R : α → VP} {ρ2 : S → List (Option VP)} {κ2 : S → List Ow} {Rd : δ → VP} {xs : List α} {m : Ws ε S δ}
end
/-! ### == of tuples of own objects in laws with tables: promises that keep everything -/
abbrev Tz0 : Rs.Tabz := ⟨fun _ => False, fun _ => none⟩
end Tw

/-! Tk0: an own list handed back ahead of other code; is None of what next gives. -/
namespace Tw
open PySem PySem.Spec PyProof.Rows L2 SlX StX Rs Ma
variable [Rs.Tabz]
section
variable {ε α β γ δ S : Type} {Z : Wsh ε} {ρ : List (Option VP)} {κ : List Ow} {K : PySem.W.Frag} {te : TE} {u : TS} {i : Nat} {R : α → VP} {ρ2 : S → List (Option VP)} {κ2 : S → List Ow}
/-- what is never None -/
class NoNon (R : α → VP) : Prop where
  nn : ∀ a v F, R a v F → v ≠ .non
instance {d : α → PyData} : NoNon (fD K (dT d)) := ⟨fun a v F h e => by
  have h : Dp K F v (dT d a) := h
  subst e
  cases h⟩
instance : NoNon (fD K dN) := ⟨fun a v F h e => by
  have h : Dp K F v (dN a) := h
  subst e
  cases h⟩
theorem fOpt_non {R : α → VP} [NoNon R] {o : Option α} {v : V} {F : Hp} (h : fOpt R o v F) : decide (v = V.non) = o.isNone := by
  cases o with
  | none => have h : v = .non := h; rw [h]; rfl
  | some a => exact decide_eq_false (NoNon.nn (R := R) a v F h)
theorem tr_notNT [NoNon R] {m : Wm ε (Option α)} (h : TrE Z ρ κ te m (fOpt R)) : TrE Z ρ κ (tNotN te) (fun Q X => m (fun o => Q o.isSome) X) (fD K dB) :=
  ⟨inferInstance, fun σ F L s c Q X q => rw_bind (k := te σ) (k2 := fun (x : V) H1 (Q : V → Hp → Prop) => Q (V.bl (!decide (x = V.non))) H1) (h.run σ F L s c _ X q) fun v F1 e1 ⟨o, q1, hv⟩ => .of (run_ret fun F2 e2 => ⟨_, q1, by
    rw [fOpt_non hv, Option.not_isNone]; exact .bl _⟩)⟩
end
end Tw

/-! Tk1: the head of a law with a table and with repr. -/
namespace Tw
open PySem PySem.Spec PyProof.Rows L2 SlX StX Rs Ma Sn
section
variable {P : Program} {w : World} {K : PySem.W.Frag} {mg mb : Str → Option Value} {k : Nat} {fa a cA PT : Addr} {fd : FuncData} {x : Str} {s₁ : Shared} {vs : List Value} {ns : List Int}
end
section
variable [Rs.Tabz]
/-! ### repr of a truth -/
def rReprB : List V → Hp → VK → Prop := fun xs H Q => ∃ b, xs = [.bl b] ∧ Q (.str (if b then "True" else "False")) H
section
variable {X : Cx}
theorem cr_reprB : CallR X (.builtin "repr") rReprB := by
  intro pins s σ H vs us Q I r h
  obtain ⟨b, rfl, q⟩ := h
  cases r with
  | cons r1 r2 =>
    cases r2
    have r1 : _ = Value.bool b := r1
    rw [r1]
    exact PySem.P.repr_of_bool ⟨.str _, H, I.kept fun _ _ e => e, ⟨_, rfl⟩, q⟩
variable {e : Expr} {es : List Expr} {t : TA} {p pos : Pos}
theorem p_reprB (B : Bf X.mg) (ha : PA X (e :: es) t) (hg : Gl X "repr" := by rfl) (he : starEach (e :: es) X.env = (false, eval e X.env) :: starEach es X.env := by rfl) (hpl : (backTo pos (starEach es X.env)).any (·.1) = false := by rfl) :
    PE X (.Call (.Name "repr" p) (e :: es) [] pos) (tCB rReprB t) := pe_callB cr_reprB hg B.repr boot_repr ha (by decide) (by decide) he hpl
end
theorem c_reprB {ε : Type} {K : PySem.W.Frag} : Cb ε rReprB (fun b : Bool => [fD K dB b]) (fun b Q X => Q (if b then ("True" : Str) else "False")) (fD K dS) := .of fun g vs F L hv Q X q1 => by
  obtain ⟨v, rfl, hx⟩ := each1 hv
  have hx : Dp K F v (.bool g) := hx
  cases hx
  exact ⟨_, q1, fun F1 N H e A Qk qk => ⟨g, rfl, qk _ F1 H (Same.refl _) A (.str _)⟩⟩
end
end Tw

/-! Tm0: C(v) where C is a class of exceptions over a built-in one, with `super().__init__('..'); self.f = f` for its own __init__. -/
namespace PySem
namespace SuI
open PySem.W PySem.Calls PyProof.Rows PySem.Spec
section
variable {prog : Program} {w : World} {A : Around} {E : Value → Shared → Prop} {h : Heap} {g : Array GenState} {d : Drawn} {t : Nat} {os : OsState} {K : Frag} {B i newId : String} {bmB : List Value}
end
section
variable {prog : Program} {w : World} {A : Around} {R : Result → Shared → Prop} {s : Shared} {K : Frag} {mg mb : Str → Option Value} {B i newId : String} {bmB : List Value}
end
end SuI
end PySem

/-! Tm1: what the written part says of a class of exceptions with `super().__init__('..'); self.f = f`; C(v) as an exception that is made. -/
namespace PySem
namespace SuI
open PySem.W PySem.Calls PyProof.Rows PySem.Spec
end SuI
end PySem

/-! Tm2: raise C(v), as a rule. -/
namespace L2
open PySem PySem.Spec PyProof.Rows
end L2

/-! Tm3: try with several clauses, some of them with a name. -/
namespace L2
open PySem PySem.Spec PyProof.Rows
/-- a clause: its class, the slot of its name (if it has one), its suite -/
structure Clz where
  c : Value
  i : Option Nat
  ts : Addr → Value → Option Addr → TS
/-- what stands behind a clause with a name: the name is gone -/
def Ends.gone (D : Ends) (i : Nat) : Ends := { nx := fun σ H => D.nx (σ.set i none) H, rt := D.rt, bk := fun σ H => D.bk (σ.set i none) H, ct := fun σ H => D.ct (σ.set i none) H }
def Clz.run (z : Clz) (cls : Value) (d : Option Addr) (D : Ends) (σ : St) (H : Hp) : Prop := ∀ a, H a = none → match z.i with
  | none => z.ts a cls d D σ H
  | some i => z.ts a cls d (D.gone i) (σ.set i (some (.ref a))) H
section
variable {X : Cx} {pins : List (Addr × Obj)} {σ : St} {H : Hp} {B : Heap} {sI s : Shared} {a : Addr} {cls : Value} {d : Option Addr} {D : Ends} {Wout : WX}
/-- a caught exception, looked at by the clauses -/
structure Caught (X : Cx) (pins : List (Addr × Obj)) (σ : St) (H : Hp) (B : Heap) (sI s : Shared) (a : Addr) (cls : Value) (d : Option Addr) : Prop where
  inv : Inv X pins σ H sI
  nb : ∀ b o, sI.heap.get? b = some o → b ∉ frs X.stack → B.get? b = some o
  up : sI.heap.UpToSlots s.heap
  fl : HandSPX.FlyingZ B (X.env :: X.outer) a (Zc cls d) s.heap
  na : H a = none
  os : s.os = sI.os
  ag : AllBare s.gens
theorem Caught.here (C : Caught X pins σ H B sI s a cls d) : Inv X pins σ H s := C.inv.landed C.nb C.fl.1 C.up C.os C.ag
end
section
variable {X : Cx} {body : List Stmt} {h₀ : ExceptHandler} {hds : List ExceptHandler} {l : List Clz} {pos : Pos} {tb : WX → TS} {Wout : WX}
end
end L2

/-! Tl0: defs that raise, calls of them, raise, try .. except C. Of an exception its class is told. -/
namespace Tw
open PySem PySem.Spec PyProof.Rows L2 SlX StX Rs Ma
variable [Rs.Tabz]
/-- exceptions by their class, wished by W, in a def of n slots -/
def Zx (W : WX) (n : Nat) : Wsh Value where
  wi := W
  xr := fun c cls _ _ => cls = c
  t := fun σ _ _ => σ.length = n
  tl := fun _ _ _ _ h => h
/-- a promise by a wish of a result and one of exceptions -/
def SpE {γ δ : Type} (Rs : γ → List VP) (spec : γ → (δ → Prop) → (Value → Prop) → Prop) (R : δ → VP) : Sp := fun vs H Q E => ∃ g F N P PX, At F N H ∧ Each (Rs g) vs F ∧ spec g P PX ∧ (∀ d v F' H', Same F F' → At F' N H' → P d → R d v F' → Q v H') ∧
  ∀ c d F' H', Same F F' → At F' N H' → PX c → E c d H'
structure GfX (P : Program) (w : World) (K : PySem.W.Frag) (mg : Str → Option Value) (base : Heap) (k : Nat) (x : Str) (sp : Sp) : Prop where
  ex : ∃ f fd ps, FnOk P w K mg base (L2.CX P w) k f fd ps sp ∧ mg x = some (.ref f) ∧ PySem.W.keepIn K (.ref f) = true ∧ Binds K fd ps []
section
variable {X : Cx} {e : Expr} {es : List Expr} {t : TA} {p pos : Pos} {f : Str} {W : WX}
/-- raise C('m') -/
def tRaise (W : WX) (C : Addr) : TS := fun _ σ H => W (.ref C) none σ H
/-- what is known of a class of exceptions over ValueError -/
structure XCls (K : PySem.W.Frag) (mg : Str → Option Value) (x : Str) (C : Addr) : Prop where
  g : mg x = some (.ref C)
  ex : PySem.W.excIn K C [.type "ValueError", .type "Exception", .type "BaseException", .type "object"] "ValueError.__new__" = true
  kp : PySem.W.keepIn K (.ref C) = true
  b : PySem.W.subIn K (.ref C) (.type "BaseException") = some true
  t : PySem.W.typeIn K (.ref C) = some (.type "type")
  c : PySem.W.exmOne K (.ref C) (.ref C) = some true
theorem p_raise {x m : Str} {C : Addr} {j : Nat} {p p2 pos pos2 : Pos} (hc : X.calm = true) (tk : Takes X W) (h : XCls X.K X.mg x C) (hg : Gl X x := by rfl) (hdb : (x == ("__debug__" : Str)) = false := by decide) :
    PS X (.Raise (some (.Call (.Name x p) [.Constant (.str m) j p2] [] pos)) none pos2) (tRaise W C) :=
  ps_raise hc tk (pmk_own PySem.F.excBase_ValueError h.ex h.g h.kp (raises_own h.b h.t) hg hdb)
/-- try: body, except C: suite, where no other exception leaves -/
def tTry (K : PySem.W.Frag) (C : Addr) (tb : WX → TS) (ts : TS) : TS := fun D σ H => tb (wOnly K (.ref C) (fun _ _ _ => ts) (fun _ _ _ _ => False) D) D σ H
theorem p_try {x : Str} {C : Addr} {body suite : List Stmt} {b₀ : Stmt} {np pos pos' : Pos} {tb : WX → TS} {ts : TS} (hs : X.stack = X.env :: X.outer) (hf : X.env.frame = some X.env.locals) (h : XCls X.K X.mg x C)
    (hb : ∀ (W : WX) (pn : List (Addr × Obj)) (xe : Value → Shared → Prop), Takes (X.tr pn xe) W → PassesOwn (model X.prog X.w) X.A X.env xe → PSs (X.tr pn xe) body (tb W))
    (hsu : ∀ (a : Addr) (pn : List (Addr × Obj)), PSs (X.suite a pn) (b₀ :: suite) ts) (hg : Gl X x := by rfl) (hdb : (x == ("__debug__" : Str)) = false := by decide) :
    PS X (.Try body [.ExceptHandler (some (.Name x np)) none (b₀ :: suite) pos'] [] [] pos) (tTry X.K C tb ts) :=
  ps_try_only hs hf ⟨hg, hdb, .inl h.g⟩ (fun u s' ⟨_, _, _, _, _, _, _, _, _, _, _, _, _, _, _, _, z⟩ => z.elim) hb fun a oe cls d pn _ _ => hsu a ((a, oe) :: pn)
end
section
variable {α β γ δ S : Type} {ρ : List (Option VP)} {κ : List Ow} {K : PySem.W.Frag} {t : TA} {mg : Wm Value γ} {Rs : γ → List VP} {Rd : δ → VP} {W : WX} {n : Nat} {ρ2 : S → List (Option VP)} {κ2 : S → List Ow}
/-- the state behind an exception: no slot is known -/
theorem sat_lost : ∀ {n : Nat} {σ : L2.St} {F : Hp}, σ.length = n → SatV (List.replicate n none) σ F
  | 0, [], _, _ => True.intro
  | 0, _ :: _, _, h => nomatch h
  | n + 1, [], _, h => nomatch h
  | n + 1, _ :: σ, F, h => sat_lost (n := n) (σ := σ) (F := F) (Nat.succ.inj h)
theorem ts_try {C : Addr} {x : Str} {mgl : Str → Option Value} {tb : WX → TS} {ts : TS} {mb : Ws Value S δ} {ms : Ws Empty S δ} (hx : XCls K mgl x C) (hb : ∀ W, TrS (Zx W n) ρ κ (tb W) mb ρ2 κ2 Rd) (hs : TrS Z0 (List.replicate n none) [] ts ms ρ2 κ2 Rd) :
    TrS Z0 ρ κ (tTry K C tb ts) (fun Nx Rt X => mb Nx Rt (fun c => c = .ref C ∧ ms Nx Rt X)) ρ2 κ2 Rd :=
  ⟨fun σ F L sv sc Nx Rt X q F1 N H e A wsh D nx rt => by
    refine (hb _).run σ F L sv sc Nx Rt _ q F1 N H e A (fun c cls d σ2 F2 L2 H2 e2 A2 hl ⟨hc, q2⟩ he => ?_) D nx rt
    have he : cls = c := he
    subst he
    subst hc
    refine ⟨true, hx.c, fun _ a _ => ?_, fun z => nomatch z⟩
    exact hs.run σ2 F2 [] (sat_lost hl) True.intro Nx Rt X q2 F2 N H2 (Same.refl _) A2.drop wish0 D (fun σ3 F3 L3 H3 e3 A3 n3 => nx σ3 F3 L3 H3 (e2.trans e3) A3 n3) fun v F3 H3 e3 A3 r3 => rt v F3 H3 (e2.trans e3) A3 r3⟩
end
section
variable {P : Program} {w : World} {K : PySem.W.Frag} {mg : Str → Option Value} {base : Heap} {γ δ : Type}
end
end Tw

/-! Tl1: {k: v for .. for ..} with nested keys. -/
namespace Sn
open PySem PySem.Spec PyProof.Rows L2 SlX StX Rs Ma
variable [Rs.Tabz]
section
variable {prog : Program} {w : World} {A : Around} {R : Result → Shared → Prop} {s : Shared} {kx vx t0 i0 t1 i1 : Expr} {ifs0 ifs1 : List Expr} {scope : Scope} {pos : Pos} {it acc : Value} {D : Addr} {env : Env}
end
section
variable {X : Cx}
end
end Sn
namespace Tw
open PySem PySem.Spec PyProof.Rows L2 SlX StX Rs Ma Sn
variable [Rs.Tabz]
section
variable {ε α β γ δ η : Type} {Z : Wsh ε} {ρ : List (Option VP)} {κ : List Ow} {K : PySem.W.Frag} {P : Program} {w : World} {tk tv : TE} {tt tt1 : TT} {wi wi1 : TI} {g g1 : TG} {n : Nat} {d : α → PyData} [DecidableEq α] [c : Keyd d n] {Rb : β → VP}
end
end Tw

/-! Tl2: new lists made while an own list is looked at; extend; break. -/
namespace Tw
open PySem PySem.Spec PyProof.Rows L2 SlX StX Rs Ma
variable [Rs.Tabz]
section
variable {ε α β γ δ S S1 : Type} {Z : Wsh ε} {ρ : List (Option VP)} {κ : List Ow} {K : PySem.W.Frag} {te : TE} {t u : TS} {tt : TT} {wi : TI} {g : TG} {i : Nat} {R : α → VP} {Rd : δ → VP} {ρ2 : S → List (Option VP)} {κ2 : S → List Ow} {ρ1 : S1 → List (Option VP)} {κ1s : S1 → List Ow}
/-! ### break -/
end
end Tw

/-! Tl3: a dict of one's own that is locked while a statement runs; walks over its keys; own = own + ..; max of a list; int of a truth. -/
namespace Tw
open PySem PySem.Spec PyProof.Rows L2 SlX StX Rs Ma
variable [Rs.Tabz]
/-! ### what does not lean on a locked dict -/
section
variable {K : PySem.W.Frag} {F : Hp} {a : Addr} {o : Obj} {zs : List (Key × V)}
theorem rd_cutZ (h1 : F a = some (.frz o (.dK zs))) {b : Addr} {u : HO} (hu : ∀ ks, u ≠ .dK ks) (hz : ∀ q w, u ≠ .frz q w) (h : F b = some u ∨ ∃ q, F b = some (.frz q u)) : cutF F a b = some u ∨ ∃ q, cutF F a b = some (.frz q u) := by
  have ne : b ≠ a := fun z => by
    rcases h with h | ⟨q, h⟩
    · rw [z, h1] at h
      exact hz _ _ (Option.some.inj h).symm
    · rw [z, h1] at h
      cases h
      exact hu _ rfl
  have e : cutF F a b = F b := by
    show (if b = a then none else F b) = _
    rw [if_neg ne]
  rw [e]; exact h
mutual
theorem dp_cutZ (h1 : F a = some (.frz o (.dK zs))) : ∀ (d : PyData) (v : V), Dp K F v d → Dp K (cutF F a) v d
  | .none, _, h => by cases h; exact .non
  | .bool b, _, h => by cases h; exact .bl b
  | .int i, _, h => by cases h; exact .int i
  | .str x, _, h => by cases h; exact .str x
  | .list ds, _, h => by
    cases h with
    | lst hs ha => exact .lst (hs.imp (fun r => rd_cutZ h1 (fun _ z => by cases z) (fun _ _ z => by cases z) r) id) (dps_cutZ h1 ds _ ha)
  | .dict _, _, h => by cases h
  | .tuple ds, _, h => by
    cases h with
    | tup hs ha => exact .tup (hs.imp (fun r => rd_cutZ h1 (fun _ z => by cases z) (fun _ _ z => by cases z) r) id) (dps_cutZ h1 ds _ ha)
theorem dps_cutZ (h1 : F a = some (.frz o (.dK zs))) : ∀ (ds : List PyData) (vs : List V), DpAll K F vs ds → DpAll K (cutF F a) vs ds
  | [], _, h => by cases h; exact .nil
  | d :: ds, _, h => by
    cases h with
    | cons x1 x2 => exact .cons (dp_cutZ h1 d _ x1) (dps_cutZ h1 ds _ x2)
end
end
/-- what is told does not lean on locked dicts -/
class CutZ {δ : Type} (R : δ → VP) : Prop where
  cut : ∀ d v F a o zs, F a = some (.frz o (.dK zs)) → R d v F → R d v (cutF F a)
class CutZ1 (R : VP) : Prop where
  cut : ∀ v F a o zs, F a = some (.frz o (.dK zs)) → R v F → R v (cutF F a)
instance {K : PySem.W.Frag} {α : Type} {d : α → PyData} : CutZ (fD K d) := ⟨fun x v F a o zs h r => dp_cutZ h (d x) v r⟩
theorem each_cutZ {α : Type} {R : α → VP} [CutZ R] {F : Hp} {a : Addr} {o : Obj} {ks : List (Key × V)} (h1 : F a = some (.frz o (.dK ks))) : ∀ {xs : List α} {vs : List V}, Each (xs.map R) vs F → Each (xs.map R) vs (cutF F a)
  | [], [], h => h
  | x :: xs, v :: vs, h => ⟨CutZ.cut x v F a o ks h1 h.1, each_cutZ h1 h.2⟩
  | [], _ :: _, h => h.elim
  | _ :: _, [], h => h.elim
instance {α : Type} {R : α → VP} [CutZ R] : CutZ (fLn R) := ⟨fun xs v F a o zs h ⟨b, vs, e, hb, r⟩ => ⟨b, vs, e, by
  have ne : b ≠ a := fun z => by rw [z, h] at hb; cases hb
  show (if b = a then none else F b) = _
  rw [if_neg ne]; exact hb, each_cutZ h r⟩⟩
instance {δ : Type} {R : δ → VP} [h : CutZ R] {d : δ} : CutZ1 (R d) := ⟨fun v F a o zs => h.cut d v F a o zs⟩
class CutV (ρ : List (Option VP)) : Prop where
  cut : ∀ σ F a o zs, F a = some (.frz o (.dK zs)) → SatV ρ σ F → SatV ρ σ (cutF F a)
instance : CutV [] := ⟨fun σ F a o zs h s => by cases σ with | nil => exact True.intro | cons _ _ => exact s⟩
instance {ρ : List (Option VP)} [c : CutV ρ] : CutV (none :: ρ) := ⟨fun σ F a o zs h s => by
  cases σ with
  | nil => exact s
  | cons x σ => exact c.cut σ F a o zs h s⟩
instance {ρ : List (Option VP)} {R : VP} [r : CutZ1 R] [c : CutV ρ] : CutV (some R :: ρ) := ⟨fun σ F a o zs h s => by
  cases σ with
  | nil => exact s
  | cons x σ =>
    obtain ⟨⟨v, h1, h2, h3⟩, s⟩ := s
    exact ⟨⟨v, h1, r.cut v F a o zs h h2, h3⟩, c.cut σ F a o zs h s⟩⟩
class CutO (κ : List Ow) : Prop where
  cut : ∀ σ F L a o zs, F a = some (.frz o (.dK zs)) → SatC κ σ F L → SatC κ σ (cutF F a) L
instance : CutO [] := ⟨fun _ _ _ _ _ _ _ _ => True.intro⟩
/-- a dict that is locked -/
def fDZ {α β : Type} [DecidableEq α] (d : α → PyData) [c : NumK d] (R : β → VP) : List (α × β) → VP := fun kvs v F => ∃ D o zs, v = .ref D ∧ F D = some (.frz o (.dK zs)) ∧ RelD d R zs kvs F ∧ (kvs.map (·.1)).Nodup
instance {α β : Type} [DecidableEq α] {d : α → PyData} [NumK d] {R : β → VP} [∀ b, Mono (R b)] {kvs : List (α × β)} : Mono (fDZ d R kvs) := ⟨fun _ _ _ e ⟨D, o, zs, h, h1, r, n⟩ => ⟨D, o, zs, h, e _ _ h1, relD_up e r, n⟩⟩
section
variable {ε α β γ δ S S1 : Type} [DecidableEq α] {Z : Wsh ε} {ρ : List (Option VP)} {κ : List Ow} {K : PySem.W.Frag} {te ta tb td ty : TE} {t u : TS} {i : Nat} {d : α → PyData} [c : NumK d] {R : β → VP} {Ra : γ → VP} {Rd : δ → VP} {ρ2 : S → List (Option VP)} {κ2 : S → List Ow} {ρ1 : S1 → List (Option VP)} {κ1s : S1 → List Ow}
instance {κ : List Ow} {γ : Type} {R : γ → VP} [∀ g, Mono (R g)] [CutZ R] {i : Nat} {xs : List γ} [k : CutO κ] : CutO (.one i (ownL (xs.map R)) :: κ) := ⟨fun σ F L a o zs h ⟨b, u, L', e, s, q, r⟩ => ⟨b, u, L', e, s, fun F' e' => by
  obtain ⟨vs, hu, hv⟩ := q F (Same.refl _)
  exact ⟨vs, hu, MonoL.mono _ _ _ e' (each_cutZ h hv)⟩, k.cut σ F L' a o zs h r⟩⟩
/-! ### own = own + .. -/
/-! ### int of a truth, max of a list -/
end
end Tw

/-! Tl4: max of a list, tuple of a tuple; a def that may raise, where it does not. -/
namespace Tw
open PySem PySem.Spec PyProof.Rows L2 SlX StX Rs Ma
variable [Rs.Tabz]
section
variable {X : Cx} {e : Expr} {es : List Expr} {t : TA} {p pos : Pos}
end
section
variable {P : Program} {w : World} {K : PySem.W.Frag} {mg : Str → Option Value} {base : Heap} {γ δ : Type} {k : Nat} {x : Str} {Rs : γ → List VP} {spec : γ → (δ → Prop) → (Value → Prop) → Prop} {R : δ → VP}
theorem GfX.pure (h : GfX P w K mg base k x (SpE Rs spec R)) : Gf P w K mg base k x (SpN Rs (fun g Q => spec g Q fun _ => False) R) := by
  obtain ⟨f, fd, ps, F, h1, h2, h3⟩ := h.ex
  refine ⟨f, fd, ps, ⟨fun vs H Q E ⟨g, F0, N, P0, A, hv, q⟩ => F.len vs H Q (fun _ _ _ => False) ⟨g, F0, N, P0, fun _ => False, A, hv, q.1, q.2, fun _ _ _ _ _ _ z => z.elim⟩, fun A outer s H args us vs Q E hr e0 hb r ⟨g, F0, N, P0, A0, hv, hs, q⟩ => ?_⟩, h1, h2, h3⟩
  refine codeAny_mono (F.run A outer s H args us vs Q (fun _ _ _ => False) hr e0 hb r ⟨g, F0, N, P0, fun _ => False, A0, hv, hs, q, fun _ _ _ _ _ _ z => z.elim⟩) fun z s' hq => ?_
  match z, hq with
  | .error err, ⟨_, _, _, _, _, _, _, _, _, _, _, _, z⟩ => exact z.elim
  | .ok (.ret u), hq => exact hq
end
end Tw
namespace Tw
open PySem PySem.Spec PyProof.Rows L2 SlX StX Rs Ma
variable [Rs.Tabz]
section
variable {ε α β γ δ S : Type} {Z : Wsh ε} {ρ : List (Option VP)} {κ : List Ow} {K : PySem.W.Frag} {ta tb : TE} {u : TS} {ma : Wm ε α} {Ra : α → VP} {Rb : β → VP} {Rd : δ → VP} {ρ2 : S → List (Option VP)} {κ2 : S → List Ow}
end
end Tw

/-! Tl5: sorted of one item, whatever it is. -/
namespace Tw
open PySem PySem.Spec PyProof.Rows L2 SlX StX Rs Ma
variable [Rs.Tabz]
section
variable {X : Cx} {e : Expr} {es : List Expr} {t : TA} {p pos : Pos}
end
end Tw

/-! Tm4: values of many kinds; exceptions that keep a value. -/
namespace Tw
open PySem PySem.Spec PyProof.Rows L2 SlX StX Rs Ma Sn Wb
/-- any value that a law puts in the place of another one -/
inductive Wv where
  | dat (d : PyData) | dct | opL | opT | web (rs : Rows) | pool (rss : List Rows) | tp (ws : List Wv)
/-- the written part, and the classes of webs and pools -/
structure Wx where
  K : PySem.W.Frag
  cw : Addr
  cp : Addr
  P : Program
  w : World
variable [Rs.Tabz]
mutual
noncomputable def fW (X : Wx) : Wv → V → Hp → Prop
  | .dat d => Dt X.K d
  | .dct => fun v F => ∃ a, v = .ref a ∧ F a = some (.dK [])
  | .opL => fun v F => ∃ a xs, v = .ref a ∧ SqL X.K F a xs
  | .opT => fun v F => ∃ a xs, v = .ref a ∧ SqT X.K F a xs
  | .web rs => webP X.cw X.K rs
  | .pool rss => poolP X.cp X.cw X.K X.P X.w rss
  | .tp ws => fun v F => ∃ a xs, v = .ref a ∧ SqT X.K F a xs ∧ fWs X ws xs F
noncomputable def fWs (X : Wx) : List Wv → List V → Hp → Prop
  | [], xs, _ => xs = []
  | w :: ws, xs, F => ∃ x ys, xs = x :: ys ∧ fW X w x F ∧ fWs X ws ys F
end
theorem fWs_each {X : Wx} {F : Hp} : ∀ {ws : List Wv} {xs : List V}, fWs X ws xs F ↔ Each (ws.map (fW X)) xs F
  | [], [] => Iff.intro (fun _ => True.intro) (fun _ => rfl)
  | [], x :: xs => Iff.intro (fun h => nomatch (show x :: xs = [] from h)) (fun h => False.elim h)
  | w :: ws, [] => Iff.intro (fun ⟨_, _, z, _⟩ => nomatch z) (fun h => False.elim h)
  | w :: ws, x :: xs => Iff.intro (fun ⟨_, _, z, h1, h2⟩ => by cases z; exact ⟨h1, fWs_each.mp h2⟩) (fun ⟨h1, h2⟩ => ⟨x, xs, rfl, h1, fWs_each.mpr h2⟩)
mutual
theorem fW_up {X : Wx} : ∀ (w : Wv) {v : V} {F F' : Hp}, Same F F' → fW X w v F → fW X w v F'
  | .dat d, v, F, F', e, h => dp_up e h
  | .dct, v, F, F', e, ⟨a, h1, h2⟩ => ⟨a, h1, e _ _ h2⟩
  | .opL, v, F, F', e, ⟨a, xs, h1, h2⟩ => ⟨a, xs, h1, sqL_up e h2⟩
  | .opT, v, F, F', e, ⟨a, xs, h1, h2⟩ => ⟨a, xs, h1, sqT_up e h2⟩
  | .web rs, v, F, F', e, h => Mono.mono (R := webP X.cw X.K rs) _ _ _ e h
  | .pool rss, v, F, F', e, h => Mono.mono (R := poolP X.cp X.cw X.K X.P X.w rss) _ _ _ e h
  | .tp ws, v, F, F', e, ⟨a, xs, h1, h2, h3⟩ => ⟨a, xs, h1, sqT_up e h2, fWs_up ws e h3⟩
theorem fWs_up {X : Wx} : ∀ (ws : List Wv) {xs : List V} {F F' : Hp}, Same F F' → fWs X ws xs F → fWs X ws xs F'
  | [], xs, F, F', e, h => h
  | w :: ws, xs, F, F', e, ⟨x, ys, h1, h2, h3⟩ => ⟨x, ys, h1, fW_up w e h2, fWs_up ws e h3⟩
end
instance {X : Wx} {w : Wv} : Mono (fW X w) := ⟨fun v F F' e h => fW_up w e h⟩
/-! ### its text -/
def Wv.shown : Wv → Str
  | .dat d => d.shown
  | _ => (PyData.dict []).shown
def Wv.says : Wv → Prop
  | .dat d => Sayable d
  | .dct => True
  | _ => False
/-! ### its kind -/
def Wv.isT (T : String) : Wv → Bool
  | .dat d => (kitB (tyName d) T).getD false
  | .dct => T == "dict"
  | .opL => T == "list"
  | .opT => T == "tuple"
  | .tp _ => T == "tuple"
  | _ => false
def Wv.isWeb : Wv → Bool
  | .web _ => true
  | _ => false
def Wv.isPool : Wv → Bool
  | .pool _ => true
  | _ => false
structure WxOk (X : Wx) : Prop where
  scw : SCls X.K X.cw
  siw : SIsi X.K X.cw
  scp : SCls X.K X.cp
  sip : SIsi X.K X.cp
  wt : ∀ T ∈ ["int", "bool", "tuple"], PySem.W.kitOne X.K (.ref X.cw) (.type T) = some false
  pt : ∀ T ∈ ["int", "bool", "tuple"], PySem.W.kitOne X.K (.ref X.cp) (.type T) = some false
  nw : ∀ T ∈ ["NoneType", "bool", "int", "str", "list", "tuple", "dict"], PySem.W.kitOne X.K (.type T) (.ref X.cw) = some false
  np : ∀ T ∈ ["NoneType", "bool", "int", "str", "list", "tuple", "dict"], PySem.W.kitOne X.K (.type T) (.ref X.cp) = some false
  wp : PySem.W.kitOne X.K (.ref X.cw) (.ref X.cp) = some false
  pw : PySem.W.kitOne X.K (.ref X.cp) (.ref X.cw) = some false
section
variable {ε : Type} {X : Wx} {F H : Hp}
def bName : Wv → String
  | .dat d => tyName d
  | .dct => "dict"
  | .opL => "list"
  | .opT => "tuple"
  | .tp _ => "tuple"
  | _ => ""
theorem ty_sqL {K : PySem.W.Frag} {a : Addr} {xs : List V} (h : SqL K H a xs) : TyX K H (.ref a) (.type "list") := by
  rcases h with (h | ⟨o, h⟩) | ⟨o, its, n, h, hc, _⟩
  · exact .base (.lst h)
  · exact .base (.frz h)
  · exact .kList h hc
/-- no web, no pool -/
def Wv.plain : Wv → Bool
  | .web _ => false
  | .pool _ => false
  | _ => true
theorem ty_plain {w : Wv} {v : V} (hp : w.plain = true) (h : fW X w v H) : TyX X.K H v (.type (bName w)) := by
  cases w with
  | dat d => exact ty_dt h
  | dct => obtain ⟨a, rfl, h⟩ := h; exact .base (.dK h)
  | opL => obtain ⟨a, xs, rfl, h⟩ := h; exact ty_sqL h
  | opT => obtain ⟨a, xs, rfl, h⟩ := h; exact ty_sqT h
  | tp ws => obtain ⟨a, xs, rfl, h, _⟩ := h; exact ty_sqT h
  | web rs => cases hp
  | pool rss => cases hp
theorem nm_plain {w : Wv} (hp : w.plain = true) : bName w ∈ ["NoneType", "bool", "int", "str", "list", "tuple", "dict"] := by
  cases w with
  | dat d => cases d <;> simp [bName, tyName]
  | dct => decide
  | opL => decide
  | opT => decide
  | tp ws => exact (by decide : "tuple" ∈ ["NoneType", "bool", "int", "str", "list", "tuple", "dict"])
  | web rs => cases hp
  | pool rss => cases hp
theorem kit_plain {T : String} (hT : T ∈ ["int", "bool", "tuple"]) {w : Wv} (hp : w.plain = true) : kitB (bName w) T = some (w.isT T) := by
  have key : ∀ n ∈ ["NoneType", "bool", "int", "str", "list", "tuple", "dict"], ∀ T ∈ ["int", "bool", "tuple"], kitB n T = some ((kitB n T).getD false) ∧ (n == "dict" || n == "list" || n == "tuple" → (kitB n T).getD false = (T == n)) := by decide +kernel
  cases w with
  | dat d => exact (key _ (nm_plain hp) T hT).1
  | dct => rw [bName, (key "dict" (by decide) T hT).1, (key "dict" (by decide) T hT).2 (by decide)]; rfl
  | opL => rw [bName, (key "list" (by decide) T hT).1, (key "list" (by decide) T hT).2 (by decide)]; rfl
  | opT => rw [bName, (key "tuple" (by decide) T hT).1, (key "tuple" (by decide) T hT).2 (by decide)]; rfl
  | tp ws => rw [bName, (key "tuple" (by decide) T hT).1, (key "tuple" (by decide) T hT).2 (by decide)]; rfl
  | web rs => cases hp
  | pool rss => cases hp
abbrev rIsiW (K : PySem.W.Frag) (u : Value) : List V → Hp → VK → Prop := fun xs H Q => rIsi K xs H Q ∨ rIsiSl K u xs H Q
theorem c_isiAny (ok : WxOk X) {c : V} {u : Value} (hc : ClsV c u) (hcu : RelV c u) (f : Wv → Bool) (hpl : ∀ w : Wv, w.plain = true → PySem.W.kitOne X.K (.type (bName w)) u = some (f w)) (hw : ∀ rs, PySem.W.kitOne X.K (.ref X.cw) u = some (f (.web rs))) (hp : ∀ rss, PySem.W.kitOne X.K (.ref X.cp) u = some (f (.pool rss))) :
    Cb ε (rIsiW X.K u) (fun p : Wv × Unit => [fW X p.1, Eqv c]) (fun p => pur (f p.1)) (fD X.K dB) := .of fun g vs F L hv Q Z q1 => by
  obtain ⟨v, c', rfl, h1, h2⟩ := each2 hv
  cases h2
  obtain ⟨w, _⟩ := g
  refine ⟨f w, q1, fun F2 N H e2 A Qk qk => ?_⟩
  have qe : Qk (.bl (f w)) H := qk _ F2 H (Same.refl _) A (.bl _)
  by_cases hpw : w.plain = true
  · exact .inl ⟨v, c, _, u, _, rfl, hc, ty_plain hpw (Mono.mono (R := fW X w) _ _ _ (e2.trans A.ex) h1), hpl w hpw, qe⟩
  · cases w with
    | web rs =>
      obtain ⟨a, dx, ws, rfl, p1, p2⟩ := webP.is h1
      exact .inr ⟨a, X.cw, dx, ws, c, _, rfl, hcu, fun z hz => hc.eq hz, at_slt A (e2 _ _ p1) (e2 _ _ p2), ok.scw, ok.siw, hw rs, qe⟩
    | pool rss =>
      obtain ⟨a, dx, ws, rfl, p1, p2⟩ := is_pool _ _ _ h1
      exact .inr ⟨a, X.cp, dx, ws, c, _, rfl, hcu, fun z hz => hc.eq hz, at_slt A (e2 _ _ p1) (e2 _ _ p2), ok.scp, ok.sip, hp rss, qe⟩
    | dat d => exact absurd rfl hpw
    | dct => exact absurd rfl hpw
    | opL => exact absurd rfl hpw
    | opT => exact absurd rfl hpw
    | tp ws => exact absurd rfl hpw
theorem c_isiT (ok : WxOk X) (T : String) (hT : T ∈ ["int", "bool", "tuple"] := by decide) : Cb ε (rIsiW X.K (.type T)) (fun p : Wv × Unit => [fW X p.1, Eqv (.ty T)]) (fun p => pur (p.1.isT T)) (fD X.K dB) :=
  c_isiAny ok (.ty T) rfl (fun w => w.isT T) (fun w h => kit_ty (kit_plain hT h)) (fun rs => ok.wt T hT) (fun rss => ok.pt T hT)
theorem c_isiWeb (ok : WxOk X) : Cb ε (rIsiW X.K (.ref X.cw)) (fun p : Wv × Unit => [fW X p.1, Eqv (.ref X.cw)]) (fun p => pur p.1.isWeb) (fD X.K dB) :=
  c_isiAny ok (.own _) rfl Wv.isWeb (fun w h => by rw [ok.nw _ (nm_plain h)]; cases w <;> first | rfl | cases h) (fun rs => kit_self) (fun rss => ok.pw)
theorem c_isiPool (ok : WxOk X) : Cb ε (rIsiW X.K (.ref X.cp)) (fun p : Wv × Unit => [fW X p.1, Eqv (.ref X.cp)]) (fun p => pur p.1.isPool) (fD X.K dB) :=
  c_isiAny ok (.own _) rfl Wv.isPool (fun w h => by rw [ok.np _ (nm_plain h)]; cases w <;> first | rfl | cases h) (fun rs => ok.wp) (fun rss => kit_self)
end
end Tw

/-! Tm5: values of many kinds as values of one kind, and back; defs that raise exceptions which keep a value. -/
namespace Tw
open PySem PySem.Spec PyProof.Rows L2 SlX StX Rs Ma Sn Wb
variable [Rs.Tabz]
section
variable {ε α β : Type} {Z : Wsh ε} {ρ : List (Option VP)} {κ : List Ow} {X : Wx} {te : TE} {i : Nat}
theorem TrE.part {R : α → VP} {R' : β → VP} [∀ b, Mono (R' b)] {m : Wm ε α} (f : β → α) (h : TrE Z ρ κ te m R) (hr : ∀ b v F, R (f b) v F → R' b v F) : TrE Z ρ κ te (fun Q E => m (fun a => ∃ b, a = f b ∧ Q b) E) R' :=
  ⟨inferInstance, fun σ F L s c Q E q => (h.run σ F L s c _ E q).weak fun v F2 e ⟨a, ⟨b, eb, q1⟩, r1⟩ => ⟨b, q1, hr b v F2 (eb ▸ r1)⟩⟩
variable {m : Wm ε Wv}
theorem tr_Wd (h : TrE Z ρ κ te m (fW X)) : TrE Z ρ κ te (fun Q E => m (fun a => ∃ d, a = .dat d ∧ Q d) E) (fD X.K dA) := h.part Wv.dat fun b v F x => x
theorem tr_Wi (h : TrE Z ρ κ te m (fW X)) : TrE Z ρ κ te (fun Q E => m (fun a => ∃ i, a = .dat (.int i) ∧ Q i) E) (fD X.K dInt) := h.part (fun i => Wv.dat (.int i)) fun b v F x => x
theorem tr_WtN (h : TrE Z ρ κ te m (fW X)) : TrE Z ρ κ te (fun Q E => m (fun a => ∃ ns : List Nat, a = .dat (dT dN ns) ∧ Q ns) E) (fD X.K (dT dN)) := h.part (fun ns => Wv.dat (dT dN ns)) fun b v F x => x
theorem tr_WtI (h : TrE Z ρ κ te m (fW X)) : TrE Z ρ κ te (fun Q E => m (fun a => ∃ ns : List Int, a = .dat (dT dInt ns) ∧ Q ns) E) (fD X.K (dT dInt)) := h.part (fun ns => Wv.dat (dT dInt ns)) fun b v F x => x
theorem tr_Wt (h : TrE Z ρ κ te m (fW X)) : TrE Z ρ κ te (fun Q E => m (fun a => ∃ ds : List PyData, a = .dat (.tuple ds) ∧ Q (ds.map .dat)) E) (fTp X.K (fW X)) :=
  (h.part (R' := fun ds => fTp X.K (fW X) (ds.map .dat)) (fun ds => Wv.dat (.tuple ds)) fun b v F x => by
    show Tp X.K ((b.map Wv.dat).map (fW X)) v F
    rw [List.map_map]
    exact tp_dt.mpr x).conv (R' := fTp X.K (fW X)) (fun ds => ds.map Wv.dat) fun _ _ _ x => x
theorem tr_Wweb (h : TrE Z ρ κ te m (fW X)) : TrE Z ρ κ te (fun Q E => m (fun a => ∃ rs, a = .web rs ∧ Q rs) E) (webP X.cw X.K) := h.part Wv.web fun b v F x => x
theorem tr_dW {d : α → PyData} {m : Wm ε α} (h : TrE Z ρ κ te m (fD X.K d)) : TrE Z ρ κ te (fun Q E => m (fun a => Q (.dat (d a))) E) (fW X) := h.conv (R' := fW X) (fun a => Wv.dat (d a)) fun a v F x => x
theorem tr_webW {m : Wm ε Rows} (h : TrE Z ρ κ te m (webP X.cw X.K)) : TrE Z ρ κ te (fun Q E => m (fun a => Q (.web a)) E) (fW X) := h.conv Wv.web fun a v F x => x
theorem tr_poolW {m : Wm ε (List Rows)} (h : TrE Z ρ κ te m (poolP X.cp X.cw X.K X.P X.w)) : TrE Z ρ κ te (fun Q E => m (fun a => Q (.pool a)) E) (fW X) := h.conv Wv.pool fun a v F x => x
theorem tr_lW {R : α → VP} {m : Wm ε (List α)} (h : TrE Z ρ κ te m (fLn R)) : TrE Z ρ κ te (fun Q E => m (fun _ => Q .opL) E) (fW X) := h.conv (R' := fW X) (fun _ => Wv.opL) fun a v F x => by
  obtain ⟨p, vs, e, h1, _⟩ := x
  exact ⟨p, vs, e, .inl (.inl h1)⟩
theorem tr_dct : TrE Z ρ κ tDNewK (pur .dct) (fW X) := ⟨inferInstance, fun σ F L s c Q E q => .of fun F1 N H e A Qk qk => fun p hp => qk _ (upd F1 p (.dK [])) _ (same_new (A.free hp)) (A.new hp) ⟨.dct, q, p, rfl, upd_same⟩⟩
/-- whatever it is -/
def fAny : Unit → VP := fun _ _ _ => True
instance {u : Unit} : Mono (fAny u) := ⟨fun _ _ _ _ h => h⟩
theorem TrE.any {R : α → VP} {m : Wm ε α} (h : TrE Z ρ κ te m R) : TrE Z ρ κ te (fun Q E => m (fun _ => Q ()) E) fAny := h.conv (fun _ => ()) fun _ _ _ _ => True.intro
end
/-! ### exceptions -/
structure Ex where
  cls : Addr
  arg : Option (Str × Wv)
/-- how an exception stands there -/
noncomputable def xrE (Y : Wx) (e : Ex) (cls : Value) (d : Option Addr) (F : Hp) : Prop := cls = .ref e.cls ∧ ∀ f w, e.arg = some (f, w) → ∃ dd v, d = some dd ∧ F dd = some (.xd [(f, v)]) ∧ fW Y w v F
noncomputable def Zy (Y : Wx) (W : WX) (n : Nat) : Wsh Ex where
  wi := W
  xr := xrE Y
  t := fun σ _ _ => σ.length = n
  tl := fun _ _ _ _ h => h
section
variable {X : Cx} {e : Expr} {es : List Expr} {t : TA} {p pos : Pos} {f : Str} {W : WX}
end
section
variable {α γ δ S : Type} {ρ : List (Option VP)} {κ : List Ow} {Y : Wx} {t : TA} {mg : Wm Ex γ} {Rs : γ → List VP} {Rd : δ → VP} {W : WX} {n : Nat} {ρ2 : S → List (Option VP)} {κ2 : S → List Ow}
end
section
variable {P : Program} {w : World} {K : PySem.W.Frag} {mg : Str → Option Value} {base : Heap} {γ δ : Type} {Y : Wx}
end
end Tw

/-! Tm6: a lambda handed to a def of the law's. -/
namespace LmR
open PySem PySem.Spec PyProof.Rows L2 LamX
section
variable {X : Cx} {pins : List (Addr × Obj)} {σ : L2.St} {H : Hp} {s : Shared}
end
end LmR

/-! Tm7: a law's def that calls what it got, and tells the error by a word. -/
namespace Tw
open PySem PySem.Spec PyProof.Rows L2 SlX StX Rs Ma Sn Wb LmR
variable [Rs.Tabz]
/-! ### the word for an error -/
inductive MetW where
  | word (s : Str) | kept (pre f : Str)
  /-- .. and the number kept, by str -/
  | keptS (pre f : Str)
structure MetC where
  C : Addr
  w : MetW
def metK (Y : Wx) : List MetC → Ex → (Str → Prop) → Prop
  | [], _, _ => False
  | m :: ms, e, Q => ∃ b, PySem.W.exmOne Y.K (.ref e.cls) (.ref m.C) = some b ∧ (b = true → match m.w with
      | .word s => Q s
      | .kept pre f => e.cls = m.C ∧ ∃ w, e.arg = some (f, w) ∧ w.says ∧ pre.length + w.shown.length ≤ sizeLine ∧ Q (pre ++ w.shown)
      | .keptS pre f => e.cls = m.C ∧ ∃ i : Int, e.arg = some (f, .dat (.int i)) ∧ i.natAbs.log2 < 1920 ∧ pre.length + (toString i : Str).length ≤ sizeLine ∧ Q (pre ++ (toString i : Str))) ∧ (b = false → metK Y ms e Q)
section
variable {X : Cx} {Y : Wx}
open LamX in
end
section
variable {ε β : Type} {Z : Wsh ε} {ρ : List (Option VP)} {κ : List Ow} {Y : Wx} {n : Nat} {Rb : β → VP} {t : XK → TE} {mb : Wm Ex β} {P : Addr} {q ret : Str} {ms : List MetC}
/-- a def's run, its error told by a word -/
def lamW (Y : Wx) (ms : List MetC) (ret : Str) (mb : Wm Ex β) (Q : Str → Prop) : Prop := mb (fun _ => Q ret) fun e => metK Y ms e Q
end
end Tw

/-! Tm8: d(lambda: e) as a rule; defs with lambdas. -/
namespace Tw
open PySem PySem.Spec PyProof.Rows L2 SlX StX Rs Ma Sn Wb LmR
variable [Rs.Tabz]
section
variable {P : Program} {w : World} {K : PySem.W.Frag} {mg : Str → Option Value} {base : Heap} {γ δ : Type}
end
abbrev YY (K : PySem.W.Frag) (CW CP : Addr) (P : Program) (w : World) : Wx := ⟨K, CW, CP, P, w⟩
section
variable {ε : Type} {Z : Wsh ε} {ρ : List (Option VP)} {κ : List Ow} {X : Wx} {te : TE} {m : Wm ε Wv} {K : PySem.W.Frag}
end
section
variable {X : Cx} {e : Expr} {es : List Expr} {t : TA} {p pos : Pos}
end
section
variable {γ δ S : Type} {ρ : List (Option VP)} {κ : List Ow} {Y : Wx} {Rd : δ → VP} {W : WX} {n : Nat} {ρ2 : S → List (Option VP)} {κ2 : S → List Ow} {u : TS}
end
end Tw

/-! Tn0: the head of a law with several tables of code objects. -/
namespace Tw
open PySem PySem.Spec PyProof.Rows L2 SlX StX Rs Ma Sn
section
variable {P : Program} {w : World} {K : PySem.W.Frag} {mg mb : Str → Option Value} {k : Nat} {fa a : Addr} {cs : List (Addr × Addr)} {fd : FuncData} {x : Str} {s₁ : Shared} {vs : List Value} {ns : List Int}
end
end Tw

/-! Tn1: facts of own errors and own classes, as closed truths. -/
namespace Tw
open PySem PySem.Spec PyProof.Rows L2 SlX StX Rs Ma Sn
def xclsB (K : PySem.W.Frag) (C : Addr) : Bool := PySem.W.excIn K C [.type "ValueError", .type "Exception", .type "BaseException", .type "object"] "ValueError.__new__" && (PySem.W.keepIn K (.ref C) && (decide (PySem.W.subIn K (.ref C) (.type "BaseException") = some true) && (decide (PySem.W.typeIn K (.ref C) = some (.type "type")) && decide (PySem.W.exmOne K (.ref C) (.ref C) = some true))))
theorem xclsB_ok {K : PySem.W.Frag} {mg : Str → Option Value} {x : Str} {C : Addr} (h : xclsB K C = true) (g : mg x = some (.ref C)) : XCls K mg x C := by
  unfold xclsB at h
  simp only [Bool.and_eq_true, decide_eq_true_eq] at h
  obtain ⟨h1, h2, h3, h4, h5⟩ := h
  exact ⟨g, h1, h2, h3, h4, h5⟩
def wxB (K : PySem.W.Frag) (W P : Addr) : Bool :=
  (["int", "bool", "tuple"].all fun T => decide (PySem.W.kitOne K (.ref W) (.type T) = some false)) && ((["int", "bool", "tuple"].all fun T => decide (PySem.W.kitOne K (.ref P) (.type T) = some false)) &&
  ((["NoneType", "bool", "int", "str", "list", "tuple", "dict"].all fun T => decide (PySem.W.kitOne K (.type T) (.ref W) = some false)) && ((["NoneType", "bool", "int", "str", "list", "tuple", "dict"].all fun T => decide (PySem.W.kitOne K (.type T) (.ref P) = some false)) &&
  (decide (PySem.W.kitOne K (.ref W) (.ref P) = some false) && decide (PySem.W.kitOne K (.ref P) (.ref W) = some false)))))
theorem wxB_ok {K : PySem.W.Frag} {W C : Addr} {P : Program} {w : World} (h : wxB K W C = true) (scw : SCls K W) (siw : SIsi K W) (scp : SCls K C) (sip : SIsi K C) : WxOk (YY K W C P w) := by
  unfold wxB at h
  rw [Bool.and_eq_true, Bool.and_eq_true, Bool.and_eq_true, Bool.and_eq_true, Bool.and_eq_true] at h
  obtain ⟨h1, h2, h3, h4, h5, h6⟩ := h
  exact ⟨scw, siw, scp, sip, fun T m => of_decide_eq_true (List.all_eq_true.mp h1 T m), fun T m => of_decide_eq_true (List.all_eq_true.mp h2 T m), fun T m => of_decide_eq_true (List.all_eq_true.mp h3 T m), fun T m => of_decide_eq_true (List.all_eq_true.mp h4 T m), of_decide_eq_true h5, of_decide_eq_true h6⟩
end Tw

/-! Tq0: methods that may raise. -/
namespace Tw
open PySem PySem.Spec PyProof.Rows L2 SlX StX Rs Ma Sn Wb
variable [Rs.Tabz]
section
variable {X : Cx} {o e : Expr} {es : List Expr} {m : Str} {pos apos : Pos} {ta : TE} {t : TA} {E : XK}
end
section
variable {α γ δ : Type} {ρ : List (Option VP)} {κ : List Ow} {Y : Wx} {ta : TE} {t : TA} {ma : Wm Ex α} {mg : Wm Ex γ} {Ra : α → VP} {Rs : γ → List VP} {Rd : δ → VP} {n : Nat} {E : XK}
end
section
variable {P : Program} {w : World} {K : PySem.W.Frag} {mg : Str → Option Value} {base : Heap} {γ δ : Type} {Y : Wx}
end
section
variable {α β δ : Type} {ρ : List (Option VP)} {κ : List Ow} {Y : Wx} {ta tb : TE} {ma : Wm Ex α} {mb : Wm Ex β} {Ra : α → VP} {Rb : β → VP} {Rd : δ → VP} {n : Nat} {E : XK}
end
end Tw

/-! Tq1: a law's def that gives back what the call gives, or a word for its error. -/
namespace Tw
open PySem PySem.Spec PyProof.Rows L2 SlX StX Rs Ma Sn Wb LmR
variable [Rs.Tabz]
section
variable {X : Cx} {Y : Wx}
open LamX in
end
section
variable {ε β : Type} {Z : Wsh ε} {ρ : List (Option VP)} {κ : List Ow} {Y : Wx} {n : Nat} {Rb : β → VP} {t : XK → TE} {mb : Wm Ex β} {P : Addr} {q : Str} {ms : List MetC}
end
end Tw

/-! Tq2: lists of two things of different kinds. -/
namespace Tw
open PySem PySem.Spec PyProof.Rows L2 SlX StX Rs Ma Sn Wb
variable [Rs.Tabz]
section
variable {ε α β : Type} {Z : Wsh ε} {ρ : List (Option VP)} {κ : List Ow} {ta tb : TE} {ma : Wm ε α} {mb : Wm ε β} {Ra : α → VP} {Rb : β → VP} {K : PySem.W.Frag}
/-- a list of two things -/
def fPL2 (Ra : α → VP) (Rb : β → VP) : α × β → VP := fun p => Ln [Ra p.1, Rb p.2]
instance [∀ a, Mono (Ra a)] [∀ b, Mono (Rb b)] {p : α × β} : Mono (fPL2 Ra Rb p) := inferInstanceAs (Mono (Ln [Ra p.1, Rb p.2]))
end
section
variable {ε α β γ δ S : Type} {Z : Wsh ε} {ρ : List (Option VP)} {κ : List Ow} {ta tb tc : TE} {u : TS} {ma : Wm ε α} {mb : Wm ε β} {mc : Wm ε γ} {Ra : α → VP} {Rb : β → VP} {Rc : γ → VP} {Rd : δ → VP} {ρ2 : S → List (Option VP)} {κ2 : S → List Ow}
end
end Tw

/-! Tq3: a thing of one of two kinds. -/
namespace Tw
open PySem PySem.Spec PyProof.Rows L2 SlX StX Rs Ma Sn Wb LmR
variable [Rs.Tabz]
section
variable {ε α β : Type} {Z : Wsh ε} {ρ : List (Option VP)} {κ : List Ow} {te : TE} {Ra : α → VP} {Rb : β → VP} {K : PySem.W.Frag}
/-- one of two kinds -/
def fEi (Ra : α → VP) (Rb : β → VP) : α ⊕ β → VP := fun x => match x with
  | .inl a => Ra a
  | .inr b => Rb b
instance [∀ a, Mono (Ra a)] [∀ b, Mono (Rb b)] {x : α ⊕ β} : Mono (fEi Ra Rb x) := by
  cases x
  · exact inferInstanceAs (Mono (Ra _))
  · exact inferInstanceAs (Mono (Rb _))
end
section
variable {ε β : Type} {Z : Wsh ε} {ρ : List (Option VP)} {κ : List Ow} {Y : Wx} {n : Nat} {Rb : β → VP} {t : XK → TE} {mb : Wm Ex β} {P : Addr} {q : Str} {ms : List MetC}
end
end Tw

/-! Tq4: a list of anything != []. -/
namespace Tw
open PySem PySem.Spec PyProof.Rows L2 SlX StX Rs Ma Sn Wb
variable [Rs.Tabz]
def rNeNil (K : PySem.W.Frag) : R2 := fun x y H Q => ∃ a b xs, x = .ref a ∧ y = .ref b ∧ SqL K H a xs ∧ SqL K H b [] ∧ Q (.bl (!decide (xs.length = 0))) H
theorem op_neNil {X : Cx} (hu : X.A.units < cLine) : OpR X (compareOp .NotEq) (rNeNil X.K) := by
  intro pins s σ H x y v u Q I rx ry h
  obtain ⟨a, b, xs, rfl, rfl, ha, hb, q⟩ := h
  cases rx
  cases ry
  obtain ⟨its, r, pl, z⟩ := I.list ha
  obtain ⟨its2, r2, pl2, z2⟩ := I.list hb
  have e2 : its2 = [] := by
    have := r2.length
    exact List.eq_nil_of_length_eq_zero (by rw [← this]; rfl)
  subst e2
  have hl := r.length
  have fin : EP X pins σ Q (.bool (!decide (xs.length = 0))) s := ⟨.bl _, H, I, rfl, q⟩
  show wpAny _ _ (richCompare .NotEq (.ref a) (.ref b)) _ _ _
  by_cases h0 : xs.length = 0
  · have e0 : its = [] := List.eq_nil_of_length_eq_zero (by rw [← hl]; exact h0)
    subst e0
    rw [decide_eq_true h0] at fin
    exact PySem.SeqAt.RcNeAt.lists (e := fun _ => true) pl.isList pl2.isList rfl hu (fun j h1 _ => absurd h1 (by simp)) _ _ _ _ fin
  · rw [decide_eq_false h0] at fin
    exact PySem.SeqAt.RcNeAt.lists_lengths pl.isList pl2.isList (by simp; intro z; exact h0 (by rw [hl, z]; rfl)) hu _ _ _ _ fin
section
variable {ε α β : Type} {K : PySem.W.Frag} {R : α → VP} {Rb : β → VP}
theorem o_neNil [∀ a, Mono (R a)] [∀ b, Mono (Rb b)] : Op2 ε (rNeNil K) (fLn R) (fLn Rb) (fun as bs Q _ => bs = [] ∧ Q (!decide (as.length = 0))) (fD K dB) :=
  ⟨fun as bs x y F L hx hy Q X ⟨e0, q⟩ => fun F2 N H e2 A Qk qk => by
    subst e0
    obtain ⟨a, xs, rfl, sa, ha⟩ := hx
    obtain ⟨b, ys, rfl, sb, hb⟩ := hy
    have e := e2.trans A.ex
    have l1 := each_length ha
    rw [List.length_map] at l1
    have l2 : ys = [] := List.eq_nil_of_length_eq_zero (each_length hb)
    subst l2
    exact ⟨a, b, xs, rfl, rfl, .inl (.inl (e _ _ sa)), .inl (.inl (e _ _ sb)), by rw [l1]; exact qk _ F2 H (Same.refl _) A ⟨_, q, .bl _⟩⟩⟩
end
end Tw

/-! Tq5: != of tuples whose items are alike, by their own ==. -/
namespace NeG
open PySem PySem.SeqAt GQ
open AutoSeq1 (wpAny_loadPart')
open MeetsSeq MeetsSeq2 MeetsSeq3 SeqRoads2
section
variable {prog : Program} {w : World} {A : Around} {R : Result → Shared → Prop}
theorem tuple_neG (l b : Addr) (xs ys : Array Value) (n n2 : Nat) (dd dd2 : Option Addr) (sl sl2 : Array (Option Value)) (hsz : xs.size = ys.size) (I : Nat → Shared → Prop)
    (turn : ∀ i (h1 : i < xs.size) (h2 : i < ys.size) s, I i s → wpAny (model prog w) A.in1 (eqBool xs[i] ys[i]) (fun r s' => r = true ∧ I (i + 1) s') (fun e s' => R (.error e) s') s)
    (fin : ∀ s, I xs.size s → R (.ok (.ret (.bool false))) s) {s : Shared} (hl1 : s.heap.get? l = some { cls := .type "tuple", dict := dd, data := .seq xs n, slots := sl }) (hb1 : s.heap.get? b = some { cls := .type "tuple", dict := dd2, data := .seq ys n2, slots := sl2 }) (h : I 0 s) :
    wpAny (model prog w) A.in1 (Builtin.«tuple.__ne__» ⟨[.ref l, .ref b], []⟩) (FinOf prog w A R) (fun e s' => R (.error e) s') s := by
  have f2 := AutoSeq1.sub_tuple_tuple
  have len : (xs.toList.zip ys.toList).length = xs.size := by simp [hsz]
  have h0 := h
  obtain ⟨hp, g, d, tk, os⟩ := s
  wp_walk using wpAny_loadPart' hl1, wpAny_loadPart' hb1, wpAny_forIn_list _ (fun rest b s' => b.1 = none ∧ ∃ i, rest = (xs.toList.zip ys.toList).drop i ∧ i ≤ xs.size ∧ I i s') _
  case turn =>
    rintro ⟨y, x⟩ rest b s' ⟨hb', i, hz, hi, hI⟩
    have lt : i < (xs.toList.zip ys.toList).length := Nat.lt_of_not_ge fun h' => by
      rw [List.drop_of_length_le h'] at hz; cases hz
    have h1 : i < xs.size := len ▸ lt
    have h2 : i < ys.size := hsz ▸ h1
    rw [List.drop_eq_getElem_cons lt] at hz
    injection hz with e1 e2
    have hy : y = xs[i] := by have := congrArg Prod.fst e1; simpa using this
    have hx : x = ys[i] := by have := congrArg Prod.snd e1; simpa using this
    subst hy hx
    refine wpAny_bind (wpAny_mono (turn i h1 h2 s' hI) (fun r s2 q2 => ?_) fun _ _ x => x)
    obtain ⟨hr, q2⟩ := q2
    subst hr
    wp_walk
    exact ⟨rfl, i + 1, e2, h1, q2⟩
  case fin =>
    rintro ⟨b1, b2⟩ s' ⟨hb', i, hz, hi, hI⟩
    simp only at hb'
    subst hb'
    have ge : xs.size ≤ i := Nat.le_of_not_lt fun h' => by
      rw [List.drop_eq_getElem_cons (len.symm ▸ h')] at hz; cases hz
    have hi' : i = xs.size := by omega
    have hR : R (.ok (.ret (.bool false))) s' := fin s' (hi' ▸ hI)
    wp_walk
    simpa [Builtin.Tuple.tupleCompareSizes, hsz] using hR
  case h =>
    exact ⟨rfl, 0, rfl, Nat.zero_le _, h0⟩
end
section
variable {prog : Program} {w : World} {A : Around} {E : Value → Shared → Prop} {s : Shared}
theorem rc_tupNe {l b : Addr} {items items2 : Array Value} {Q : Value → Shared → Prop} (hsz : items.size = items2.size) (hu : A.units < cLine) (I : Nat → Shared → Prop)
    (hl : s.heap.IsTuple l items) (hb : s.heap.IsTuple b items2)
    (turn : ∀ i (h1 : i < items.size) (h2 : i < items2.size) s, I i s → wpAny (model prog w) A.in1 (eqBool items[i] items2[i]) (fun r s' => r = true ∧ I (i + 1) s') E s)
    (fin : ∀ s, I items.size s → Q (.bool false) s) (h : I 0 s) : wpAny (model prog w) A (richCompare .NotEq (.ref l) (.ref b)) Q E s := by
  obtain ⟨⟨cls, dd, data, sl⟩, ho, hc, n, hd⟩ := id hl
  obtain ⟨⟨cls2, dd2, data2, sl2⟩, ho2, hc2, n2, hd2⟩ := id hb
  simp only at hc hd hc2 hd2
  subst hc hd hc2 hd2
  refine wpAny_richCompare_same_room (op := .NotEq) ⟨_, ho, rfl⟩ ⟨_, ho2, rfl⟩ F.slot_tuple_ne (call_here F.slot_tuple_ne ⟨_, ho, rfl⟩ F.entry_tuple_ne (F.args_tuple_ne_2 _ _) ?_) hu
  exact tuple_neG (R := wants (fun v s' => v ≠ .notImplemented ∧ Q v s') E) l b items items2 n n2 dd dd2 sl sl2 hsz I turn (fun s' q => ⟨(fun x => nomatch x), fin s' q⟩) ho ho2 h
end
end NeG
namespace Tw
open PySem PySem.Spec PyProof.Rows L2 SlX StX Rs Ma Sn
def rNeG (D : Eqv) : R2 := fun x y H Q => D x y H ∧ ∀ H', Ext H H' → Q (.bl false) H'
theorem op_neG {X : Cx} {n : Nat} {D : Eqv} (hD : Mon D) (h : EqG X n D) (hr : Room (n + 1) X.A) : OpR X (compareOp .NotEq) (rNeG (DTup X.K D)) := by
  intro pins s σ H x y v u Q I rx ry hq
  obtain ⟨⟨a, b, xs, ys, rfl, rfl, ha, hb, p⟩, q⟩ := hq
  cases rx
  cases ry
  obtain ⟨its, r, e, z⟩ := I.tuple ha
  obtain ⟨its2, r2, e2, z2⟩ := I.tuple hb
  have hsz : its.toArray.size = its2.toArray.size := by rw [List.size_toArray, List.size_toArray, ← r.length, ← r2.length]; exact p.1
  show wpAny (model X.prog X.w) X.A (richCompare .NotEq (.ref a) (.ref b)) (EP X pins σ Q) X.xe s
  exact NeG.rc_tupNe hsz hr.units0 (fun _ s' => LoopI X pins σ H s') e e2 (fun i h1 h2 s' q => turnG hD h ⟨hr, rfl⟩ p r r2 i h1 h2 s' q) (fun s' ⟨H', I', e'⟩ => ⟨.bl false, H', I', rfl, q H' e'⟩) ⟨H, I, Ext.rfl'⟩
section
variable {X : Cx} {α : Type} {Ra : α → VP} {C : Addr} {k : Nat}
theorem op_neTown [Rs.Tabz] [∀ a, Mono (Ra a)] {spec : α × α → (Bool → Prop) → Prop} {j : Nat} (c : EqS X.prog X.w X.K X.mg X.base k C (SpN (fun p : α × α => [Ra p.1, Ra p.2]) spec (fD X.K dB))) (hn : PySem.W.notFirst X.K C (.ref C) = true) (h1 : ∀ a v F, Ra a v F → IsOb C v F)
    (hs : ∀ a (Q : Bool → Prop), Q true → spec (a, a) Q) (hz : ∀ P, ¬ Tabz.ts P) (hr : Room j X.A) (hk : k + 1 ≤ j) : OpR X (compareOp .NotEq) (rNeG (DTup X.K (DOwn Ra))) :=
  op_neG mon_own ((rcG_own c hn h1 hs hz).eqG fun x y H ⟨a, ra, rb⟩ => by
    obtain ⟨p, _, _, rfl, _⟩ := h1 _ _ _ ra
    obtain ⟨p', _, _, rfl, _⟩ := h1 _ _ _ rb
    exact ⟨p, p', rfl, rfl⟩) (hr.mono hk)
theorem op_neTown0 [∀ a, Mono (Ra a)] {spec : α × α → (Bool → Prop) → Prop} {j : Nat} (c : EqS X.prog X.w X.K X.mg X.base k C (@SpN Tz0 _ _ (fun p : α × α => [Ra p.1, Ra p.2]) spec (fD X.K dB))) (hn : PySem.W.notFirst X.K C (.ref C) = true) (h1 : ∀ a v F, Ra a v F → IsOb C v F)
    (hs : ∀ a (Q : Bool → Prop), Q true → spec (a, a) Q) (hr : Room j X.A) (hk : k + 1 ≤ j) : OpR X (compareOp .NotEq) (rNeG (DTup X.K (DOwn Ra))) := @op_neTown X α Ra C k Tz0 _ spec j c hn h1 hs (fun _ h => h) hr hk
end
section
variable {ε α : Type} {K : PySem.W.Frag} {Ra : α → VP}
theorem o_neTown [Rs.Tabz] [∀ a, Mono (Ra a)] : Op2 ε (rNeG (DTup K (DOwn Ra))) (fTp K Ra) (fTp K Ra) (fun as bs Q _ => as = bs ∧ Q false) (fD K dB) :=
  ⟨fun as bs x y F L hx hy Q X ⟨e0, q⟩ => fun F2 N H e2 A Qk qk => by
    subst e0
    obtain ⟨a, xs, rfl, sa, ha⟩ := hx
    obtain ⟨b, ys, rfl, sb, hb⟩ := hy
    have e := e2.trans A.ex
    exact ⟨⟨a, b, xs, ys, rfl, rfl, sqT_up e sa, sqT_up e sb, prs_own (MonoL.mono _ _ _ e ha) (MonoL.mono _ _ _ e hb)⟩, fun H' eh => qk _ F2 H' (Same.refl _) (at_ext A eh) ⟨false, q, .bl _⟩⟩⟩
end
end Tw

/-! Tr1: == of tuples of own objects, whatever they are. -/
namespace EqB
open PySem PySem.SeqAt GQ
open AutoSeq1 (wpAny_loadPart')
open MeetsSeq MeetsSeq2 MeetsSeq3 SeqRoads2
section
variable {prog : Program} {w : World} {A : Around} {R : Result → Shared → Prop}
theorem tuple_eqB (l b : Addr) (xs ys : Array Value) (n n2 : Nat) (dd dd2 : Option Addr) (sl sl2 : Array (Option Value)) (I : Nat → Shared → Prop)
    (turn : ∀ i (h1 : i < xs.size) (h2 : i < ys.size) s, I i s → wpAny (model prog w) A.in1 (eqBool xs[i] ys[i]) (fun r s' => if r = true then I (i + 1) s' else R (.ok (.ret (.bool false))) s') (fun e s' => R (.error e) s') s)
    (fin : ∀ s, I (min xs.size ys.size) s → R (.ok (.ret (.bool (xs.size == ys.size)))) s) {s : Shared} (hl1 : s.heap.get? l = some { cls := .type "tuple", dict := dd, data := .seq xs n, slots := sl }) (hb1 : s.heap.get? b = some { cls := .type "tuple", dict := dd2, data := .seq ys n2, slots := sl2 }) (h : I 0 s) :
    wpAny (model prog w) A.in1 (Builtin.«tuple.__eq__» ⟨[.ref l, .ref b], []⟩) (FinOf prog w A R) (fun e s' => R (.error e) s') s := by
  have f2 := AutoSeq1.sub_tuple_tuple
  have len : (xs.toList.zip ys.toList).length = min xs.size ys.size := by simp
  have h0 := h
  obtain ⟨hp, g, d, tk, os⟩ := s
  wp_walk using wpAny_loadPart' hl1, wpAny_loadPart' hb1, wpAny_forIn_list _ (fun rest b s' => b.1 = none ∧ ∃ i, rest = (xs.toList.zip ys.toList).drop i ∧ i ≤ min xs.size ys.size ∧ I i s') _
  case turn =>
    rintro ⟨y, x⟩ rest b s' ⟨hb', i, hz, hi, hI⟩
    have lt : i < (xs.toList.zip ys.toList).length := Nat.lt_of_not_ge fun h' => by
      rw [List.drop_of_length_le h'] at hz; cases hz
    have hm : i < min xs.size ys.size := len ▸ lt
    have h1 : i < xs.size := Nat.lt_of_lt_of_le hm (Nat.min_le_left _ _)
    have h2 : i < ys.size := Nat.lt_of_lt_of_le hm (Nat.min_le_right _ _)
    rw [List.drop_eq_getElem_cons lt] at hz
    injection hz with e1 e2
    have hy : y = xs[i] := by have := congrArg Prod.fst e1; simpa using this
    have hx : x = ys[i] := by have := congrArg Prod.snd e1; simpa using this
    subst hy hx
    refine wpAny_bind (wpAny_mono (turn i h1 h2 s' hI) (fun r s2 q2 => ?_) fun _ _ x => x)
    cases r with
    | true =>
      rw [if_pos rfl] at q2
      wp_walk
      exact ⟨rfl, i + 1, e2, hm, q2⟩
    | false =>
      rw [if_neg Bool.false_ne_true] at q2
      wp_walk
      exact q2
  case fin =>
    rintro ⟨b1, b2⟩ s' ⟨hb', i, hz, hi, hI⟩
    simp only at hb'
    subst hb'
    have ge : min xs.size ys.size ≤ i := Nat.le_of_not_lt fun h' => by
      rw [List.drop_eq_getElem_cons (len.symm ▸ h')] at hz; cases hz
    have hi' : i = min xs.size ys.size := by omega
    have hR : R (.ok (.ret (.bool (xs.size == ys.size)))) s' := fin s' (hi' ▸ hI)
    wp_walk
    simpa [Builtin.Tuple.tupleCompareSizes] using hR
  case h =>
    exact ⟨rfl, 0, rfl, Nat.zero_le _, h0⟩
end
section
variable {prog : Program} {w : World} {A : Around} {E : Value → Shared → Prop} {s : Shared}
theorem rc_tupB {l b : Addr} {items items2 : Array Value} {Q : Value → Shared → Prop} (hu : A.units < cLine) (I : Nat → Shared → Prop)
    (hl : s.heap.IsTuple l items) (hb : s.heap.IsTuple b items2)
    (turn : ∀ i (h1 : i < items.size) (h2 : i < items2.size) s, I i s → wpAny (model prog w) A.in1 (eqBool items[i] items2[i]) (fun r s' => if r = true then I (i + 1) s' else Q (.bool false) s') E s)
    (fin : ∀ s, I (min items.size items2.size) s → Q (.bool (items.size == items2.size)) s) (h : I 0 s) : wpAny (model prog w) A (richCompare .Eq (.ref l) (.ref b)) Q E s := by
  obtain ⟨⟨cls, dd, data, sl⟩, ho, hc, n, hd⟩ := id hl
  obtain ⟨⟨cls2, dd2, data2, sl2⟩, ho2, hc2, n2, hd2⟩ := id hb
  simp only at hc hd hc2 hd2
  subst hc hd hc2 hd2
  refine wpAny_richCompare_same_room (op := .Eq) ⟨_, ho, rfl⟩ ⟨_, ho2, rfl⟩ F.slot_tuple_eq (call_here F.slot_tuple_eq ⟨_, ho, rfl⟩ F.entry_tuple_eq (F.args_tuple_eq_2 _ _) ?_) hu
  refine tuple_eqB (R := wants (fun v s' => v ≠ .notImplemented ∧ Q v s') E) l b items items2 n n2 dd dd2 sl sl2 I (fun i h1 h2 s1 q => wpAny_mono (turn i h1 h2 s1 q) (fun r s2 z => ?_) fun _ _ x => x) (fun s' q => ⟨(fun x => nomatch x), fin s' q⟩) ho ho2 h
  cases r with
  | true => exact z
  | false => exact ⟨(fun x => nomatch x), z⟩
end
end EqB
namespace Tw
open PySem PySem.Spec PyProof.Rows L2 SlX StX Rs Ma Sn
def rEqB {α : Type} [DecidableEq α] (K : PySem.W.Frag) (Ra : α → VP) : R2 := fun x y H Q => ∃ (a b : Addr) (xs ys : List V) (as bs : List α), x = .ref a ∧ y = .ref b ∧ SqT K H a xs ∧ SqT K H b ys ∧ Each (as.map Ra) xs H ∧ Each (bs.map Ra) ys H ∧ ∀ H', Ext H H' → Q (.bl (decide (as = bs))) H'
/-- what tells a value tells it apart from all others -/
def Tells {α : Type} (X : Cx) (Ra : α → VP) : Prop := ∀ (a b : α) (v : V) (pins : List (Addr × Obj)) (σ : L2.St) (H : Hp) (s : Shared), Inv X pins σ H s → Ra a v H → Ra b v H → a = b
theorem each_at {α : Type} {Ra : α → VP} {H : Hp} : ∀ {as : List α} {xs : List V} {i : Nat} {x : V}, Each (as.map Ra) xs H → xs[i]? = some x → ∃ a, as[i]? = some a ∧ Ra a x H
  | [], [], i, x, _, h => by simp at h
  | a :: as, y :: ys, 0, x, hv, h => by
    rw [List.getElem?_cons_zero] at h ⊢
    cases h
    exact ⟨a, rfl, hv.1⟩
  | a :: as, y :: ys, i + 1, x, hv, h => by
    rw [List.getElem?_cons_succ] at h ⊢
    exact each_at hv.2 h
  | [], _ :: _, _, _, hv, _ => hv.elim
  | _ :: _, [], _, _, hv, _ => hv.elim
theorem take_next {α : Type} {as bs : List α} {i : Nat} {a : α} (h : as.take i = bs.take i) (ha : as[i]? = some a) (hb : bs[i]? = some a) : as.take (i + 1) = bs.take (i + 1) := by
  rw [List.take_succ, List.take_succ, h, ha, hb]
theorem take_all {α : Type} [DecidableEq α] {as bs : List α} (h : as.take (min as.length bs.length) = bs.take (min as.length bs.length)) : (as.length == bs.length) = decide (as = bs) := by
  by_cases e : as.length = bs.length
  · rw [← e, Nat.min_self, List.take_length, e, List.take_length] at h
    subst h
    simp
  · have : as ≠ bs := fun z => e (by rw [z])
    rw [decide_eq_false this]
    simpa using e
section
variable {X : Cx} {α : Type} [DecidableEq α] {Ra : α → VP} {C : Addr} {k : Nat}
theorem op_eqB [Rs.Tabz] [∀ a, Mono (Ra a)] {spec : α × α → (Bool → Prop) → Prop} {j : Nat} (c : EqS X.prog X.w X.K X.mg X.base k C (SpN (fun p : α × α => [Ra p.1, Ra p.2]) spec (fD X.K dB))) (hn : PySem.W.notFirst X.K C (.ref C) = true) (h1 : ∀ a v F, Ra a v F → IsOb C v F)
    (hs : ∀ a b (Q : Bool → Prop), Q (decide (a = b)) → spec (a, b) Q) (ht : Tells X Ra) (hz : ∀ P, ¬ Tabz.ts P) (hr : Room j X.A) (hk : k + 1 ≤ j) : OpR X (compareOp .Eq) (rEqB X.K Ra) := by
  intro pins s σ H x y v u Q I rx ry hq
  obtain ⟨a, b, xs, ys, as, bs, rfl, rfl, ha, hb, ea, eb, q⟩ := hq
  cases rx
  cases ry
  obtain ⟨its, r, e, z⟩ := I.tuple ha
  obtain ⟨its2, r2, e2, z2⟩ := I.tuple hb
  have la : its.toArray.size = as.length := by rw [List.size_toArray, ← r.length, each_length ea, List.length_map]
  have lb : its2.toArray.size = bs.length := by rw [List.size_toArray, ← r2.length, each_length eb, List.length_map]
  have hr := hr.mono hk
  show wpAny (model X.prog X.w) X.A (richCompare .Eq (.ref a) (.ref b)) (EP X pins σ Q) X.xe s
  refine EqB.rc_tupB hr.units0 (fun i s' => ∃ H', Inv X pins σ H' s' ∧ Ext H H' ∧ as.take i = bs.take i) e e2 (fun i k1 k2 s' q' => ?_) (fun s' q' => ?_) ⟨H, I, Ext.rfl', rfl⟩
  · obtain ⟨H1, I1, e1, tk⟩ := q'
    have g1 : its[i]? = some its.toArray[i] := by
      have h1' : i < its.length := by simpa using k1
      rw [List.getElem?_eq_getElem h1'] <;> simp
    have g2 : its2[i]? = some its2.toArray[i] := by
      have h2' : i < its2.length := by simpa using k2
      rw [List.getElem?_eq_getElem h2'] <;> simp
    have m1 : i < xs.length := by rw [r.length]; simpa using k1
    have m2 : i < ys.length := by rw [r2.length]; simpa using k2
    obtain ⟨u, hu, ru⟩ := r.get (List.getElem?_eq_getElem m1)
    obtain ⟨v, hv, rv⟩ := r2.get (List.getElem?_eq_getElem m2)
    rw [g1] at hu
    rw [g2] at hv
    rw [Option.some.inj hu, Option.some.inj hv]
    obtain ⟨a1, ha1, ra⟩ := each_at ea (List.getElem?_eq_getElem m1)
    obtain ⟨b1, hb1, rb⟩ := each_at eb (List.getElem?_eq_getElem m2)
    generalize xs[i] = x1 at ru ra
    generalize ys[i] = y1 at rv rb
    have ra : Ra a1 x1 H1 := Mono.mono _ _ _ (fun b u z => e1 b u z) ra
    have rb : Ra b1 y1 H1 := Mono.mono _ _ _ (fun b u z => e1 b u z) rb
    obtain ⟨f, _, _, hq, hf, F⟩ := c.ex
    obtain ⟨p, dx, vs, rfl, q1, q2⟩ := h1 _ _ _ ra
    obtain ⟨p', dy, ws, rfl, q3, q4⟩ := h1 _ _ _ rb
    cases (show u = Value.ref p from ru)
    cases (show v = Value.ref p' from rv)
    by_cases hp : p = p'
    · subst hp
      have ab := ht _ _ _ _ _ _ _ I1 ra rb
      subst ab
      exact SeqAt.EqAt.same (A := X.A.in1) (s := s') (.ref p) X.prog X.w X.xe _ ⟨H1, I1, e1, take_next tk ha1 hb1⟩
    refine GQ.eqBool_refG hp ?_
    have sb : Sub X k X.A.in1 := (Sub.in1 ⟨hr, rfl⟩)
    obtain ⟨sl, od, _, J, _⟩ := slt_inst I1 (.inr ⟨q1, q2⟩)
    obtain ⟨sl', od', _, J', _⟩ := slt_inst I1 (.inr ⟨q3, q4⟩)
    obtain ⟨m, hF⟩ := I1.fr
    refine PySem.W.cmp_K (op := .Eq) (tb := .ref C) sb.room.units0 hF I1.ok.mod.kin J J'.type hn hq hf ?_
    have e0 := I1.env0
    have e0 : Env0 X.prog X.w X.K X.mg X.base X.A.in1 X.stack s' H1 := ⟨by rw [sb.fr]; exact e0.frames, e0.mod, e0.bs, e0.bsz, e0.funs, e0.frf, e0.hok, e0.bare⟩
    have hsp : SpN (fun p : α × α => [Ra p.1, Ra p.2]) spec (fD X.K dB) [.ref p, .ref p'] H1 (fun v H' => v = .bl (decide (a1 = b1)) ∧ Ext H1 H') E0 :=
      ⟨(a1, b1), H1, [], fun b => b = decide (a1 = b1), At.nil (Same.refl H1) (fun P hP => absurd hP (hz P)) (fun P hP => absurd hP (hz P)), ⟨ra, rb, True.intro⟩, hs a1 b1 _ rfl, fun d v F' H' e' A' (pd : d = decide (a1 = b1)) r => by
        subst pd
        exact ⟨dt_bl r, fun b o z => A'.ex _ _ (e' _ _ z)⟩⟩
    refine wpAny_call (codeAny_mono (F X.A.in1 X.stack s' H1 [.ref p, .ref p'] [.ref p, .ref p'] _ E0 sb.room e0 (.cons rfl (.cons rfl .nil)) hsp) fun r s' hq => ?_)
    match r, hq with
    | .error err, hq => exact hq.elim
    | .ok (.ret w), hq =>
      obtain ⟨z, H', I', rz, ez, ex⟩ := I1.after hq
      subst ez
      cases rz
      refine ⟨_, rfl, ?_⟩
      by_cases ab : a1 = b1
      · subst ab
        rw [decide_eq_true rfl, if_pos rfl]
        exact ⟨H', I', e1.trans ex, take_next tk ha1 hb1⟩
      · rw [decide_eq_false ab, if_neg Bool.false_ne_true]
        refine ⟨.bl false, H', I', rfl, ?_⟩
        have : as ≠ bs := fun z => by
          subst z
          rw [ha1] at hb1
          exact ab (Option.some.inj hb1)
        have hq2 := q H' (e1.trans ex)
        rw [decide_eq_false this] at hq2
        exact hq2
  · obtain ⟨H1, I1, e1, tk⟩ := q'
    rw [la, lb] at tk ⊢
    rw [take_all tk]
    exact ⟨.bl _, H1, I1, rfl, q H1 e1⟩
theorem op_eqB0 [∀ a, Mono (Ra a)] {spec : α × α → (Bool → Prop) → Prop} {j : Nat} (c : EqS X.prog X.w X.K X.mg X.base k C (@SpN Tz0 _ _ (fun p : α × α => [Ra p.1, Ra p.2]) spec (fD X.K dB))) (hn : PySem.W.notFirst X.K C (.ref C) = true) (h1 : ∀ a v F, Ra a v F → IsOb C v F)
    (hs : ∀ a b (Q : Bool → Prop), Q (decide (a = b)) → spec (a, b) Q) (ht : Tells X Ra) (hr : Room j X.A) (hk : k + 1 ≤ j) : OpR X (compareOp .Eq) (rEqB X.K Ra) := @op_eqB X α _ Ra C k Tz0 _ spec j c hn h1 hs ht (fun _ h => h) hr hk
end
section
variable {ε α : Type} [DecidableEq α] {K : PySem.W.Frag} {Ra : α → VP}
theorem o_eqOwns [Rs.Tabz] [∀ a, Mono (Ra a)] : Op2 ε (rEqB K Ra) (fTp K Ra) (fTp K Ra) (fun as bs => pur (decide (as = bs))) (fD K dB) :=
  ⟨fun as bs x y F L hx hy Q X q => fun F2 N H e2 A Qk qk => by
    obtain ⟨a, xs, rfl, sa, ha⟩ := hx
    obtain ⟨b, ys, rfl, sb, hb⟩ := hy
    have e := e2.trans A.ex
    exact ⟨a, b, xs, ys, as, bs, rfl, rfl, sqT_up e sa, sqT_up e sb, MonoL.mono _ _ _ e ha, MonoL.mono _ _ _ e hb, fun H' eh => qk _ F2 H' (Same.refl _) (at_ext A eh) ⟨_, q, .bl _⟩⟩⟩
end
/-- a web's object tells its rows -/
theorem dRows_inj {a b : Rows} (h : dRows a = dRows b) : a = b := by
  have h := PyData.tuple.inj h
  refine List.map_inj_right (f := dRow) (fun x y e => ?_) |>.mp h
  have e := PyData.tuple.inj e
  exact List.map_inj_right (f := nI) (fun x y e => by have := PyData.int.inj e; omega) |>.mp e
theorem rows_tell2 {X : Cx} {pins : List (Addr × Obj)} {σ : L2.St} {H : Hp} {s : Shared} (I : Inv X pins σ H s) {a b : Rows} {v v' : V} {u : Value} (h1 : Dt X.K (dRows a) v H) (h2 : Dt X.K (dRows b) v' H) (r1 : RelV v u) (r2 : RelV v' u) : a = b := by
  obtain ⟨as, q1⟩ := Dp.reads I _ _ u h1 r1
  obtain ⟨bs, q2⟩ := Dp.reads I _ _ u h2 r2
  exact dRows_inj (Reads.unique q1 _ _ q2).1
theorem web_tells {X : Cx} {C : Addr} : Tells X (Rs.webP C X.K) := fun a b v pins σ H s I h1 h2 => by
  obtain ⟨_, p, dx, vs, xs, rfl, f1, d1, g1, r1⟩ := h1
  obtain ⟨_, p', dx', vs', xs', e, f2, d2, g2, r2⟩ := h2
  cases e
  obtain ⟨sl, od, q1, J, _⟩ := slt_inst I (.inr ⟨f1, d1⟩)
  obtain ⟨sl', od', q2, J', _⟩ := slt_inst I (.inr ⟨f2, d2⟩)
  have es : sl = sl' := by
    have := J.1.symm.trans J'.1
    exact congrArg Obj.slots (Option.some.inj this)
  subst es
  match xs, xs', r1, r2 with
  | x :: _, y :: _, r1, r2 =>
    obtain ⟨u, hu, ru⟩ := q1 _ _ (g1.2 0 0 x rfl rfl)
    obtain ⟨u', hu', ru'⟩ := q2 _ _ (g2.2 0 0 y rfl rfl)
    rw [hu] at hu'
    cases hu'
    exact rows_tell2 I r1.1 r2.1 ru ru'
end Tw

/-! Th0: tuples whose object is known (so that t.index(x) is found); an optional number that must be there. -/
namespace Rs
open PySem PySem.Spec PyProof.Rows L2 SlX StX
section
variable {X : Cx} {e o : Expr} {es : List Expr} {t : TA} {to : TE} {p pos apos cpos : Pos} {name : Str} {id : String} {r : V → List V → Hp → VK → Prop}
/-- an object that a tuple of no class of one's own has -/
def PlT (o : Obj) : Prop := o.cls = .type "tuple" ∧ o.dict = none
end
end Rs
namespace Tw
open PySem PySem.Spec PyProof.Rows L2 SlX StX Rs Ma
variable [Rs.Tabz]
/-- tuples whose object is known -/
def fZ {α : Type} (R : α → VP) : List α → VP := fun xs v F => ∃ p o vs, v = .ref p ∧ F p = some (.frz o (.tup vs)) ∧ PlT o ∧ Each (xs.map R) vs F
instance {α : Type} {R : α → VP} [∀ a, Mono (R a)] {xs : List α} : Mono (fZ R xs) := ⟨fun _ _ _ e ⟨p, o, vs, h, s, z, r⟩ => ⟨p, o, vs, h, e _ _ s, z, MonoL.mono _ _ _ e r⟩⟩
section
variable {ε α β γ δ : Type} {Z : Wsh ε} {ρ : List (Option VP)} {κ : List Ow} {K : PySem.W.Frag} {te ta tb tc tx : TE} {i : Nat} {R : α → VP} {Rb : β → VP}
end
end Tw

/-! Qh5: zip of two lists. -/
namespace Tw
open PySem PySem.Spec PyProof.Rows L2 SlX StX Rs Ma
variable [Rs.Tabz]
section
variable {ε α β : Type} {Z : Wsh ε} {ρ : List (Option VP)} {κ : List Ow} {K : PySem.W.Frag} {ta tb : TE} {R : α → VP} {Rb : β → VP}
end
end Tw

/-! Tr2: words with K told; isinstance(x, str) of a string or a tuple. -/
namespace Tw
open PySem PySem.Spec PyProof.Rows L2 SlX StX Rs Ma Sn
section
variable {X : Cx}
end
variable [Rs.Tabz]
section
variable {ε α : Type} {K : PySem.W.Frag} {d : α → PyData}
end
section
variable {ε α β γ δ S : Type} {Z : Wsh ε} {ρ : List (Option VP)} {κ : List Ow} {K : PySem.W.Frag} {ta tb tc : TE} {u : TS} {ma : Wm ε α} {mb : Wm ε β} {mc : Wm ε γ} {Ra : α → VP} {Rb : β → VP} {Rc : γ → VP} {Rd : δ → VP} {ρ2 : S → List (Option VP)} {κ2 : S → List Ow}
end
end Tw

/-! Tu0: a list comprehension whose element is told with the def's own state in hand. -/
namespace LmC
open PySem PySem.Spec PyProof.Rows L2 LamX
section
variable {X : Cx}
end
end LmC

/-! Tu1: lambdas as values: made, kept in a list, called one by one in a comprehension. -/
namespace LmC
open PySem PySem.Spec PyProof.Rows L2 LamX
/-- a lambda's object -/
def LamO (f : Addr) (q : Str) (params : Arguments) (body : Expr) (scope : Scope) (cl : List (Str × Addr)) (c' : Addr) : HO := .ext fun h => ∃ pm ctv : Value, h.get? f = some (PySem.W.kla_obj "<lambda>" q params body scope cl pm c' ctv)
section
variable {X : Cx} {pins : List (Addr × Obj)} {σ : L2.St} {H : Hp} {s : Shared}
/-- what is known of a lambda's body: its reading -/
structure LamRec where
  params : Arguments
  body : Expr
  scope : Scope
def BdOk (X : Cx) (k : Nat) (r : LamRec) (t : XK → TE) : Prop := LamS X.env.scope r.scope ∧ (∀ (q : Str) (cl : List (Str × Addr)) (pm cv ctv : Value), bindArgs (PySem.W.kla_fn "<lambda>" q r.params r.body r.scope cl pm cv ctv) ⟨[], []⟩ = pure []) ∧
  ∀ (A : Around) (outer : List Env) (s : Shared) (H : Hp) (E : XK) (f c' : Addr), Room k (A.deeper (lamEnv X r.scope s.heap.objs.size f c')) → PE (lamCx X A outer s H E r.scope f c') r.body (t E)
end
end LmC

/-! Tu2: lambdas as values, in plain terms. -/
namespace Tw
open PySem PySem.Spec PyProof.Rows L2 SlX StX Rs Ma Sn Wb LmR LmC LamX
variable [Rs.Tabz]
/-- a lambda made in the run of the def whose cells are these -/
def fLam (q : Str) (cl : List (Str × Addr)) : LamRec → VP := fun r v F => ∃ f c', v = .ref f ∧ F f = some (LamO f q r.params r.body r.scope (cloFrom cl r.scope.names []) c') ∧ F c' = some (CodeO c' q)
instance {q : Str} {cl : List (Str × Addr)} {r : LamRec} : Mono (fLam q cl r) := ⟨fun _ _ _ e ⟨f, c', h, h1, h2⟩ => ⟨f, c', h, e _ _ h1, e _ _ h2⟩⟩
section
variable {ε β : Type} {Z : Wsh ε} {ρ : List (Option VP)} {κ : List Ow} {Y : Wx} {n : Nat} {P : Addr} {q ret : Str} {cl : List (Str × Addr)} {ms : List MetC}
end
end Tw

/-! Tu3: lambdas of a def, known by their number. -/
namespace Tw
open PySem PySem.Spec PyProof.Rows L2 SlX StX Rs Ma Sn Wb LmR LmC LamX
variable [Rs.Tabz]
def fLamN (q : Str) (cl : List (Str × Addr)) (rs : List LamRec) : Nat → VP := fun j v F => ∃ r, rs[j]? = some r ∧ fLam q cl r v F
instance {q : Str} {cl : List (Str × Addr)} {rs : List LamRec} {j : Nat} : Mono (fLamN q cl rs j) := ⟨fun _ _ _ e ⟨r, h, x⟩ => ⟨r, h, Mono.mono (R := fLam q cl r) _ _ _ e x⟩⟩
abbrev WStr := (Str → Prop) → Prop
/-- each lambda's body is told -/
inductive LmsOk (X : Cx) (k n : Nat) (Y : Wx) (ms : List MetC) (ret : Str) (ρ : List (Option VP)) : List LamRec → List WStr → Prop
  | nil : LmsOk X k n Y ms ret ρ [] []
  | cons {r : LamRec} {rs : List LamRec} {ws : List WStr} {β : Type} {Rb : β → VP} {mb : Wm Ex β} {t : XK → TE} : BdOk X k r t → (∀ E : XK, TrE (Zy Y (fun cls d _ H => E cls d H) n) ρ [] (t E) mb Rb) → LmsOk X k n Y ms ret ρ rs ws → LmsOk X k n Y ms ret ρ (r :: rs) (lamW Y ms ret mb :: ws)
section
variable {ε : Type} {Z : Wsh ε} {ρ : List (Option VP)} {κ : List Ow} {Y : Wx} {k n : Nat} {P : Addr} {q ret : Str} {cl : List (Str × Addr)} {ms : List MetC} {X : Cx}
theorem LmsOk.get {r : LamRec} {w : WStr} : ∀ {rs : List LamRec} {ws : List WStr} {j : Nat}, LmsOk X k n Y ms ret ρ rs ws → rs[j]? = some r → ws[j]? = some w → ∃ (β : Type) (Rb : β → VP) (mb : Wm Ex β) (t : XK → TE), BdOk X k r t ∧ (∀ E : XK, TrE (Zy Y (fun cls d _ H => E cls d H) n) ρ [] (t E) mb Rb) ∧ w = lamW Y ms ret mb
  | _, _, 0, .cons b h _, hr, hw => by
    cases hr
    cases hw
    exact ⟨_, _, _, _, b, h, rfl⟩
  | _, _, j + 1, .cons _ _ l, hr, hw => LmsOk.get (j := j) l hr hw
end
section
variable {X : Cx} {k : Nat}
end
end Tw

/-! Tu4: a tuple of alike data, as a tuple of any data. -/
namespace Tw
open PySem PySem.Spec PyProof.Rows L2 SlX StX Rs Ma Sn Wb
variable [Rs.Tabz]
section
variable {ε α : Type} {Z : Wsh ε} {ρ : List (Option VP)} {κ : List Ow} {K : PySem.W.Frag} {te : TE} {d : α → PyData} {m : Wm ε (List α)}
theorem tr_tAny (h : TrE Z ρ κ te m (fD K (dT d))) : TrE Z ρ κ te (fun Q X => m (fun xs => Q (xs.map d)) X) (fD K (dT dA)) := h.conv (fun xs => xs.map d) fun xs v F hv => by
  have e : dT dA (xs.map d) = dT d xs := by
    show PyData.tuple ((xs.map d).map dA) = PyData.tuple (xs.map d)
    rw [List.map_map]
    rfl
  show Dt K (dT dA (xs.map d)) v F
  rw [e]
  exact hv
end
end Tw

/-! Tu5: x[:-1] of a tuple. -/
namespace Tw
open PySem PySem.Spec PyProof.Rows L2 SlX StX Rs Ma Sn Wb
variable [Rs.Tabz]
section
variable {ε α : Type} {Z : Wsh ε} {ρ : List (Option VP)} {κ : List Ow} {K : PySem.W.Frag} {te tx : TE} {R : α → V → Hp → Prop} {ml : Wm ε (List α)} {mx : Wm ε Int}
end
end Tw

/-! Tv0: errors held as values: C(e), isinstance(x, c), x.f. -/
namespace L2
open PySem PySem.Spec PyProof.Rows
/-- an error of the class D at a, made and not raised -/
def exAt (H : Hp) (a D : Addr) : Prop := H a = some (ExO (.ref D) a) ∨ ∃ dd fs, H a = some (exo a D (some dd)) ∧ H dd = some (.xd fs)
end L2

/-! Tv1: errors held as values, in plain terms. -/
namespace Tw
open PySem PySem.Spec PyProof.Rows L2 SlX StX Rs Ma Sn Wb
variable [Rs.Tabz]
/-- an error: its class, and where its own __init__ keeps something, what -/
structure Exv where
  cls : Addr
  arg : Option (Str × PyData)
def exvAt (K : PySem.W.Frag) (e : Exv) (a : Addr) (F : Hp) : Prop := match e.arg with
  | none => F a = some (ExO (.ref e.cls) a)
  | some (f, d) => ∃ dd y, F a = some (exo a e.cls (some dd)) ∧ F dd = some (.xd [(f, y)]) ∧ Dt K d y F
def fX (K : PySem.W.Frag) (e : Exv) : VP := fun v F => ∃ a, v = .ref a ∧ exvAt K e a F
instance {K : PySem.W.Frag} {e : Exv} : Mono (fX K e) := ⟨fun v F F' s h => by
  obtain ⟨a, rfl, h⟩ := h
  obtain ⟨c, arg⟩ := e
  cases arg with
  | none => exact ⟨a, rfl, s _ _ h⟩
  | some p =>
    obtain ⟨f, d⟩ := p
    obtain ⟨dd, y, h1, h2, h3⟩ := h
    exact ⟨a, rfl, dd, y, s _ _ h1, s _ _ h2, dp_up s h3⟩⟩
theorem exvAt.at {K : PySem.W.Frag} {e : Exv} {a : Addr} {F H : Hp} (h : exvAt K e a F) (s : Same F H) : exAt H a e.cls := by
  obtain ⟨c, arg⟩ := e
  cases arg with
  | none => exact .inl (s _ _ h)
  | some p =>
    obtain ⟨f, d⟩ := p
    obtain ⟨dd, y, h1, h2, h3⟩ := h
    exact .inr ⟨dd, _, s _ _ h1, s _ _ h2⟩
section
variable {X : Cx} {x f : Str} {C : Addr} {k : Nat} {e : Expr} {es : List Expr} {te : TE} {ta : TA} {p pos : Pos}
end
section
variable {ε α : Type} {Z : Wsh ε} {ρ : List (Option VP)} {κ : List Ow} {K : PySem.W.Frag} {te : TE} {ta : TA} {R : α → VP} {m : Wm ε α}
end
section
variable {ε : Type} {Z : Wsh ε} {ρ : List (Option VP)} {κ : List Ow} {K : PySem.W.Frag} {te : TE}
end
/-! what the classes say -/
end Tw

/-! Tv2: f() where no repr is under way. -/
namespace Tw
open PySem PySem.Spec PyProof.Rows L2 SlX StX Rs Ma Sn Wb
variable [Rs.Tabz]
section
variable {X : Cx} {f : Str} {p pos : Pos}
end
end Tw

/-! Tv3: what an own error over KeyError asks of KeyError. -/
namespace Tw
open PySem PySem.Spec PyProof.Rows L2 PySem.W
end Tw

/-! Tv4: making an own error over KeyError: LookupError.__new__ makes it, KeyError.__init__ stands behind super(). -/
namespace PySem
namespace SuI
open PySem.W PySem.Calls PyProof.Rows PySem.Spec PySem.HandSPX Tw
section
variable {M : Model} {prog : Program} {w : World} {A : Around} {E : Value → Shared → Prop} {R : Result → Shared → Prop} {h : Heap} {g : Array GenState} {d : Drawn} {t : Nat} {os : OsState} {nm q : Str} {C N : Addr} {bs bm : List Value} {hdct : Bool} {sn : List Str} {sub : List Value} {ab : Bool} {col : Option Bool} {dd : Option Addr} {k0 k1 k2 k3 k5 : Option Value}
/-- what the class's bases say -/
structure TailKE (bm : List Value) : Prop where
  l : bm.contains (.type "LookupError") = true
  a : bm.contains (.type "AttributeError") = false
  n : bm.contains (.type "NameError") = false
theorem TailKE.cons {x : Value} {C : Addr} {b : Bool} (h : bm.contains x = b) (hx : (x == Value.ref C) = false) : (Value.ref C :: bm).contains x = b := by
  rw [List.contains_cons, h, hx, Bool.false_or]
end
end SuI
end PySem

/-! Tv5: an own error over KeyError, with `super().__init__('..'); self.f = f`, held as a value. -/
namespace PySem
namespace SuI
open PySem.W PySem.Calls PyProof.Rows PySem.Spec Tw
section
variable {prog : Program} {w : World} {A : Around} {E : Value → Shared → Prop} {h : Heap} {g : Array GenState} {d : Drawn} {t : Nat} {os : OsState} {K : Frag}
end
section
variable {prog : Program} {w : World} {A : Around} {R : Result → Shared → Prop} {s : Shared} {K : Frag} {mg mb : Str → Option Value}
end
end SuI
end PySem
namespace L2
open PySem PySem.Spec PyProof.Rows
end L2
namespace Tw
open PySem PySem.Spec PyProof.Rows L2 SlX StX Rs Ma Sn Wb
section
variable {X : Cx} {x f : Str} {C : Addr} {k : Nat} {e : Expr} {ta : TA} {p pos : Pos}
end
end Tw

/-! Tv6: isinstance of a value of any kind in laws without pools. -/
namespace Tw
open PySem PySem.Spec PyProof.Rows L2 SlX StX Rs Ma Sn Wb
variable [Rs.Tabz]
section
variable {ε : Type} {X : Wx}
end
end Tw

/-! Pd0: d.get(k, e) of a dict by nested keys. -/
namespace Sn
open PySem PySem.Spec PyProof.Rows L2 PySem.W
variable [Rs.Tabz]
end Sn

/-! Pd1: dicts by keys that are tuples of any nested data. -/
namespace Tw
open PySem PySem.Spec PyProof.Rows L2 SlX StX Rs Ma Sn
variable [Rs.Tabz]
/-- data that are tuples -/
class TupD {α : Type} (d : α → PyData) : Prop where
  tp : ∀ a, ∃ ds, d a = .tuple ds
instance {α : Type} {d : α → PyData} : TupD (dT d) := ⟨fun a => ⟨_, rfl⟩⟩
instance {α β : Type} {d : α → PyData} {e : β → PyData} : TupD (dP d e) := ⟨fun a => ⟨_, rfl⟩⟩
instance keydO : Keyd dO 0 := ⟨fun o => match o with | none => .none | some n => .num (n : Nat), fun o => by cases o <;> rfl, fun o => by cases o <;> rfl, fun o => by cases o <;> exact Nat.le_refl _, fun a b e => by
  cases a <;> cases b
  · rfl
  · cases e
  · cases e
  · injection e with e
    congr 1
    omega⟩
instance keydP {α β : Type} {d : α → PyData} {e : β → PyData} {n m : Nat} [c : Keyd d n] [c2 : Keyd e m] : Keyd (dP d e) (n + m + 1) := ⟨fun p => .tup [c.key p.1, c2.key p.2], fun p => by
  simp only [NestedKey.data, NestedKey.datas, c.ok, c2.ok]
  rfl, fun p => by simp only [calm, calmAll, c.quiet, c2.quiet]; rfl, fun p => by
  have h1 := c.dep p.1
  have h2 := c2.dep p.2
  simp only [NestedKey.depth, NestedKey.depthAll]
  omega, fun a b h => by
  obtain ⟨a1, a2⟩ := a
  obtain ⟨b1, b2⟩ := b
  injection h with h
  injection h with h1 h2
  injection h2 with h2 _
  rw [c.inj a1 b1 h1, c2.inj a2 b2 h2]⟩
section
variable {ε α β : Type} [DecidableEq α] {Z : Wsh ε} {ρ : List (Option VP)} {κ : List Ow} {K : PySem.W.Frag} {P : Program} {w : World} {d : α → PyData} {n : Nat} [c : Keyd d n] [t : TupD d] {Rb : β → VP} {td te : TE} {ta : TA}
end
end Tw

/-! Pd2: len of a dict by nested keys. -/
namespace Sn
open PySem PySem.Spec PyProof.Rows L2 PySem.W Rs
variable [Rs.Tabz]
end Sn
namespace Tw
open PySem PySem.Spec PyProof.Rows L2 SlX StX Rs Ma Sn
variable [Rs.Tabz]
end Tw

/-! Pd3: a dict by nested keys of one's own: {}, d[k] = v. -/
namespace Sn
open PySem PySem.Spec PyProof.Rows L2 PySem.W
variable [Rs.Tabz]
section
variable {X : Cx} {pins : List (Addr × Obj)} {σ : L2.St} {H : Hp} {s : Shared} {E : Value → Shared → Prop} {D a : Addr} {zs : List Ent} {k : NestedKey} {v : V} {u : Value}
end
end Sn

/-! Pd4: a dict by nested keys of one's own, in plain terms. -/
namespace Tw
open PySem PySem.Spec PyProof.Rows L2 SlX StX Rs Ma Sn
variable [Rs.Tabz]
/-- a dict of one's own by keys that are tuples -/
def ownDP (K : PySem.W.Frag) (P : Program) (w : World) {α β : Type} [DecidableEq α] (d : α → PyData) {n : Nat} [c : Keyd d n] (R : β → VP) (kvs : List (α × β)) : Addr → HO → Hp → Prop := fun D o F => ∃ zs, o = dictN P w zs D ∧ EntAll K d R zs kvs F ∧ (kvs.map (·.1)).Nodup
instance {K : PySem.W.Frag} {P : Program} {w : World} {α β : Type} [DecidableEq α] {d : α → PyData} {n : Nat} [Keyd d n] {R : β → VP} [∀ b, Mono (R b)] : Bor (fun kvs : List (α × β) => ownDP K P w d R kvs) (fDK K P w d R) := ⟨inferInstance, fun g a o F h q => by
  obtain ⟨zs, rfl, r, n⟩ := q F (Same.refl _)
  exact ⟨a, zs, rfl, .inl upd_same, entAll_up (same_new h) r, n⟩⟩
section
variable {ε α β δ S : Type} [DecidableEq α] {Z : Wsh ε} {ρ : List (Option VP)} {κ : List Ow} {K : PySem.W.Frag} {P : Program} {w : World} {d : α → PyData} {n : Nat} [c : Keyd d n] [t : TupD d] {R : β → VP} {Rd : δ → VP} {td ty tv : TE} {u : TS} {i : Nat} {kvs : List (α × β)} {ρ2 : S → List (Option VP)} {κ2 : S → List Ow} {mk : Wm ε α} {mv : Wm ε β}
theorem dictN_notTup {zs : List Ent} {D : Addr} : ∀ xs, dictN P w zs D ≠ .tup xs := fun _ z => nomatch z
theorem dictN_notTbl {zs : List Ent} {D : Addr} : ∀ ps, dictN P w zs D ≠ .tbl ps := fun _ z => nomatch z
end
end Tw

/-! Pe0: dicts by nested keys that are locked for good: walked by keys and by pairs. -/
namespace Sn
open PySem PySem.Spec PyProof.Rows L2 PySem.W
variable [Rs.Tabz]
section
variable {X : Cx} {pins : List (Addr × Obj)} {σ : L2.St} {H : Hp} {s : Shared} {d : Addr} {o : Obj} {zs : List Ent}
end
section
variable {P : Program} {w : World} {K : PySem.W.Frag} {tg : Expr} {d : Addr} {o : Obj} {es : Array DictEntry} {ep : Nat} {zs : List Ent}
end
section
variable {X : Cx} {tg e : Expr} {td : TE} {apos cpos : Pos}
end
end Sn

/-! Pe1: dicts that are locked for good, in plain terms; walks over them; d.get; comprehensions of one's own. -/
namespace Tw
open PySem PySem.Spec PyProof.Rows L2 SlX StX Rs Ma Sn
variable [Rs.Tabz]
/-- a dict by nested keys, locked for good -/
def fDKZ (K : PySem.W.Frag) (P : Program) (w : World) {α β : Type} [DecidableEq α] (d : α → PyData) {n : Nat} [c : Keyd d n] (R : β → VP) : List (α × β) → VP := fun kvs v F => ∃ D o zs, v = .ref D ∧ F D = some (.frz o (dictN P w zs D)) ∧ EntAll K d R zs kvs F ∧ (kvs.map (·.1)).Nodup
instance {K : PySem.W.Frag} {P : Program} {w : World} {α β : Type} [DecidableEq α] {d : α → PyData} {n : Nat} [Keyd d n] {R : β → VP} [∀ b, Mono (R b)] {kvs : List (α × β)} : Mono (fDKZ K P w d R kvs) := ⟨fun _ _ _ e ⟨D, o, zs, h, h1, r, n⟩ => ⟨D, o, zs, h, e _ _ h1, entAll_up e r, n⟩⟩
/-- a thing of one's own that can be locked for good -/
class LkZ {γ : Type} (ow : γ → Addr → HO → Hp → Prop) (fam : outParam (γ → VP)) : Prop where
  mono : ∀ g, Mono (fam g)
  mt : ∀ g a o F, ow g a o F → Mut (some o)
  lk : ∀ g a o F od, F a = none → (∀ F', Same F F' → ow g a o F') → fam g (.ref a) (upd F a (.frz od o))
instance {K : PySem.W.Frag} {P : Program} {w : World} {α β : Type} [DecidableEq α] {d : α → PyData} {n : Nat} [Keyd d n] {R : β → VP} [∀ b, Mono (R b)] : LkZ (fun kvs : List (α × β) => ownDP K P w d R kvs) (fDKZ K P w d R) := ⟨inferInstance, fun g a o F ⟨zs, h, _⟩ => by subst h; exact True.intro, fun g a o F od h q => by
  obtain ⟨zs, rfl, r, n⟩ := q F (Same.refl _)
  exact ⟨a, od, zs, rfl, upd_same, entAll_up (same_new h) r, n⟩⟩
instance {α β : Type} [DecidableEq α] {d : α → PyData} [NumK d] {R : β → VP} [∀ b, Mono (R b)] : LkZ (fun kvs : List (α × β) => ownDI d R kvs) (fDZ d R) := ⟨inferInstance, fun g a o F ⟨zs, h, _⟩ => by subst h; exact True.intro, fun g a o F od h q => by
  obtain ⟨zs, rfl, r, n⟩ := q F (Same.refl _)
  exact ⟨a, od, zs, rfl, upd_same, relD_up (same_new h) r, n⟩⟩
section
variable {ε γ δ S : Type} {Z : Wsh ε} {ρ : List (Option VP)} {κ : List Ow} {te : TE} {t u : TS} {i : Nat} {ow : γ → Addr → HO → Hp → Prop} {fam : γ → VP} {g : γ} {ρ2 : S → List (Option VP)} {κ2 : S → List Ow} {Rd : δ → VP} {m : Wm ε γ} {mm : Ws ε S δ}
end
section
variable {ε α β : Type} [DecidableEq α] {Z : Wsh ε} {ρ : List (Option VP)} {κ : List Ow} {K : PySem.W.Frag} {P : Program} {w : World} {d : α → PyData} {n : Nat} [c : Keyd d n] [t : TupD d] {R : β → VP} {te : TE} {md : Wm ε (List (α × β))}
end
section
variable {ε α β : Type} [DecidableEq α] {Z : Wsh ε} {ρ : List (Option VP)} {κ : List Ow} {K : PySem.W.Frag} {d : α → PyData} [c : NumK d] {R : β → VP} {te td ty tx : TE} {md : Wm ε (List (α × β))} {mk : Wm ε α} {mx : Wm ε β}
end
/-! ### comprehensions that are one's own -/
section
variable {ε α β γ δ : Type} {Z : Wsh ε} {ρ : List (Option VP)} {κ : List Ow} {K : PySem.W.Frag} {P : Program} {w : World} {tk tv : TE} {tt : TT} {wi : TI} {g : TG} {n : Nat} {d : α → PyData} [DecidableEq α] {Rb : β → VP}
end
end Tw

/-! Pe2: sorted(xs, key=f), f a def of the module. -/
namespace Sn
open PySem PySem.Spec PyProof.Rows L2 PySem.W
variable [Rs.Tabz]
section
variable {X : Cx} {k : Nat} {f : Addr} {fd : FuncData} {ps : List Str} {sp : Sp} {CX : CXT} {E : XK}
end
end Sn

/-! Pe3: sorted by a key, in plain terms. -/
namespace Tw
open PySem PySem.Spec PyProof.Rows L2 SlX StX Rs Ma Sn
variable [Rs.Tabz]
/-- places of moves, in their order -/
abbrev Plc := Nat × List Nat
section
variable {ε β : Type} {Z : Wsh ε} {ρ : List (Option VP)} {κ : List Ow} {K : PySem.W.Frag} {te : TE} {dv : β → PyData} {ml : Wm ε (List (Plc × β))}
end
end Tw

/-! Pe4: isinstance(x, dict); lists of unlike things; sorted by a key and d.get as rules over defs. -/
namespace Sn
open PySem PySem.Spec PyProof.Rows L2 PySem.W Rs
variable [Rs.Tabz]
section
variable {X : Cx}
end
end Sn
namespace Tw
open PySem PySem.Spec PyProof.Rows L2 SlX StX Rs Ma Sn
variable [Rs.Tabz]
section
variable {ε α β γ : Type} {Z : Wsh ε} {ρ : List (Option VP)} {κ : List Ow} {K : PySem.W.Frag} {P : Program} {w : World} {te : TE} {t : TA} {Rb : β → VP} {R : α → VP}
end
end Tw

/-! Pf0: what a program is. -/
namespace Wb
open PySem PySem.Spec PyProof.Rows L2 SlX StX Rs Ma Sn Tw
variable [Rs.Tabz]
abbrev Hrd := List (Option Nat)
abbrev Mvk := Nat × Hrd
structure Prg where
  size : Nat
  states : Nat
  starts : Rows
  moves : List (Mvk × Nat)
  decs : List (Nat × Nat)
def StartsOk (size states : Nat) (ss : Rows) : Prop := ss.length = size ∧ ∀ p ∈ ss, p.length = 2 ∧ ∀ x ∈ p, x < states
def HearOk (size states s : Nat) (h : Hrd) : Prop := h.length = size ∧ (∀ x, some x ∈ h → x < states) ∧ some s ∈ h
def DecsOk (states : Nat) (ds : List (Nat × Nat)) : Prop := (ds.map (·.1)).Nodup ∧ ds.length < 64 ∧ ∀ p ∈ ds, p.1 < states ∧ p.2 ≤ 1
def letB (ds : List (Nat × Nat)) (s t : Nat) : Bool := !(getA ds s).isSome || decide (getA ds t = getA ds s)
def MovesOk (size states : Nat) (ds : List (Nat × Nat)) (mv : List (Mvk × Nat)) : Prop := (mv.map (·.1)).Nodup ∧ mv.length ≤ 1000 ∧ ∀ x ∈ mv, x.1.1 < states ∧ HearOk size states x.1.1 x.1.2 ∧ x.2 < states ∧ letB ds x.1.1 x.2 = true
structure RawOk (g : Nat × Nat × Rows × List (Mvk × Nat) × List (Nat × Nat)) : Prop where
  sz : 1 ≤ g.1 ∧ g.1 ≤ 5
  st : 1 ≤ g.2.1 ∧ g.2.1 ≤ 400
  starts : StartsOk g.1 g.2.1 g.2.2.1
  moves : MovesOk g.1 g.2.1 g.2.2.2.2 g.2.2.2.1
  decs : DecsOk g.2.1 g.2.2.2.2
/-- what is always so of a program -/
def PrOk (p : Prg) : Prop := RawOk (p.size, p.states, p.starts, p.moves, p.decs)
theorem getA_of {α β : Type} [DecidableEq α] : ∀ {ps : List (α × β)} {p : α × β}, (ps.map (·.1)).Nodup → p ∈ ps → getA ps p.1 = some p.2
  | q :: ps, p, hn, h => by
    rw [List.map_cons, List.nodup_cons] at hn
    unfold getA
    rcases List.mem_cons.mp h with rfl | h
    · rw [if_pos rfl]
    · have hne : ¬ q.1 = p.1 := fun e => hn.1 (by rw [e]; exact List.mem_map_of_mem h)
      rw [if_neg hne]
      exact getA_of hn.2 h
  | [], _, _, h => by cases h
noncomputable def progVs (K : PySem.W.Frag) (P : Program) (w : World) (p : Prg) : List VP := [fD K dN p.size, fD K dN p.states, fD K (dT (dT dN)) p.starts, fDKZ K P w (dP dN (dT dO)) (fD K dN) p.moves, fDZ dN (fD K dN) p.decs]
instance {K : PySem.W.Frag} {P : Program} {w : World} {p : Prg} : MonoL (progVs K P w p) := by unfold progVs; infer_instance
noncomputable def progP (C : Addr) (K : PySem.W.Frag) (P : Program) (w : World) (p : Prg) : VP := fun v F => PrOk p ∧ Ob C [2, 4, 3, 1, 0] (progVs K P w p) v F
instance {C : Addr} {K : PySem.W.Frag} {P : Program} {w : World} {p : Prg} : Mono (progP C K P w p) := ⟨fun _ _ _ e h => ⟨h.1, Mono.go h.2 e⟩⟩
section
variable {P : Program} {w : World} {K : PySem.W.Frag} {C_Program : Addr}
end
end Wb

/-! Pg0: objects that change: their cells. -/
namespace Tw
open PySem PySem.Spec PyProof.Rows L2 SlX StX Rs Ma Sn
variable [Rs.Tabz]
/-! ### cells laid into what stays, and taken out again -/
def OkC (o : HO) : Prop := (∀ xs, o ≠ .tup xs) ∧ (∀ ps, o ≠ .tbl ps) ∧ (∀ c q, o ≠ CodeT c q) ∧ ∀ o' u, o ≠ .frz o' u
section
variable {F F1 F2 H : Hp} {M N L : Cells} {a : Addr} {o : HO}
end
/-! ### fields -/
inductive FD where
  | v (R : VP)
  | l (Rs : List VP)
abbrev Fds := List (Str × FD)
def HoldD : FD → V → Cells → Hp → Prop
  | .v R, x, M, F => M = [] ∧ R x F ∧ Mono R
  | .l Rs, x, M, F => ∃ p xs, x = .ref p ∧ M = [(p, .lst xs)] ∧ Each Rs xs F ∧ MonoL Rs
def HoldF : Fds → List (Str × V) → Cells → Hp → Prop
  | [], [], M, _ => M = []
  | d :: ds, f :: fs, M, F => d.1 = f.1 ∧ ∃ M1 M2, M = M1 ++ M2 ∧ HoldD d.2 f.2 M1 F ∧ HoldF ds fs M2 F
  | _, _, _, _ => False
section
variable {F F1 F2 H : Hp} {M N L : Cells} {ds : Fds} {fs : List (Str × V)} {f : Str} {d d' : FD} {x y : V}
theorem holdD_up (e : Same F F1) (h : HoldD d x M F) : HoldD d x M F1 := by
  cases d with
  | v R => obtain ⟨h1, h2, h3⟩ := h; exact ⟨h1, h3.mono _ _ _ e h2, h3⟩
  | l Rs => obtain ⟨p, xs, h1, h2, h3, h4⟩ := h; exact ⟨p, xs, h1, h2, h4.mono _ _ _ e h3, h4⟩
theorem holdF_up (e : Same F F1) : ∀ {ds : Fds} {fs : List (Str × V)} {M : Cells}, HoldF ds fs M F → HoldF ds fs M F1
  | [], [], _, h => h
  | d :: ds, f :: fs, _, ⟨h1, M1, M2, h2, h3, h4⟩ => ⟨h1, M1, M2, h2, holdD_up e h3, holdF_up e h4⟩
  | [], _ :: _, _, h => h.elim
  | _ :: _, [], _, h => h.elim
theorem holdF_names : ∀ {ds : Fds} {fs : List (Str × V)} {M : Cells}, HoldF ds fs M F → fs.map (·.1) = ds.map (·.1)
  | [], [], _, _ => rfl
  | d :: ds, f :: fs, _, ⟨h1, M1, M2, h2, h3, h4⟩ => by rw [List.map_cons, List.map_cons, holdF_names h4, h1]
  | [], _ :: _, _, h => h.elim
  | _ :: _, [], _, h => h.elim
/-- one field by itself -/
theorem holdF_zoom : ∀ {ds : Fds} {fs : List (Str × V)} {M : Cells} {k : Nat}, ds[k]? = some (f, d) → HoldF ds fs M F → ∃ x M1 M2, fs[k]? = some (f, x) ∧ M.Perm (M1 ++ M2) ∧ HoldD d x M1 F ∧
    ∀ d' y Mn F', Same F F' → HoldD d' y Mn F' → ∃ M', M'.Perm (Mn ++ M2) ∧ HoldF (ds.set k (f, d')) (fs.set k (f, y)) M' F'
  | [], [], _, k, e, _ => by simp at e
  | dd :: ds, ff :: fs, _, 0, e, ⟨h1, M1, M2, h2, h3, h4⟩ => by
    cases (Option.some.inj e : dd = _)
    obtain ⟨fn, x⟩ := ff
    cases (h1 : f = fn)
    exact ⟨x, M1, M2, rfl, by rw [h2], h3, fun d' y Mn F' e' hy => ⟨Mn ++ M2, List.Perm.refl _, rfl, Mn, M2, rfl, hy, holdF_up e' h4⟩⟩
  | dd :: ds, ff :: fs, _, k + 1, e, ⟨h1, M1, M2, h2, h3, h4⟩ => by
    obtain ⟨x, N1, N2, g1, g2, g3, g4⟩ := holdF_zoom (k := k) (by simpa using e) h4
    refine ⟨x, N1, M1 ++ N2, by simpa using g1, ?_, g3, fun d' y Mn F' e' hy => ?_⟩
    · rw [h2]
      exact (g2.append_left M1).trans (by rw [← List.append_assoc, ← List.append_assoc]; exact List.perm_append_comm.append_right _)
    · obtain ⟨M', p1, p2⟩ := g4 d' y Mn F' e' hy
      refine ⟨M1 ++ M', ?_, h1, M1, M', rfl, holdD_up e' h3, p2⟩
      exact (p1.append_left M1).trans (by rw [← List.append_assoc, ← List.append_assoc]; exact List.perm_append_comm.append_right _)
  | [], _ :: _, _, _, _, h => h.elim
  | _ :: _, [], _, _, _, h => h.elim
theorem holdF_app : ∀ {ds : Fds} {fs : List (Str × V)} {M : Cells}, HoldF ds fs M F → HoldD d y N F → HoldF (ds ++ [(f, d)]) (fs ++ [(f, y)]) (M ++ N) F
  | [], [], _, h, hd => by
    rw [show _ = [] from h]
    exact ⟨rfl, N, [], (List.append_nil N).symm, hd, rfl⟩
  | dd :: ds, ff :: fs, _, ⟨h1, M1, M2, h2, h3, h4⟩, hd => by
    refine ⟨h1, M1, M2 ++ N, ?_, h3, holdF_app h4 hd⟩
    rw [h2, List.append_assoc]
  | [], _ :: _, _, h, _ => h.elim
  | _ :: _, [], _, h, _ => h.elim
theorem putF_at : ∀ {fs : List (Str × V)} {k : Nat}, fs[k]? = some (f, x) → (fs.map (·.1)).Nodup → putF f y fs = fs.set k (f, y)
  | [], k, e, _ => by simp at e
  | p :: fs, 0, e, n => by
    cases (Option.some.inj e : p = _)
    show (if f = f then _ else _) = _
    rw [if_pos rfl]; rfl
  | (g, z) :: fs, k + 1, e, n => by
    rw [List.map_cons, List.nodup_cons] at n
    have e' : fs[k]? = some (f, x) := by simpa using e
    have hne : g ≠ f := fun h => n.1 (List.mem_map.mpr ⟨(f, x), List.mem_iff_getElem?.mpr ⟨k, e'⟩, h.symm⟩)
    show (if g = f then _ else _) = _
    rw [if_neg hne, putF_at e' n.2]; rfl
theorem putF_no : ∀ {fs : List (Str × V)}, f ∉ fs.map (·.1) → putF f y fs = fs ++ [(f, y)]
  | [], _ => rfl
  | (g, z) :: fs, h => by
    rw [List.map_cons, List.mem_cons, not_or] at h
    show (if g = f then _ else _) = _
    rw [if_neg fun e => h.1 e.symm, putF_no h.2]; rfl
/-- a field is given a value, or made -/
inductive UpdD (f : Str) (d' : FD) (ds : Fds) : Fds → Prop
  | at_ (k : Nat) (d : FD) : ds[k]? = some (f, d) → UpdD f d' ds (ds.set k (f, d'))
  | new : f ∉ ds.map (·.1) → UpdD f d' ds (ds ++ [(f, d')])
theorem UpdD.put {ds' : Fds} (u : UpdD f d' ds ds') (n : (ds.map (·.1)).Nodup) (h : HoldF ds fs N F) (e : Same F F1) (hy : HoldD d' y M F1) : ∃ N' G, (M ++ N).Perm (G ++ N') ∧ HoldF ds' (putF f y fs) N' F1 ∧ (ds'.map (·.1)).Nodup ∧ ds'.length ≤ ds.length + 1 := by
  cases u with
  | at_ k d hk =>
    obtain ⟨x, M1, M2, g1, g2, g3, g4⟩ := holdF_zoom hk h
    obtain ⟨N', p1, p2⟩ := g4 d' y M F1 e hy
    refine ⟨N', M1, ?_, ?_, ?_, by rw [List.length_set]; omega⟩
    · refine (g2.append_left M).trans ?_
      rw [← List.append_assoc]
      refine (List.perm_append_comm.append_right M2).trans ?_
      rw [List.append_assoc]
      exact p1.symm.append_left M1
    · rw [putF_at g1 (by rw [holdF_names h]; exact n)]; exact p2
    · have hm : (ds.set k (f, d')).map (·.1) = ds.map (·.1) := by
        rw [List.map_set]
        apply List.ext_getElem?
        intro j
        by_cases hj : k = j
        · subst hj
          have hl := (List.getElem?_eq_some_iff.mp hk).1
          rw [List.getElem?_set_self (by rw [List.length_map]; exact hl), List.getElem?_map, hk]; rfl
        · rw [List.getElem?_set_ne hj]
      rw [hm]; exact n
  | new hf =>
    refine ⟨N ++ M, [], ?_, ?_, ?_, by rw [List.length_append]; exact Nat.le_refl _⟩
    · exact List.perm_append_comm
    · rw [putF_no (by rw [holdF_names h]; exact hf)]; exact holdF_app (holdF_up e h) hy
    · rw [List.map_append]
      exact List.nodup_append.mpr ⟨n, List.nodup_cons.mpr ⟨fun z => (nomatch z), List.nodup_nil⟩, fun a ha b hb z => hf (by have := List.mem_singleton.mp hb; rw [show f = b from this.symm, ← z]; exact ha)⟩
end
/-! ### the object -/
def objO (C : Addr) (ds : Fds) (a : Addr) (M : Cells) (F : Hp) : Prop := ∃ dx fs N, M = (a, .ins C dx fs) :: (dx, .own a) :: N ∧ HoldF ds fs N F ∧ (ds.map (·.1)).Nodup
def objB (B : Addr → Hp → Prop) (C : Addr) (ds : Fds) (a : Addr) (M : Cells) (F : Hp) : Prop := B a F ∧ objO C ds a M F
def atB (a0 : Addr) (F0 : Hp) : Addr → Hp → Prop := fun a F => a = a0 ∧ Same F0 F
/-- looked at as a value -/
def objV (C : Addr) (ds : Fds) : VP := fun v F => ∃ a M, v = .ref a ∧ objO C ds a M F ∧ ∀ p ∈ M, F p.1 = some p.2
section
variable {F F1 F2 H : Hp} {M N L : Cells} {ds : Fds} {C a : Addr} {B : Addr → Hp → Prop}
theorem objO_up (e : Same F F1) (h : objO C ds a M F) : objO C ds a M F1 :=
  let ⟨dx, fs, N, h1, h2, h3⟩ := h
  ⟨dx, fs, N, h1, holdF_up e h2, h3⟩
instance : Mono (objV C ds) := ⟨fun _ _ _ e ⟨a, M, h, h1, h2⟩ => ⟨a, M, h, objO_up e h1, fun p hp => e _ _ (h2 p hp)⟩⟩
end
end Tw

/-! Pg1: objects that change: looked at, written, called. -/
namespace Tw
open PySem PySem.Spec PyProof.Rows L2 SlX StX Rs Ma Sn
variable [Rs.Tabz]
section
variable {F F1 F2 H : Hp} {M N L : Cells} {ds : Fds} {C a : Addr} {B : Addr → Hp → Prop}
end
section
variable {ε α β γ δ S S0 S1 : Type} {Z : Wsh ε} {ρ : List (Option VP)} {κ : List Ow} {K : PySem.W.Frag} {te ta : TE} {t : TA} {u : TS} {i : Nat} {C : Addr} {f m : Str} {ds : Fds} {B : Addr → Hp → Prop} {R : α → VP} {Rb : β → VP} {Rd : δ → VP} {mm : Wm ε α} {ml : Wm ε (List α)} {mg : Wm ε γ} {Rs : γ → List VP} {ρ2 : S → List (Option VP)} {κ2 : S → List Ow}
/-! ### looked at -/
/-! ### written -/
end
end Tw

/-! Pg2: objects that change: their methods' promises. -/
namespace Tw
open PySem PySem.Spec PyProof.Rows L2 SlX StX Rs Ma Sn
variable [Rs.Tabz]
section
variable {ε α β γ δ S S0 S1 : Type} {Z : Wsh ε} {ρ : List (Option VP)} {κ : List Ow} {K : PySem.W.Frag} {te ta : TE} {t : TA} {u : TS} {i : Nat} {C : Addr} {f m : Str} {ds : Fds} {B : Addr → Hp → Prop} {R : α → VP} {Rb : β → VP} {Rd : δ → VP} {mm : Wm ε α} {ml : Wm ε (List α)} {mg : Wm ε γ} {Rs : γ → List VP} {ρ2 : S → List (Option VP)} {κ2 : S → List Ow}
end
section
variable {P : Program} {w : World} {K : PySem.W.Frag} {mg : Str → Option Value} {base : Heap} {γ δ S S0 S1 : Type} {C : Addr} {D0 : S0 → Fds} {D1 : S1 → Fds}
theorem satV_self {Rs : List VP} {vs : List V} {F : Hp} {n : Nat} {a : Addr} (hm : MonoAll Rs) (hv : Each Rs vs F) (hn : vs.length + 1 ≤ n) : SatV (none :: ofArgs Rs (n - 1)) ((V.ref a :: vs).map some ++ List.replicate (n - (V.ref a :: vs).length) none) F := by
  have h := sat_start (n := n - 1) hm hv
  rw [List.length_cons, show n - (vs.length + 1) = n - 1 - vs.length by omega]
  exact h
end
end Tw

/-! Pg3: methods and properties of classes without slots. -/
namespace Tw
open PySem PySem.Spec PyProof.Rows L2 SlX StX Rs Ma Sn
variable [Rs.Tabz]
section
variable {X : Cx} {e o : Expr} {es : List Expr} {t : TA} {ta : TE} {pos apos : Pos} {f m : Str}
end
section
variable {ε α β γ δ S : Type} {Z : Wsh ε} {ρ : List (Option VP)} {κ : List Ow} {K : PySem.W.Frag} {te ta tb : TE} {C : Addr} {ds : Fds} {R : α → VP} {Ra : α → VP} {Rb : β → VP} {Rd : δ → VP} {ma : Wm ε α} {mb : Wm ε β}
/-- a pair of what may be cut -/
instance {Ra : α → VP} {Rb : β → VP} [Cut Ra] [Cut Rb] : Cut (fP K Ra Rb) := ⟨fun p v F a o h1 h2 h3 ⟨b, vs, ev, hs, hr⟩ => by
  obtain ⟨x, y, rfl, r1, r2⟩ := each2 hr
  exact ⟨b, [x, y], ev, sqT_cut h1 h2 h3 hs, Cut.cut p.1 x F a o h1 h2 h3 r1, Cut.cut p.2 y F a o h1 h2 h3 r2, True.intro⟩⟩
end
end Tw

/-! Pg4: own len, str, bool of classes without slots. -/
namespace Sn
open PySem PySem.Spec PySem.Calls PyProof.Rows PySem.W
section
variable {prog : Program} {w : World} {A : Around} {E : Value → Shared → Prop} {s : Shared} {K : Frag} {x C f : Addr} {ox : Obj} {od : Option Obj}
end
end Sn
namespace Tw
open PySem PySem.Spec PyProof.Rows L2 SlX StX Rs Ma Sn
variable [Rs.Tabz]
section
variable {X : Cx} {CX : CXT} {C g : Addr} {n : Nat} {sp : Sp} {E : XK}
end
section
variable {X : Cx} {k j : Nat} {C : Addr} {sp : Sp} {e : Expr} {es : List Expr} {t : TA} {p pos : Pos}
end
section
variable {ε α β γ δ S : Type} {Z : Wsh ε} {ρ : List (Option VP)} {κ : List Ow} {K : PySem.W.Frag} {te ta tb : TE} {C : Addr}  {ma : Wm ε α} {D : α → Fds} {E : XK}
end
end Tw

/-! Ph0: expressions that change objects of one's own. -/
namespace Tw
open PySem PySem.Spec PyProof.Rows L2 SlX StX Rs Ma Sn
variable [Rs.Tabz]
/-- what a run with other cells behind it leaves -/
def RunX {α : Type} (Z : Wsh ε) (k : Hp → (α → Hp → Prop) → Prop) (F : Hp) (L : Cells) (R : α → Hp → Cells → Prop) (X : ε → Prop) : Prop :=
  ∀ F1 N H, Same F F1 → At F1 (L ++ N) H → WishOk Z F1 N X → ∀ Q : α → Hp → Prop, (∀ v F2 L2 H2, Same F1 F2 → At F2 (L2 ++ N) H2 → R v F2 L2 → Q v H2) → k H Q
section
variable {ε α β γ δ S S0 S1 S2 : Type}
variable {Z : Wsh ε} {ρ : List (Option VP)} {κ : List Ow} {K : PySem.W.Frag} {te ta tb : TE} {tt : TT} {t : TA} {t1 t2 u w' : TS} {i : Nat} {C : Addr} {f m : Str} {ds : Fds} {B : Addr → Hp → Prop} {R Ra : α → VP} {Rb : β → VP} {Rc : γ → VP} {Rd : δ → VP} {mg : Wm ε γ} {Rs : γ → List VP} {κs : S → List Ow} {ρ2 : S2 → List (Option VP)} {κ2 : S2 → List Ow}
end
end Tw

/-! Ph1: things of one's own in any order; several names given at once, some of them things of one's own. -/
namespace Tw
open PySem PySem.Spec PyProof.Rows L2 SlX StX Rs Ma Sn
variable [Rs.Tabz]
section
variable {κ κ' : List Ow} {σ : L2.St} {F : Hp}
end
section
variable {ε α β γ δ S S0 S1 S2 : Type} {Z : Wsh ε} {ρ : List (Option VP)} {κ κ' : List Ow} {K : PySem.W.Frag} {te ta tb : TE} {t : TA} {u : TS} {i j l : Nat} {C : Addr} {R Ra : α → VP} {Rb : β → VP} {Rd : δ → VP} {ma : Wm ε α} {mg : Wm ε γ} {ρ2 : S2 → List (Option VP)} {κ2 : S2 → List Ow}
/-! ### several names at once -/
inductive ItC where
  | v (R : VP)
  | o (p : Addr → HO → Hp → Prop)
  | m (P : Addr → Cells → Hp → Prop)
section
variable {F F1 : Hp} {M L N : Cells} {k : ItC} {x : V} {σ : L2.St}
end
section
variable {Is : γ → List ItC} {mk : γ → Ws ε S2 δ} {ρ' : γ → List (Option VP)} {κ' : γ → List Ow}
end
end
end Tw

/-! Ri0: keyword calls of methods that change objects; lists of what changes objects; l[::-1]; slices as lists of one's own; own str of classes without slots. -/
namespace Rs
open PySem PySem.Spec PyProof.Rows L2
end Rs
namespace Tw
open PySem PySem.Spec PyProof.Rows L2 SlX StX Rs Ma Sn
variable [Rs.Tabz]
/-! ### o.m(k = v, ..) -/
section
variable {X : Cx} {o : Expr} {kws : List Keyword} {ta : TE} {tk : TA} {pos apos : Pos} {m : Str} {ks : List Str}
end
/-! ### str of a class without slots -/
section
variable {ε α : Type} {Z : Wsh ε} {ρ : List (Option VP)} {κ : List Ow} {K : PySem.W.Frag} {ta : TE} {C : Addr} {ma : Wm ε α} {D : α → Fds} {E : XK}
end
/-! ### lists: turned round, cut, of one's own -/
section
variable {ε α β : Type} {Z : Wsh ε} {ρ : List (Option VP)} {κ : List Ow} {K : PySem.W.Frag} {te : TE} {R : α → VP} {ml : Wm ε (List α)}
end
/-! ### expressions that change an object: lists, tests -/
section
variable {ε α β γ δ S S0 : Type} {Z : Wsh ε} {ρ : List (Option VP)} {κ : List Ow} {K : PySem.W.Frag} {te : TE} {tt tu : TT} {t : TA} {i : Nat} {C : Addr} {m : Str} {ds : Fds} {B : Addr → Hp → Prop} {R : α → VP} {Rb : β → VP} {mg : Wm ε γ} {Rs : γ → List VP} {κs : S → List Ow}
end
end Tw

/-! Ri1: dict displays with several keys; two places of a dict by nested keys at once. -/
namespace Sn
open PySem PySem.Spec PyProof.Rows L2 PySem.W
variable [Rs.Tabz]
section
variable {X : Cx}
end
end Sn
namespace Tw
open PySem PySem.Spec PyProof.Rows L2 SlX StX Rs Ma Sn
variable [Rs.Tabz]
section
variable {ε α β δ S : Type} {Z : Wsh ε} {ρ : List (Option VP)} {κ : List Ow} {K : PySem.W.Frag} {P : Program} {w : World} {tk tv ta tb tx ty : TE} {trs : List (TE × TE)} {u : TS} {i : Nat} {Rk : α → VP} {R : β → VP} {Rd : δ → VP} {mk : Wm ε α} {mv : Wm ε β} {ρ2 : S → List (Option VP)} {κ2 : S → List Ow}
variable [DecidableEq α] {d : α → PyData}
section
variable {n : Nat} [c : Keyd d n] [t : TupD d]
end
end
end Tw

/-! Ri2: the head's facts on methods with a keyword-only parameter. -/
namespace Tw
open PySem PySem.Spec PyProof.Rows L2 SlX StX Rs Ma
variable [Rs.Tabz]
end Tw

/-! Ri3: a value is given a name: the goals behind it hold no copy of it. -/
namespace Tw
open PySem PySem.Spec PyProof.Rows L2 SlX StX Rs Ma
variable [Rs.Tabz]
variable {ε : Type} {α S : Type} {Z : Wsh ε} {ρ : List (Option VP)} {κ : List Ow} {te : TE} {R : α → VP}
end Tw

/-! Rj0: methods that change objects and may raise; such calls in a lambda handed to a def that tells errors by words. -/
namespace Tw
open PySem PySem.Spec PyProof.Rows L2 SlX StX Rs Ma Sn LmR
variable [Rs.Tabz]
/-- exceptions behind which what is one's own is as κ0 says -/
noncomputable def Zs (Y : Wx) (W : WX) (n : Nat) (κ0 : List Ow) : Wsh Ex where
  wi := W
  xr := xrE Y
  t := fun σ F L => σ.length = n ∧ ∃ L0 M, L.Perm (L0 ++ M) ∧ SatC κ0 σ F L0
  tl := fun σ F L M h => ⟨h.1, h.2.elim fun L0 h2 => h2.elim fun M0 h3 => ⟨L0, M0 ++ M, (h3.1.append_right M).trans (by rw [List.append_assoc]), h3.2⟩⟩
/-- a method's promise: from one state of the object to another, or an exception and the object as it was -/
noncomputable def SpMY {γ δ S0 S1 : Type} (Y : Wx) (C : Addr) (D0 : S0 → Fds) (D1 : S1 → Fds) (Rs : γ → List VP) (spec : S0 → γ → (S1 × δ → Prop) → (Ex → Prop) → Prop) (R : δ → VP) : Sp := fun vs H Q E =>
  ∃ s g F N a M ws P PX, vs = .ref a :: ws ∧ At F (M ++ N) H ∧ objO C (D0 s) a M F ∧ Each (Rs g) ws F ∧ spec s g P PX ∧
    (∀ s' d v F' M' H', Same F F' → At F' (M' ++ N) H' → objO C (D1 s') a M' F' → P (s', d) → R d v F' → Q v H') ∧
    (∀ e cls d F' M' H', Same F F' → At F' (M' ++ N) H' → objO C (D0 s) a M' F' → PX e → xrE Y e cls d F' → E cls d H')
section
variable {X : Cx} {e o : Expr} {es : List Expr} {t : TA} {ta : TE} {pos apos : Pos} {f m : Str} {E : XK}
end
section
variable {α β γ δ S S0 S1 : Type} {ρ : List (Option VP)} {κ κ' : List Ow} {K : PySem.W.Frag} {Y : Wx} {t : TA} {te : TE} {mg : Wm Ex γ} {Rs : γ → List VP} {Rb : β → VP} {Rd : δ → VP} {R : α → VP} {W : WX} {n i : Nat} {ρ2 : S → List (Option VP)} {κ2 : S → List Ow} {C : Addr} {m : Str} {ds : Fds} {B : Addr → Hp → Prop}
theorem t_zs {σ : L2.St} {F : Hp} {L : Cells} (sv : SatV ρ σ F) (hn : ρ.length = n) (c : SatC κ σ F L) : (Zs Y W n κ).t σ F L := ⟨by rw [← sat_len sv]; exact hn, L, [], by rw [List.append_nil], c⟩
theorem ts_raiseCs {C : Addr} {u : TS} (hn : ρ.length = n := by rfl) : TrS (Zs Y W n κ) ρ κ (tSeq (tRaise W C) u) (fun (_ : S → Prop) (_ : δ → Prop) E => E ⟨C, none⟩) ρ2 κ2 Rd :=
  ⟨fun σ F L sv sc Nx Rt E q F1 N H e A wsh D nx rt => wsh ⟨C, none⟩ _ none σ F1 L H (Same.refl _) A (t_zs (satV_up e sv) hn (satC_up e sc)) q ⟨rfl, fun f w z => by cases z⟩⟩
end
end Tw

/-! Rj1: heads: methods that may raise; a def with an object among its arguments; a method that gives a new object. -/
namespace Tw
open PySem PySem.Spec PyProof.Rows L2 SlX StX Rs Ma Sn LmR
variable [Rs.Tabz]
section
variable {P : Program} {w : World} {K : PySem.W.Frag} {mg : Str → Option Value} {base : Heap} {α γ δ S S0 S1 S2 : Type} {C : Addr} {D0 : S0 → Fds} {D1 : S1 → Fds} {Y : Wx}
/-! ### a def with an object as its second argument -/
section
variable {ε β : Type} {Z : Wsh ε} {ρ : List (Option VP)} {κ : List Ow} {t0 : TE} {t : TA} {ml : Wm ε α} {mr : Wm ε γ} {R0 : α → VP} {Rs : γ → List VP} {Rb : β → VP} {i : Nat} {B : Addr → Hp → Prop} {ds : Fds}
end
end
end Tw

/-! Rj2: calls by keyword and by default of methods that may raise; a choice between two expressions that change an object; a method that gives a new object. -/
namespace Tw
open PySem PySem.Spec PyProof.Rows L2 SlX StX Rs Ma Sn LmR
variable [Rs.Tabz]
section
variable {X : Cx} {o : Expr} {kws : List Keyword} {ta : TE} {tk : TA} {pos apos : Pos} {m : Str} {ks : List Str} {E : XK} {dv : V}
end
section
variable {ε α β γ δ S S0 S1 S2 : Type} {ρ : List (Option VP)} {κ : List Ow} {K : PySem.W.Frag} {Y : Wx} {t : TA} {te ta tb : TE} {tt : TT} {mg : Wm Ex γ} {Rs : γ → List VP} {Rb : β → VP} {n i : Nat} {C : Addr} {m : Str} {ds : Fds} {B : Addr → Hp → Prop}
variable {Z : Wsh ε} {κs : S → List Ow} {R : α → VP} {mm : Wm ε Bool} {m1 m2 : Wm ε (S × α)}
end
end Tw

/-! Rj3: a method that gives a new object. -/
namespace Tw
open PySem PySem.Spec PyProof.Rows L2 SlX StX Rs Ma Sn LmR
variable [Rs.Tabz]
section
variable {ε α β γ δ S S0 S1 S2 : Type} {Z : Wsh ε} {ρ : List (Option VP)} {κ : List Ow} {t : TA} {u : TS} {i j : Nat} {C : Addr} {m : Str} {ds ds2 : Fds} {B : Addr → Hp → Prop} {Rd : δ → VP} {mg : Wm ε γ} {Rs : γ → List VP} {ρ2 : S → List (Option VP)} {κ2 : S → List Ow}
end
section
variable {P : Program} {w : World} {K : PySem.W.Frag} {mg : Str → Option Value} {base : Heap} {γ S S0 S1 S2 : Type} {C : Addr} {D0 : S0 → Fds} {D1 : S1 → Fds} {D2 : S2 → Fds}
end
end Tw

/-! Rj4: data that are known to be numbers; what a call in a lambda gives, as any data. -/
namespace Tw
open PySem PySem.Spec PyProof.Rows L2 SlX StX Rs Ma Sn LmR
variable [Rs.Tabz]
section
variable {ε α β δ S S2 : Type} {Z : Wsh ε} {ρ : List (Option VP)} {κ : List Ow} {K : PySem.W.Frag} {te : TE} {n i : Nat} {ds : Fds} {C : Addr} {Y : Wx} {d : β → PyData} {κs : S → List Ow} {ρ2 : S2 → List (Option VP)} {κ2 : S2 → List Ow} {R : α → VP} {R' : β → VP}
end
end Tw

/-! Rj5: == of an object and data; [e] + xs[1:] of a list of unlike items. -/
namespace Tw
open PySem PySem.Spec PyProof.Rows L2 SlX StX Rs Ma Sn
variable [Rs.Tabz]
def notNames : List String := ["NoneType", "bool", "int", "str", "list", "tuple", "dict"]
/-- no data are of the class C -/
structure NoD (K : PySem.W.Frag) (C : Addr) : Prop where
  kit : ∀ T ∈ notNames, PySem.W.kitOne K (.type T) (.ref C) = some false
  nf : ∀ T ∈ notNames, PySem.W.notFirst K C (.type T) = true
def noDB (K : PySem.W.Frag) (C : Addr) : Bool := (notNames.all fun T => decide (PySem.W.kitOne K (.type T) (.ref C) = some false)) && notNames.all fun T => PySem.W.notFirst K C (.type T)
theorem noDB_ok {K : PySem.W.Frag} {C : Addr} (h : noDB K C = true) : NoD K C := by
  unfold noDB at h
  rw [Bool.and_eq_true] at h
  exact ⟨fun T m => of_decide_eq_true (List.all_eq_true.mp h.1 T m), fun T m => List.all_eq_true.mp h.2 T m⟩
section
variable {X : Cx} {k j : Nat} {C : Addr} {sp : Sp}
end
section
variable {ε α β γ : Type} {Z : Wsh ε} {ρ : List (Option VP)} {κ : List Ow} {K : PySem.W.Frag} {C : Addr} {E : XK} {D : α → Fds} {d : β → PyData} {ta tb : TE} {ma : Wm ε Bool}
/-- a and .., where a is false -/
theorem tr_andF (ha : TrE Z ρ κ ta ma (fD K dB)) : TrE Z ρ κ (tAndV ta tb) (fun Q X => ma (fun a => a = false ∧ Q false) X) (fD K dB) :=
  ⟨inferInstance, fun σ F L s c Q X q => rw_bind (k := ta σ) (ha.run σ F L s c _ X q) fun x F1 e1 ⟨a, ⟨q0, q1⟩, hx⟩ => by
    cases hx
    subst q0
    intro F4 N H e4 A wsh Qk qk
    exact ⟨false, rfl, iteF (qk _ F4 H (Same.refl _) A ⟨false, q1, .bl false⟩)⟩⟩
variable {Rs Rt : γ → List VP} {Rh : γ → VP} {R0 : α → VP} {mg : Wm ε γ} {mh : Wm ε α} {te tq : TE} {tl th : TO}
end
end Tw

/-! Rj6: x.f.pop() of an object of one's own; comprehensions whose items change an object. -/
namespace Tw
open PySem PySem.Spec PyProof.Rows L2 SlX StX Rs Ma Sn
variable [Rs.Tabz]
section
variable {ε α β γ δ S S2 : Type} {Z : Wsh ε} {ρ : List (Option VP)} {κ : List Ow} {K : PySem.W.Frag} {te : TE} {t u : TS} {i : Nat} {C : Addr} {f : Str} {ds : Fds} {B : Addr → Hp → Prop} {R : α → VP} {Rd : δ → VP} {κs : S → List Ow} {wi : TI} {g : TG}
end
end Tw

/-! Rj7: a method with one keyword-only parameter that has a default; `and` of expressions that change an object, return of one; an object made within an expression; an object's address told. -/
namespace Tw
open PySem PySem.Spec PyProof.Rows L2 SlX StX Rs Ma Sn LmR
variable [Rs.Tabz]
section
variable {ε α β γ δ S S1 S2 : Type} {Z : Wsh ε} {ρ : List (Option VP)} {κ : List Ow} {K : PySem.W.Frag} {te ta tb : TE} {t : TA} {u : TS} {i : Nat} {C : Addr} {f : Str} {ds : Fds} {B : Addr → Hp → Prop} {R : α → VP} {Rd : δ → VP} {κs : S → List Ow} {mg : Wm ε γ} {Rs : γ → List VP} {ρ2 : S2 → List (Option VP)} {κ2 : S2 → List Ow}
end
/-! ### objects of other classes under == -/
end Tw

/-! Rj8: == of an object with a dict and one with slots, of another class. -/
namespace Tw
open PySem PySem.Spec PyProof.Rows L2 SlX StX Rs Ma Sn LmR
variable [Rs.Tabz]
section
variable {X : Cx} {k j : Nat} {C : Addr} {sp : Sp}
end
section
variable {ε α β : Type} {K : PySem.W.Frag} {C C' : Addr} {E : XK} {D : α → Fds} {Rb : β → VP} [∀ b, Mono (Rb b)]
end
end Tw

/-! Sr0: a def with one keyword-only parameter that has a default, called by f(e, k = v) or by f(e). -/
namespace Tw
open PySem PySem.Spec PyProof.Rows L2 SlX StX Rs Ma Sn
variable [Rs.Tabz]
section
variable {X : Cx} {f : Str} {e : Expr} {es : List Expr} {kws : List Keyword} {t tk : TA} {p pos : Pos} {ks : List Str} {dv : V}
end
section
variable {ε α β δ : Type} {Z : Wsh ε} {ρ : List (Option VP)} {κ : List Ow} {K : PySem.W.Frag} {t tk : TA} {R1 : α → VP} {R2 : β → VP} {Rd : δ → VP} {ma : Wm ε α} {mb : Wm ε β} {spec : α × β → (δ → Prop) → Prop} {E : XK}
end
end Tw

/-! Sr2: f(e, k = v) that may raise; a promise with exceptions used where none can be. -/
namespace Tw
open PySem PySem.Spec PyProof.Rows L2 SlX StX Rs Ma Sn
variable [Rs.Tabz]
section
variable {X : Cx} {f : Str} {e : Expr} {es : List Expr} {kws : List Keyword} {t tk : TA} {p pos : Pos} {ks : List Str} {W : WX}
end
section
variable {α β γ δ : Type} {ρ : List (Option VP)} {κ : List Ow} {Y : Wx} {t tk : TA} {R1 : α → VP} {R2 : β → VP} {Rd : δ → VP} {ma : Wm Ex α} {mb : Wm Ex β} {W : WX} {n : Nat} {spec : α × β → (δ → Prop) → (Ex → Prop) → Prop}
end
section
variable {ε δ : Type} {Z : Wsh ε} {ρ : List (Option VP)} {κ : List Ow} {K : PySem.W.Frag} {te : TE} {R : δ → VP} [hR : ∀ d, Mono (R d)]
theorem tr_nOpt {m : Wm ε Unit} (h : TrE Z ρ κ te m (fD K dU)) : TrE Z ρ κ te (fun Q X => m (fun _ => Q none) X) (fOpt R) := h.conv (fun _ => none) fun _ v _ x => by
  have x : Dt K PyData.none v _ := x
  cases x
  exact rfl
theorem tr_sOpt {m : Wm ε δ} (h : TrE Z ρ κ te m R) : TrE Z ρ κ te (fun Q X => m (fun n => Q (some n)) X) (fOpt R) := h.conv some fun _ _ _ x => x
end
section
variable {ε α : Type} {Z : Wsh ε} {ρ : List (Option VP)} {κ : List Ow} {te : TE} {X : Wx} {m : Wm ε Wv}
end
/-! any([..]) -/
theorem r_any {t : TA} {σ : L2.St} {F : Hp} {L : Cells} {K : PySem.W.Frag} {bs : List Bool} (h : Run (t σ) F L (Each [Ls K (bs.map fun b => Dt K (.bool b))])) : Run (tCB (rAny K) t σ) F L (Dt K (.bool (bs.any id))) := r_cb h fun vs F1 e1 hv => by
  obtain ⟨v, rfl, a, ws, rfl, hs, hr⟩ := each1 hv
  rw [each_bls hr] at hs
  exact fun F2 N H e A Q q => ⟨a, bs, rfl, sqL_up (e.trans A.ex) hs, q _ F2 H (Same.refl _) A (.bl _)⟩
/-! statements that are never reached -/
def tNeverF : TS := fun _ _ _ => False
theorem pss_neverF {X : Cx} {body : List Stmt} : PSs X body tNeverF := ⟨fun _ _ _ _ _ _ h => h.elim⟩
theorem ts_neverF {ε S δ : Type} {Z : Wsh ε} {ρ : List (Option VP)} {κ : List Ow} {ρ2 : S → List (Option VP)} {κ2 : S → List Ow} {R : δ → VP} : TrS Z ρ κ tNeverF (fun (_ : S → Prop) (_ : δ → Prop) (_ : ε → Prop) => False) ρ2 κ2 R := ⟨fun _ _ _ _ _ _ _ _ q => q.elim⟩
end Tw

/-! Pe5: d.setdefault(k, e) of a dict by nested keys of one's own, within an append; keys that are triples. -/
namespace Sn
open PySem PySem.Spec PyProof.Rows L2 PySem.W
variable [Rs.Tabz]
end Sn
namespace Tw
open PySem PySem.Spec PyProof.Rows L2 SlX StX Rs Ma Sn
variable [Rs.Tabz]
instance {α β γ : Type} {d : α → PyData} {e : β → PyData} {f : γ → PyData} : TupD (dP3 d e f) := ⟨fun a => ⟨_, rfl⟩⟩
instance keydP3 {α β γ : Type} {d : α → PyData} {e : β → PyData} {f : γ → PyData} {n m l : Nat} [c : Keyd d n] [c2 : Keyd e m] [c3 : Keyd f l] : Keyd (dP3 d e f) (n + m + l + 1) := ⟨fun p => .tup [c.key p.1, c2.key p.2.1, c3.key p.2.2], fun p => by
  simp only [NestedKey.data, NestedKey.datas, c.ok, c2.ok, c3.ok]
  rfl, fun p => by simp only [calm, calmAll, c.quiet, c2.quiet, c3.quiet]; rfl, fun p => by
  have h1 := c.dep p.1
  have h2 := c2.dep p.2.1
  have h3 := c3.dep p.2.2
  simp only [NestedKey.depth, NestedKey.depthAll]
  omega, fun a b h => by
  obtain ⟨a1, a2, a3⟩ := a
  obtain ⟨b1, b2, b3⟩ := b
  injection h with h
  injection h with h1 h2
  injection h2 with h2 h3
  injection h3 with h3 _
  rw [c.inj a1 b1 h1, c2.inj a2 b2 h2, c3.inj a3 b3 h3]⟩
section
variable {ε α β δ S : Type} [DecidableEq α] {Z : Wsh ε} {ρ : List (Option VP)} {κ : List Ow} {K : PySem.W.Frag} {P : Program} {w : World} {d : α → PyData} {n : Nat} [c : Keyd d n] [t : TupD d] {R : β → VP} {Rd : δ → VP} {u : TS} {i j : Nat} {kvs : List (α × β)} {ρ2 : S → List (Option VP)} {κ2 : S → List Ow} {ta : TA} {ma : Wm ε (α × β)}
end
end Tw

/-! Nb0: an object whose only slot is a list of dicts of one's own: what is seen is numbered (Numbering). -/
namespace Tw
open PySem PySem.Spec PyProof.Rows L2 SlX StX Rs Ma Sn
variable [Rs.Tabz]
abbrev NKey := List Nat × List Nat
abbrev NumS := List (List (NKey × Nat))
section
variable {K : PySem.W.Frag} {P : Program} {w : World} {F F' : Hp} {C a : Addr} {M : Cells}
end
/-! ### made -/
def isR (r : Addr) : VP := fun v _ => v = .ref r
instance {r : Addr} : Mono (isR r) := ⟨fun _ _ _ _ h => h⟩
end Tw

/-! Mp: equal views behind many rounds of one web. -/
namespace Wb
open Rs Ma
variable [Rs.Tabz]
end Wb

/-! Mq: the first round in which views are unlike, with rounds of one web behind. -/
namespace Wb
open Rs Ma
variable [Rs.Tabz]
end Wb

/-! Mr: equal views by rounds; what is known; other numbers, other pools. -/
namespace Wb
open Rs Ma Tw
variable [Rs.Tabz]
/-! ### what is known -/
/-! ### rounds in front -/
/-! ### other pools -/
section
variable {n : Nat} {ns : List Nat} (inj : ∀ a b, a < n → b < n → pi ns a = pi ns b → a = b) (lt : ∀ a, a < n → pi ns a < n) (sur : ∀ z, z < n → ∃ a, a < n ∧ pi ns a = z)
include inj lt sur
end
end Wb

/-! Nc0: the numbers of words: equal where views are equal. -/
namespace Sn
open PySem PySem.Spec PyProof.Rows L2 SlX StX Rs Ma Tw Wb
variable [Rs.Tabz]
abbrev Nums := List (List Nat × List Nat)
def wordsL (m : Nat) : Nat → List (List Nat)
  | 0 => [[]]
  | r + 1 => (wordsL m r).flatMap fun u => (List.range m).map fun i => u ++ [i]
/-! ### words -/
theorem words_len {m : Nat} : ∀ {r : Nat} {u : List Nat}, u ∈ wordsL m r → u.length = r ∧ ∀ x ∈ u, x < m
  | 0, u, h => by
    cases List.mem_singleton.mp h
    exact ⟨rfl, fun x hx => nomatch hx⟩
  | r + 1, u, h => by
    obtain ⟨v, hv, h⟩ := List.mem_flatMap.mp h
    obtain ⟨i, hi, rfl⟩ := List.mem_map.mp h
    obtain ⟨h1, h2⟩ := words_len hv
    refine ⟨by rw [List.length_append, h1]; rfl, fun x hx => ?_⟩
    rcases List.mem_append.mp hx with hx | hx
    · exact h2 x hx
    · rw [List.mem_singleton.mp hx]; exact List.mem_range.mp hi
/-! ### tables -/
def Ext (ts ts' : NumS) : Prop := ∀ h k a, getA (ts.getD h []) k = some a → getA (ts'.getD h []) k = some a
/-! ### one round more -/
structure NumOk (p : List Rows) (r : Nat) (ns : Nums) : Prop where
  keys : ns.map (·.1) = wordsL p.length r
  rows : ∀ x ∈ ns, x.2.length = psize p
  eq : ∀ x ∈ ns, ∀ y ∈ ns, ∀ h, h < psize p → (x.2.getD h 0 = y.2.getD h 0 ↔ h ∈ eqInL p x.1 y.1)
theorem NumOk.word {p : List Rows} {r : Nat} {ns : Nums} (h : NumOk p r ns) {x : List Nat × List Nat} (hx : x ∈ ns) : x.1.length = r ∧ ∀ i ∈ x.1, i < p.length := words_len (by rw [← h.keys]; exact List.mem_map.mpr ⟨x, hx, rfl⟩)
end Sn

/-! Nd0: a crowd being made: words by what is seen. -/
namespace Tw
open PySem PySem.Spec PyProof.Rows L2 SlX StX Rs Ma Sn Wb
variable [Rs.Tabz]
abbrev PNk := Nat × Nat
abbrev dPN : PNk → PyData := dP dN dN
abbrev Grp := List (PNk × List (List Nat))
def addWord (kvs : Grp) (key : PNk) (word : List Nat) : Grp := putA kvs key ((getA kvs key).getD [] ++ [word])
def groupRow (kvs : Grp) (x : List Nat × List Nat) : Grp := (enumL x.2).foldl (fun kvs key => addWord kvs key x.1) kvs
def groupL (ns : Nums) : Grp := ns.foldl groupRow []
def isRef (r : Addr) : VP := fun v _ => v = .ref r
instance {r : Addr} : Mono (isRef r) := ⟨fun _ _ _ _ h => h⟩
section
variable {K : PySem.W.Frag} {P : Program} {w : World} {F F' : Hp} {C a0 dx d a : Addr} {M : Cells} {vn : V}
end
section
variable {α δ S : Type} {ρ : List (Option VP)} {K : PySem.W.Frag} {P : Program} {w : World} {u : TS} {C a0 dx d : Addr} {vn : V} {ns : Nums} {kvs : Grp} {Rd : δ → VP} {ρ2 : S → List (Option VP)} {κ2 : S → List Ow}
end
/-! ### the whole making -/
def crowdP (C : Addr) (K : PySem.W.Frag) (P : Program) (w : World) (ns : Nums) : VP := Ob C [0, 1] [fDKZ K P w (dT dN) (fD K (dT dN)) ns, fDK K P w dPN (fLn (fD K (dT dN))) (groupL ns)]
end Tw

/-! Nd1: Crowd.__init__. -/
namespace Tw
open PySem PySem.Spec PyProof.Rows L2 SlX StX Rs Ma Sn Wb
variable [Rs.Tabz]
end Tw
namespace Wb
open PySem PySem.Spec PyProof.Rows L2 SlX StX Rs Ma Sn Tw
variable [Rs.Tabz]
section
variable {K : PySem.W.Frag} {P : Program} {w : World} {C_Crowd : Addr}
instance {a : Nums} : Mono (crowdP C_Crowd K P w a) := inferInstanceAs (Mono (Ob C_Crowd [0, 1] [fDKZ K P w (dT dN) (fD K (dT dN)) a, fDK K P w dPN (fLn (fD K (dT dN))) (groupL a)]))
end
end Wb

/-! Nd2: several names at once by way of a tuple, things of one's own among them. -/
namespace Tw
open PySem PySem.Spec PyProof.Rows L2 SlX StX Rs Ma Sn
variable [Rs.Tabz]
instance {K : PySem.W.Frag} {P : Program} {w : World} {α β : Type} [DecidableEq α] {d : α → PyData} {n : Nat} [Keyd d n] {R : β → VP} : NotFrz (fun kvs : List (α × β) => ownDP K P w d R kvs) := ⟨fun g a o F ⟨zs, h, _⟩ o' u z => by rw [h] at z; nomatch z⟩
section
variable {ε γ δ S2 : Type} {Z : Wsh ε} {ρ : List (Option VP)} {κ : List Ow} {K : PySem.W.Frag} {t : TA} {u : TS} {i j l : Nat} {mg : Wm ε γ} {Rd : δ → VP} {ρ2 : S2 → List (Option VP)} {κ2 : S2 → List Ow} {Is : γ → List ItC} {mk : γ → Ws ε S2 δ} {ρ' : γ → List (Option VP)} {κ' : γ → List Ow}
end
end Tw

/-! Ni0: x *= e. -/
namespace Tw
open PySem PySem.Spec PyProof.Rows L2 SlX StX Rs Ma Sn
variable [Rs.Tabz]
end Tw

/-! Ss0: own dicts by comprehensions of two fors; x += e. -/
namespace Tw
open PySem PySem.Spec PyProof.Rows L2 SlX StX Rs Ma Sn
variable [Rs.Tabz]
section
variable {ε α β γ δ η : Type} {Z : Wsh ε} {ρ : List (Option VP)} {κ : List Ow} {K : PySem.W.Frag} {P : Program} {w : World} {tk tv : TE} {tt tt1 : TT} {wi wi1 : L2.TI} {g g1 : TG} {n : Nat} {d : α → PyData} [DecidableEq α] {Rb : β → VP}
end
instance {α β : Type} {K : PySem.W.Frag} {c : α → PyData} {d : β → PyData} : NoNon (fD K (dP c d)) := ⟨fun a v F h e => by
  have h : Dp K F v (dP c d a) := h
  subst e
  cases h⟩
end Tw

/-! Pe6: name = {k: v for ..}, the name a local. -/
namespace Sn
open PySem PySem.Spec PyProof.Rows L2 PySem.W
section
variable {X : Cx}
end
end Sn

/-! Ss1: x = {..: .. for .. for ..}, the dict locked. -/
namespace Sn
open PySem PySem.Spec PyProof.Rows L2 SlX StX Rs Ma Tw
variable [Rs.Tabz]
section
variable {X : Cx}
end
end Sn

/-! Ss2: ranges as values; numbers that are not in them. -/
namespace Tw
open PySem PySem.Spec PyProof.Rows L2 SlX StX Rs Ma Sn
variable [Rs.Tabz]
/-- the numbers below n, as a value -/
def fRg (n : Nat) : VP := fun v F => ∃ a, v = .ref a ∧ F a = some (.rng 0 (n : Int))
instance {n : Nat} : Mono (fRg n) := ⟨fun _ _ _ e ⟨a, h1, h2⟩ => ⟨a, h1, e _ _ h2⟩⟩
end Tw

/-! Ss3: dict(list(d.items())), keys that are tuples. -/
namespace Sn
open PySem PySem.Spec PyProof.Rows L2 SlX StX Rs Ma Tw
variable [Rs.Tabz]
end Sn
namespace Tw
open PySem PySem.Spec PyProof.Rows L2 SlX StX Rs Ma Sn
variable [Rs.Tabz]
end Tw

/-! Ng0: sorted of a dict by nested keys. -/
namespace Tw
open PySem PySem.Spec PyProof.Rows L2 SlX StX Rs Ma Sn
variable [Rs.Tabz]
section
variable {X : Cx}
variable {e : Expr} {es : List Expr} {t : TA} {p pos : Pos}
end
end Tw

/-! Ng1: sorted of a list of rows of rows. -/
namespace Tw
open PySem PySem.Spec PyProof.Rows L2 SlX StX Rs Ma Sn
variable [Rs.Tabz]
section
variable {α : Type} {K : PySem.W.Frag} {d : α → PyData}
end
/-! the order is one of data: whatever order they come in, they are sorted alike -/
end Tw

/-! Su0: min of a list of numbers, min of alike data: of a list, of two. -/
namespace Tw
open PySem PySem.Spec PyProof.Rows L2 SlX StX Rs Ma PySem.SeqAt
section
variable {prog : Program} {w : World} {A : Around} {E : Value → Shared → Prop} {s : Shared}
end
end Tw

/-! Ph2: two sets of ints that hold the same are not told apart. -/
namespace Sn
open PySem PySem.Spec PySem.Calls PyProof.Rows PySem.W L2
section
variable {P : Program} {w : World} {A : Around} {E : Value → Shared → Prop} {s : Shared} {a b : Addr} {S S' : Int → Bool} {n m : Nat}
end
end Sn

/-! Qh3: != of two sets of ints that hold the same; lists of optional numbers that are all there. -/
namespace Tw
open PySem PySem.Spec PyProof.Rows L2 SlX StX Rs Ma Sn
variable [Rs.Tabz]
section
variable {X : Cx}
end
section
variable {ε α : Type} {Z : Wsh ε} {ρ : List (Option VP)} {κ : List Ow} {K : PySem.W.Frag} {w : World} {te : TE}
end
end Tw

/-! Su1: a set of ints less another; a set of ints beside the empty set. -/
namespace Sn
open PySem PySem.Spec PySem.Calls PyProof.Rows PySem.W L2
section
variable {P : Program} {w : World} {A : Around} {E : Value → Shared → Prop} {s : Shared} {a b : Addr} {S S' : Int → Bool} {n m : Nat}
end
end Sn

/-! Su2: min of numbers and of rows; a set less another, == set(); x, d[k] = a, b. -/
namespace Tw
open PySem PySem.Spec PyProof.Rows L2 SlX StX Rs Ma Sn
/-! ### min -/
section
variable {X : Cx}
variable {e : Expr} {es : List Expr} {t : TA} {p pos : Pos} {j : Nat}
end
section
variable {ε : Type} {K : PySem.W.Frag} {w : World} [Rs.Tabz]
/-! ### sets -/
def fSet0 (w : World) : Unit → VP := fun _ v F => ∃ b, v = .ref b ∧ F b = some (SetO w b (fun _ => false) 0)
instance {w : World} {u : Unit} : Mono (fSet0 w u) := ⟨fun _ _ _ e ⟨b, h, h1⟩ => ⟨b, h, e _ _ h1⟩⟩
end
section
variable {ε α β δ S : Type} [DecidableEq α] {Z : Wsh ε} {ρ : List (Option VP)} {κ : List Ow} {K : PySem.W.Frag} {P : Program} {w : World} {d : α → PyData} {n : Nat} [c : Keyd d n] [t : TupD d] {R : β → VP} {γ : Type} {Ra : γ → VP} {kvs : List (α × β)} {i j : Nat} {ta tb tk : TE} {u : TS} {ma : Wm ε γ} {mb : Wm ε β} {mk : γ → Wm ε α} {Rd : δ → VP} {ρ2 : S → List (Option VP)} {κ2 : S → List Ow}
end
end Tw

/-! Su3: dict(xs) of pairs whose keys are tuples; set(). -/
namespace Sn
open PySem PySem.Spec PyProof.Rows L2 SlX StX Rs Ma Tw
variable [Rs.Tabz]
section
variable {X : Cx}
variable {e : Expr} {es : List Expr} {t : TA} {p pos : Pos} {j : Nat}
end
end Sn
namespace Tw
open PySem PySem.Spec PyProof.Rows L2 SlX StX Rs Ma Sn
variable [Rs.Tabz]
section
variable {ε α β : Type} [DecidableEq α] {Z : Wsh ε} {ρ : List (Option VP)} {κ : List Ow} {K : PySem.W.Frag} {P : Program} {w : World} {te : TE} {d : α → PyData} {n : Nat} [c : Keyd d n] [t : TupD d] {R : β → VP}
end
end Tw

/-! Su4: any statement ahead of a break. -/
namespace Tw
open PySem PySem.Spec PyProof.Rows L2 SlX StX Rs Ma Sn
variable [Rs.Tabz]
section
variable {ε δ S S1 : Type} {Z : Wsh ε} {ρ : List (Option VP)} {κ : List Ow} {t u : TS} {Rd : δ → VP} {ρ2 : S → List (Option VP)} {κ2 : S → List Ow} {ρ1 : S1 → List (Option VP)} {κ1 : S1 → List Ow}
end
end Tw

/-! Sv0: xs.remove(x); sorted of lists of numbers; four names at once. -/
namespace Tw
open PySem PySem.Spec PyProof.Rows L2 SlX StX Rs Ma Sn
variable [Rs.Tabz]
section
variable {ε δ S2 : Type} {Z : Wsh ε} {ρ : List (Option VP)} {κ : List Ow} {K : PySem.W.Frag} {te : TE} {u : TS} {i : Nat} {Rd : δ → VP} {ρ2 : S2 → List (Option VP)} {κ2 : S2 → List Ow}
end
section
variable {ε γ δ S2 : Type} {Z : Wsh ε} {ρ : List (Option VP)} {κ : List Ow} {K : PySem.W.Frag} {t : TA} {u : TS} {i j l l2 : Nat} {mg : Wm ε γ} {Rd : δ → VP} {ρ2 : S2 → List (Option VP)} {κ2 : S2 → List Ow} {Is : γ → List ItC} {mk : γ → Ws ε S2 δ} {ρ' : γ → List (Option VP)} {κ' : γ → List Ow}
end
/-! ### sorted of lists of numbers -/
end Tw

/-! Sv1: list(d) of a dict whose keys are tuples; list(xs) of data. -/
namespace Sn
open PySem PySem.Spec PyProof.Rows L2 SlX StX Rs Ma Tw
variable [Rs.Tabz]
section
variable {X : Cx}
variable {e : Expr} {es : List Expr} {t : TA} {p pos : Pos} {j : Nat}
end
end Sn
namespace Tw
open PySem PySem.Spec PyProof.Rows L2 SlX StX Rs Ma Sn
variable [Rs.Tabz]
section
variable {ε α β : Type} [DecidableEq α] {Z : Wsh ε} {ρ : List (Option VP)} {κ : List Ow} {K : PySem.W.Frag} {P : Program} {w : World} {te : TE} {d : α → PyData} {n : Nat} [c : Keyd d n] {R : β → VP}
end
section
variable {ε α : Type} {Z : Wsh ε} {ρ : List (Option VP)} {κ : List Ow} {K : PySem.W.Frag} {te : TE} {d : α → PyData} {ml : Wm ε (List α)}
end
end Tw

/-! Sv2: lists read out of a dict of one's own; new lists made while things of one's own are looked at. -/
namespace Tw
open PySem PySem.Spec PyProof.Rows L2 SlX StX Rs Ma Sn
variable [Rs.Tabz]
section
variable {K : PySem.W.Frag} {F : Hp} {a : Addr} {o : HO}
theorem sqL_cutN (h1 : F a = some o) (h2 : ∀ xs, o ≠ .lst xs) (h3 : ∀ o' u, o ≠ .frz o' u) {b : Addr} {xs : List V} (h : SqL K F b xs) : SqL K (cutF F a) b xs := by
  rcases h with (h | ⟨u, h⟩) | h
  · refine .inl (.inl ?_)
    have : b ≠ a := fun z => by
      rw [z, h1] at h
      exact h2 _ (Option.some.inj h)
    show (if b = a then none else F b) = _
    rw [if_neg this, h]
  · refine .inl (.inr ⟨u, ?_⟩)
    have : b ≠ a := fun z => by
      rw [z, h1] at h
      exact h3 _ _ (Option.some.inj h)
    show (if b = a then none else F b) = _
    rw [if_neg this, h]
  · exact .inr h
mutual
theorem dp_cutN (h1 : F a = some o) (h2 : ∀ xs, o ≠ .tup xs) (hl : ∀ xs, o ≠ .lst xs) (h3 : ∀ o' u, o ≠ .frz o' u) : ∀ (d : PyData) (v : V), Dp K F v d → Dp K (cutF F a) v d
  | .none, _, h => by cases h; exact .non
  | .bool b, _, h => by cases h; exact .bl b
  | .int i, _, h => by cases h; exact .int i
  | .str x, _, h => by cases h; exact .str x
  | .list ds, _, h => by
    cases h with
    | lst hs ha => exact .lst (sqL_cutN h1 hl h3 hs) (dps_cutN h1 h2 hl h3 ds _ ha)
  | .dict _, _, h => by cases h
  | .tuple ds, _, h => by
    cases h with
    | tup hs ha => exact .tup (sqT_cut h1 h2 h3 hs) (dps_cutN h1 h2 hl h3 ds _ ha)
theorem dps_cutN (h1 : F a = some o) (h2 : ∀ xs, o ≠ .tup xs) (hl : ∀ xs, o ≠ .lst xs) (h3 : ∀ o' u, o ≠ .frz o' u) : ∀ (ds : List PyData) (vs : List V), DpAll K F vs ds → DpAll K (cutF F a) vs ds
  | [], _, h => by cases h; exact .nil
  | d :: ds, _, h => by
    cases h with
    | cons x1 x2 => exact .cons (dp_cutN h1 h2 hl h3 d _ x1) (dps_cutN h1 h2 hl h3 ds _ x2)
end
end
/-- what is told of such values does not lean on dicts -/
class CutN {δ : Type} (R : δ → VP) : Prop where
  cut : ∀ d v F a o, F a = some o → (∀ xs, o ≠ .tup xs) → (∀ xs, o ≠ .lst xs) → (∀ o' u, o ≠ .frz o' u) → R d v F → R d v (cutF F a)
instance {K : PySem.W.Frag} {α : Type} {d : α → PyData} : CutN (fD K d) := ⟨fun x v F a o h1 h2 hl h3 r => dp_cutN h1 h2 hl h3 (d x) v r⟩
theorem each_cutN {α : Type} {R : α → VP} [CutN R] {F : Hp} {a : Addr} {o : HO} (h1 : F a = some o) (h2 : ∀ xs, o ≠ .tup xs) (hl : ∀ xs, o ≠ .lst xs) (h3 : ∀ o' u, o ≠ .frz o' u) : ∀ {xs : List α} {vs : List V}, Each (xs.map R) vs F → Each (xs.map R) vs (cutF F a)
  | [], [], h => h
  | x :: xs, v :: vs, h => ⟨CutN.cut x v F a o h1 h2 hl h3 h.1, each_cutN h1 h2 hl h3 h.2⟩
  | [], _ :: _, h => h.elim
  | _ :: _, [], h => h.elim
instance {α : Type} {R : α → VP} [CutN R] : CutN (fLn R) := ⟨fun xs v F a o h1 h2 hl h3 ⟨b, vs, e, hb, r⟩ => by
  have : b ≠ a := fun z => by
    rw [z, h1] at hb
    exact hl _ (Option.some.inj hb)
  exact ⟨b, vs, e, by show (if b = a then none else F b) = _; rw [if_neg this, hb], each_cutN h1 h2 hl h3 r⟩⟩
class NotLst {γ : Type} (ow : γ → Addr → HO → Hp → Prop) : Prop where
  no : ∀ g a o F, ow g a o F → ∀ xs, o ≠ .lst xs
instance {α β : Type} [DecidableEq α] {d : α → PyData} [NumK d] {R : β → VP} : NotLst (ownDI d R) := ⟨fun g a o F ⟨zs, h, _⟩ u z => by rw [h] at z; cases z⟩
instance {K : PySem.W.Frag} {P : Program} {w : World} {α β : Type} [DecidableEq α] {d : α → PyData} {n : Nat} [Keyd d n] {R : β → VP} : NotLst (fun kvs : List (α × β) => ownDP K P w d R kvs) := ⟨fun g a o F ⟨zs, h, _⟩ u z => by rw [h] at z; nomatch z⟩
section
variable {ε β γ δ : Type} {Z : Wsh ε} {ρ : List (Option VP)} {κ : List Ow} {te : TE} {i : Nat} {Rd : δ → VP} {R2 : β → VP} {ow : γ → Addr → HO → Hp → Prop} {fam : γ → VP} {g : γ}
end
end Tw

/-! Nf0: words by what is seen; ways through words that share a view. -/
namespace Sn
open PySem PySem.Spec PyProof.Rows L2 SlX StX Rs Ma Tw Wb
variable [Rs.Tabz]
/-! ### groups -/
def grp (ns : Nums) (k : PNk) : List (List Nat) := (getA (groupL ns) k).getD []
/-! ### ways -/
def AdjN (ns : Nums) (u v : List Nat) : Prop := ∃ x ∈ ns, ∃ y ∈ ns, x.1 = u ∧ y.1 = v ∧ ∃ h, h < x.2.length ∧ h < y.2.length ∧ x.2.getD h 0 = y.2.getD h 0
inductive ChainN (ns : Nums) (u : List Nat) : List Nat → List (List Nat) → Prop
  | one : ChainN ns u u [u]
  | snoc {v w : List Nat} {c : List (List Nat)} (h : ChainN ns u v c) (a : AdjN ns v w) : ChainN ns u w (c ++ [w])
abbrev Ways := List (List Nat × List (List Nat))
abbrev Met := List (PNk × Bool)
structure WOk (ns : Nums) (u : List Nat) (W : Ways) : Prop where
  nd : (W.map (·.1)).Nodup
  st : u ∈ W.map (·.1)
  ch : ∀ e ∈ W, ChainN ns u e.1 e.2 ∧ e.2.length ≤ W.length
  wd : ∀ v ∈ W.map (·.1), v ∈ ns.map (·.1)
/-! ### a round of the search -/
def AllMet (ns : Nums) (met : Met) (v : List Nat) : Prop := ∀ x ∈ ns, x.1 = v → ∀ h, h < x.2.length → (h, x.2.getD h 0) ∈ met.map (·.1)
structure TI (ns : Nums) (u : List Nat) (W0 : Ways) (cnt : Nat) (todo : List (List Nat)) (s : Ways × Met × List (List Nat)) : Prop where
  ok : WOk ns u s.1
  sub : ∀ v ∈ W0.map (·.1), v ∈ s.1.map (·.1)
  lat : ∀ v ∈ s.2.2, v ∈ s.1.map (·.1)
  len : s.1.length = W0.length + s.2.2.length
  met : ∀ k ∈ s.2.1.map (·.1), ∀ v ∈ grp ns k, v ∈ s.1.map (·.1)
  cnt : s.2.1.length ≤ cnt
  done : ∀ v ∈ s.1.map (·.1), v ∈ s.2.2 ∨ v ∈ todo ∨ AllMet ns s.2.1 v
end Sn

/-! Nf1: the search for ways, whole. -/
namespace Sn
open PySem PySem.Spec PyProof.Rows L2 SlX StX Rs Ma Tw Wb
variable [Rs.Tabz]
end Sn

/-! Nh0: lots: words that lead to each other through words that share a view. -/
namespace Sn
open PySem PySem.Spec PyProof.Rows L2 SlX StX Rs Ma Tw Wb
variable [Rs.Tabz]
open Classical in
/-! ### all lots -/
end Sn

/-! Nj0: sorted of tuples of rows (of rows); d.get(k, None). -/
namespace Tw
open PySem PySem.Spec PyProof.Rows L2 SlX StX Rs Ma Sn
variable [Rs.Tabz]
section
variable {α : Type} {K : PySem.W.Frag} {d : α → PyData}
end
/-! d.get(k, None) -/
section
variable {ε α β : Type} [DecidableEq α] {Z : Wsh ε} {ρ : List (Option VP)} {κ : List Ow} {K : PySem.W.Frag} {P : Program} {w : World} {d : α → PyData} {n : Nat} [c : Keyd d n] [t : TupD d] {R : β → VP} {td te : TE}
/-- what is there, as a value -/
theorem tr_unopt {δ : Type} {R : δ → VP} [hR : ∀ d, Mono (R d)] {m : Wm ε (Option δ)} (h : TrE Z ρ κ te m (fOpt R)) : TrE Z ρ κ te (fun Q X => m (fun o => ∃ a, o = some a ∧ Q a) X) R :=
  ⟨inferInstance, fun σ F L s c Q X q => (h.run σ F L s c _ X q).weak fun v F2 e ⟨o, ⟨a, e1, q1⟩, r1⟩ => by subst e1; exact ⟨a, q1, r1⟩⟩
end
end Tw

/-! Sw0: sorted of lists as new lists (items of any kind that are data), of lists of one's own too. -/
namespace Tw
open PySem PySem.Spec PyProof.Rows L2 SlX StX Rs Ma Sn
variable [Rs.Tabz]
section
variable {ε α : Type} {K : PySem.W.Frag} {R : α → VP} {d : α → PyData}
end
section
variable {ε α : Type} {Z : Wsh ε} {ρ : List (Option VP)} {κ : List Ow} {K : PySem.W.Frag} {i : Nat} {xs : List (List Nat)} {ns : List Nat}
end
end Tw

/-! Sw1: new lists ahead of several things of one's own; keys in dicts within comprehensions. -/
namespace Tw
open PySem PySem.Spec PyProof.Rows L2 SlX StX Rs Ma Sn
variable [Rs.Tabz]
section
variable {ε α : Type} {Z : Wsh ε} {ρ : List (Option VP)} {κ κ' : List Ow} {te : TE} {ml : Wm ε (List α)} {R : α → VP}
end
end Tw
namespace Sn
open PySem PySem.Spec PyProof.Rows L2 SlX StX Rs Ma
variable [Rs.Tabz]
end Sn

/-! Sx0: a method that returns what another method of the same object answers, which changes it too; bool of a truth. -/
namespace Tw
open PySem PySem.Spec PyProof.Rows L2 SlX StX Rs Ma Sn
variable [Rs.Tabz]
section
variable {ε α S S1 : Type} {Z : Wsh ε} {ρ : List (Option VP)} {κ : List Ow} {te : TE} {i : Nat} {C : Addr} {ds : Fds} {R : α → VP} {ρ2 : S → List (Option VP)} {κ2 : S → List Ow}
end
section
variable {X : Cx} {e : Expr} {es : List Expr} {t : TA} {p pos : Pos}
end
end Tw

/-! Sx1: defs that change an object and a cell (a dict) that are handed to them, or such a cell alone. -/
namespace Tw
open PySem PySem.Spec PyProof.Rows L2 SlX StX Rs Ma Sn LmR
variable [Rs.Tabz]
instance {α : Type} {R : α → VP} : NoNon (fLn R) := ⟨fun a v F ⟨p, vs, e, _⟩ z => by subst e; cases z⟩
/-- it is just this address -/
def aR (a : Addr) : Unit → VP := fun _ v _ => v = .ref a
instance {a : Addr} {x : Unit} : Mono (aR a x) := ⟨fun _ _ _ _ h => h⟩
/-- a cell of one's own, at an address that is told -/
def pinD {T : Type} (B : Addr → Hp → Prop) (O : T → Addr → HO → Hp → Prop) : T → Addr → HO → Hp → Prop := fun t a o F => B a F ∧ O t a o F
class OkO {T : Type} (O : T → Addr → HO → Hp → Prop) : Prop where
  ok : ∀ t a o F, O t a o F → OkC o
instance {T : Type} {B : Addr → Hp → Prop} {O : T → Addr → HO → Hp → Prop} [c : OkO O] : OkO (pinD B O) := ⟨fun t a o F h => c.ok t a o F h.2⟩
instance {K : PySem.W.Frag} {P : Program} {w : World} {α β : Type} [DecidableEq α] {d : α → PyData} {n : Nat} [Keyd d n] {R : β → VP} : OkO (fun kvs : List (α × β) => ownDP K P w d R kvs) := ⟨fun t a o F ⟨zs, h, _⟩ => by
  subst h
  exact ⟨dictN_notTup, dictN_notTbl, dictN_ne, fun o' u z => nomatch z⟩⟩
instance {T : Type} {B : Addr → Hp → Prop} {O : T → Addr → HO → Hp → Prop} {fam : T → VP} [b : Bor O fam] : Bor (pinD B O) fam := ⟨b.mono, fun g a o F h q => b.bor g a o F h fun F' e => (q F' e).2⟩
instance {T : Type} {B : Addr → Hp → Prop} {O : T → Addr → HO → Hp → Prop} [c : NotFrz O] : NotFrz (pinD B O) := ⟨fun g a o F h => c.no g a o F h.2⟩
section
variable {ε α β γ δ S S2 T : Type} {Z : Wsh ε} {ρ : List (Option VP)} {κ κr : List Ow} {K : PySem.W.Frag} {te : TE} {t : TA} {u : TS} {i j : Nat} {C : Addr} {ds : Fds} {B Bo : Addr → Hp → Prop} {R : α → VP} {Rb : β → VP} {D : S → Fds} {O mk : T → Addr → HO → Hp → Prop} {κs : S → List Ow} {mg : Wm ε γ} {ρ2 : S2 → List (Option VP)} {κ2 : S2 → List Ow}
end
/-! ### heads -/
section
variable {P : Program} {w : World} {K : PySem.W.Frag} {mg : Str → Option Value} {base : Heap} {γ δ S T : Type} {C : Addr} {D : S → Fds} {O : T → Addr → HO → Hp → Prop}
end
end Tw

/-! Sx2: classes whose constructor may raise; errors of calls that would change an object, told by words; what changes an object, put behind a list. -/
namespace Tw
open PySem PySem.Spec PyProof.Rows L2 SlX StX Rs Ma Sn LmR
variable [Rs.Tabz]
structure MkFX (P : Program) (w : World) (K : PySem.W.Frag) (mg : Str → Option Value) (base : Heap) (k : Nat) (x : Str) (C : Addr) (sp : Sp) : Prop where
  ex : ∃ f fd ps, Mk K C f ∧ FnOk P w K mg base (L2.CX P w) k f fd ps sp ∧ mg x = some (.ref C) ∧ Binds K fd ps []
section
variable {X : Cx} {e : Expr} {es : List Expr} {t : TA} {p pos : Pos} {x : Str} {E : XK}
theorem p_mkX {k j : Nat} {C : Addr} {sp : Sp} (tk : Takes X (fun cls d _ H => E cls d H)) (c : MkFX X.prog X.w X.K X.mg X.base k x C sp) (hr : Room j X.A) (hk : k + 1 ≤ j) (ha : PA X (e :: es) t) (hg : Gl X x := by rfl)
    (hdb : (x == ("__debug__" : Str)) = false := by decide) (he : starEach (e :: es) X.env = (false, eval e X.env) :: starEach es X.env := by rfl) (hpl : (backTo pos (starEach es X.env)).any (·.1) = false := by rfl) :
    PE X (.Call (.Name x p) (e :: es) [] pos) (tMake C sp [] E t) := by
  obtain ⟨f, fd, ps, M, F, hm, b⟩ := c.ex
  exact pe_make M F (hr.mono hk) hg hm b .nil (passes_call tk fun _ _ _ _ h => h) ha hdb he hpl
end
section
variable {ε α β γ δ S S1 S2 : Type} {Z : Wsh ε} {ρ : List (Option VP)} {κ : List Ow} {K : PySem.W.Frag} {te : TE} {t : TA} {u : TS} {i j n : Nat} {C : Addr} {ds : Fds} {R : α → VP} {Rb : β → VP} {Rs : γ → List VP} {Y : Wx} {κs : S → List Ow} {ρ2 : S2 → List (Option VP)} {κ2 : S2 → List Ow}
end
section
variable {P : Program} {w : World} {K : PySem.W.Frag} {mg : Str → Option Value} {base : Heap} {γ S0 S1 : Type} {C : Addr} {D0 : S0 → Fds} {D1 : S1 → Fds} {Y : Wx}
/-- a constructor that may raise, else falls off its end -/
theorem gw_metOXN {x qual : Str} {stt : Stmt} {f : Addr} {fd : FuncData} {N ps : List Str} {k : Nat} {Rs : γ → List VP} {spec : S0 → γ → (S1 × Unit → Prop) → (Ex → Prop) → Prop} (F : Fun K x qual stt f fd) (Sc : FnScope N ps (defScope stt)) (len : ∀ g, (Rs g).length + 1 = ps.length) (hN : Nat.ble ps.length N.length = true) (hm : ∀ g, MonoAll (Rs g))
    (body : ∀ (cdv : Value) (A : Around) (outer : List Env) (s : Shared) (H : Hp) (E : XK) (s0 : S0) (g : γ) (a0 : Addr) (F0 : Hp), Room k (A.deeper (envOfC qual (defScope stt) s.heap.objs.size f cdv)) →
      Takes (cxOf (L2.CX P w) P w K mg base N qual (defScope stt) f cdv A outer s H E) (fun cls d _ H => E cls d H) → PassesOwn (model P w) (A.deeper (envOfC qual (defScope stt) s.heap.objs.size f cdv)) (envOfC qual (defScope stt) s.heap.objs.size f cdv) (cxOf (L2.CX P w) P w K mg base N qual (defScope stt) f cdv A outer s H E).xe →
      ∃ t, PSs (cxOf (L2.CX P w) P w K mg base N qual (defScope stt) f cdv A outer s H E) (defBody stt) t ∧ ∃ m : Ws Ex S1 Unit, TrS (Zs Y (fun cls d _ H => E cls d H) N.length [.many 0 (objB (atB a0 F0) C (D0 s0))]) (none :: ofArgs (Rs g) (N.length - 1)) [.many 0 (objB (atB a0 F0) C (D0 s0))] t m (fun _ => List.replicate N.length none) (fun s' => [.many 0 (objB (atB a0 F0) C (D1 s'))]) (fD K dU) ∧
        ∀ Q PX, (∃ vs F, Each (Rs g) vs F) → spec s0 g Q PX → m (fun s' => Q (s', ())) (fun _ => False) PX) :
    FnOk P w K mg base (L2.CX P w) (k + 1) f fd ps (SpMY Y C D0 D1 Rs spec (fD K dU)) := by
  obtain ⟨oc, od, kV, doc, pm, an, cdv, ct, osl, rfl, lk, hcd⟩ := F.ex
  refine fn_of lk hcd Sc (fun vs H Q E ⟨s, g, F0, N0, a, M, ws, P0, PX, hvs, A, ho, hv, hs, q⟩ => by subst hvs; rw [List.length_cons, each_length hv]; exact len g) fun A outer s H vs Q E hr ⟨s0, g, F0, N0, a, M, ws, P0, PX, hvs, A0, ho, hv, hs, q, qx⟩ => ?_
  subst hvs
  obtain ⟨t, h1, m, h2, h3⟩ := body cdv A outer s H E s0 g a F0 hr (takes_of rfl rfl rfl rfl) (passes_of rfl)
  refine ⟨t, h1, ?_⟩
  have hl : ws.length + 1 ≤ N.length := by
    have := len g
    have := Nat.le_of_ble_eq_true hN
    rw [each_length hv]; omega
  have hlen0 : 0 < N.length := by omega
  refine h2.run (start N (.ref a :: ws)) F0 M (satV_self (hm g) hv hl) ⟨a, M, [], (List.append_nil M).symm, rfl, fun F' e' => ⟨⟨rfl, e'⟩, objO_up e' ho⟩, True.intro⟩ (fun s' => P0 (s', ())) (fun _ => False) PX (h3 P0 PX ⟨ws, F0, hv⟩ hs) F0 N0 H (Same.refl _) A0 (fun x cls d σ F1 L1 H1 e1 A1 ⟨hl, L0, M0, hp, c0⟩ p he => ?_) _ (fun σ' F' L' H' e' A' ⟨s', n, _, sc⟩ => ?_) fun v F' H' e' A' ⟨d, pd, _⟩ => pd.elim
  · obtain ⟨a', M', L'', hL', g1', g2', g3'⟩ := c0
    subst hL'
    have ea' := (g2' F1 (Same.refl _)).1.1
    have ho' := (g2' F1 (Same.refl _)).2
    rw [ea'] at ho'
    have hp2 : L1.Perm ((L'' ++ M0) ++ M') := hp.trans (by rw [List.append_assoc]; exact List.perm_append_comm)
    have A5 := A1.perm (List.Perm.append_right N0 hp2)
    rw [List.append_assoc] at A5
    exact qx x cls d F1 M' H1 e1 A5.drop ho' p he
  · obtain ⟨a', M', L2, hL, h4, h5, _⟩ := sc
    subst hL
    obtain ⟨⟨ha, hF⟩, ho'⟩ := h5 F' (Same.refl _)
    subst ha
    rw [List.append_assoc] at A'
    have A1 := A'.perm (List.perm_append_comm.trans (by rw [List.append_assoc]))
    exact q s' () .non F' M' H' e' ((A1.drop (L := L2)).perm List.perm_append_comm) ho' n .non
end
end Tw

/-! Sx3: a list of one's own whose items change something. -/
namespace Tw
open PySem PySem.Spec PyProof.Rows L2 SlX StX Rs Ma Sn LmR
variable [Rs.Tabz]
section
variable {ε α β γ δ S S1 S2 : Type} {Z : Wsh ε} {ρ : List (Option VP)} {κ : List Ow} {K : PySem.W.Frag} {te : TE} {t : TA} {u : TS} {R : α → VP} {Rd : δ → VP} {κs : S → List Ow} {ρ2 : S2 → List (Option VP)} {κ2 : S2 → List Ow}
end
section
variable {ε β S : Type} {Z : Wsh ε} {ρ : List (Option VP)} {Rb : β → VP} {Y : Wx} {i n : Nat} {C : Addr} {ds : Fds}
end
end Tw

/-! Sx4: an expression with two meanings; constructors that raise. -/
namespace Tw
open PySem PySem.Spec PyProof.Rows L2 SlX StX Rs Ma Sn LmR
variable [Rs.Tabz]
def tOrE (a b : TE) : TE := fun σ H Q => a σ H Q ∨ b σ H Q
theorem p_orE {X : Cx} {e : Expr} {a b : TE} (h1 : PE X e a) (h2 : PE X e b) : PE X e (tOrE a b) := ⟨fun pins s σ H Q I hw => hw.elim (h1.run pins s σ H Q I) (h2.run pins s σ H Q I)⟩
section
variable {ε α β γ δ S S1 S2 : Type} {Z : Wsh ε} {ρ : List (Option VP)} {κ : List Ow} {K : PySem.W.Frag} {te te2 : TE} {t : TA} {u : TS} {R : α → VP} {C : Addr} {Y : Wx} {n : Nat} {Rs : γ → List VP}
theorem tr_orE {m1 m2 : Wm ε α} (h1 : TrE Z ρ κ te m1 R) (h2 : TrE Z ρ κ te2 m2 R) : TrE Z ρ κ (tOrE te te2) (fun Q X => m1 Q X ∨ m2 Q X) R :=
  ⟨h1.mono, fun σ F L sv sc Q X q => by
    rcases q with q | q
    · exact fun F1 N H e A w Qk qk => .inl (h1.run σ F L sv sc Q X q F1 N H e A w Qk qk)
    · exact fun F1 N H e A w Qk qk => .inr (h2.run σ F L sv sc Q X q F1 N H e A w Qk qk)⟩
end
end Tw

/-! Sx5: tuples of values of many kinds, told item by item (Wv.tp). -/
namespace Tw
open PySem PySem.Spec PyProof.Rows L2 SlX StX Rs Ma Sn LmR
variable [Rs.Tabz]
/-- the items of a tuple that is told -/
def Wv.items : Wv → Option (List Wv)
  | .dat (.tuple ds) => some (ds.map .dat)
  | .tp ws => some ws
  | _ => none
section
variable {ε α β γ δ S : Type} {Z : Wsh ε} {ρ : List (Option VP)} {κ : List Ow} {X : Wx} {te : TE}
theorem tr_tpW {m : Wm ε (List Wv)} (h : TrE Z ρ κ te m (fTp X.K (fW X))) : TrE Z ρ κ te (fun Q E => m (fun ws => Q (.tp ws)) E) (fW X) := h.conv (R' := fW X) (fun ws => Wv.tp ws) fun ws v F x => by
  obtain ⟨a, vs, e, h1, h2⟩ := x
  exact ⟨a, vs, e, h1, fWs_each.mpr h2⟩
theorem each_conv {R : α → VP} {R' : β → VP} {g : α → β} (hg : ∀ a v F, R a v F → R' (g a) v F) {F : Hp} : ∀ {as : List α} {vs : List V}, Each (as.map R) vs F → Each ((as.map g).map R') vs F
  | [], [], h => h
  | a :: as, v :: vs, h => ⟨hg a v F h.1, each_conv hg h.2⟩
  | [], v :: vs, h => h.elim
  | a :: as, [], h => h.elim
/-- a tuple of things of one kind, as a tuple of values of many kinds -/
theorem tr_tMap {R : α → VP} {m : Wm ε (List α)} (g : α → Wv) (hg : ∀ a v F, R a v F → fW X (g a) v F) (h : TrE Z ρ κ te m (fTp X.K R)) : TrE Z ρ κ te (fun Q E => m (fun as => Q (as.map g)) E) (fTp X.K (fW X)) := h.conv (R' := fTp X.K (fW X)) (fun as => as.map g) fun as v F x => by
  obtain ⟨a, vs, e, h1, h2⟩ := x
  exact ⟨a, vs, e, h1, each_conv hg h2⟩
theorem tr_twebW {m : Wm ε (List Rows)} (h : TrE Z ρ κ te m (fTp X.K (webP X.cw X.K))) : TrE Z ρ κ te (fun Q E => m (fun as => Q (as.map Wv.web)) E) (fTp X.K (fW X)) := tr_tMap Wv.web (fun _ _ _ h => h) h
/-- .. and back, where each of them is a web -/
theorem each_webs {F : Hp} : ∀ {rss : List Rows} {vs : List V}, Each ((rss.map Wv.web).map (fW X)) vs F → Each (rss.map (webP X.cw X.K)) vs F
  | [], [], h => h
  | a :: as, v :: vs, h => ⟨h.1, each_webs h.2⟩
  | [], v :: vs, h => h.elim
  | a :: as, [], h => h.elim
theorem tr_Wtweb {m : Wm ε Wv} (h : TrE Z ρ κ te m (fW X)) : TrE Z ρ κ te (fun Q E => m (fun a => ∃ rss : List Rows, a = .tp (rss.map .web) ∧ Q rss) E) (fTp X.K (webP X.cw X.K)) := h.part (fun rss : List Rows => Wv.tp (rss.map Wv.web)) fun rss v F x => by
  obtain ⟨a, vs, e, h1, h2⟩ := x
  exact ⟨a, vs, e, h1, each_webs (fWs_each.mp h2)⟩
/-- a value as a tuple of values -/
theorem tr_Wt2 {m : Wm ε Wv} (h : TrE Z ρ κ te m (fW X)) : TrE Z ρ κ te (fun Q E => m (fun a => ∃ ws, a.items = some ws ∧ Q ws) E) (fTp X.K (fW X)) :=
  ⟨inferInstance, fun σ F L s c Q E q => (h.run σ F L s c _ E q).weak fun v F2 e ⟨a, ⟨ws, ea, q1⟩, r1⟩ => by
    refine ⟨ws, q1, ?_⟩
    cases a with
    | dat d =>
      cases d with
      | tuple ds =>
        have ea : some (ds.map Wv.dat) = some ws := ea
        injection ea with ea
        subst ea
        show Tp X.K ((ds.map Wv.dat).map (fW X)) v F2
        rw [List.map_map]
        exact tp_dt.mpr r1
      | _ => cases ea
    | tp us =>
      have ea : some us = some ws := ea
      injection ea with ea
      subst ea
      obtain ⟨a, vs, e, h1, h2⟩ := r1
      exact ⟨a, vs, e, h1, fWs_each.mp h2⟩
    | _ => cases ea⟩
end
end Tw

/-! Ms: what is known is whom the web of the word hears; who is heard by all, the first round; other numbers. -/
namespace Wb
open Rs Ma Tw
variable [Rs.Tabz]
section
variable {p : List Rows} (ok : POk p)
include ok
omit ok in
theorem enumL_get2 {α : Type} {xs : List α} {i : Nat} {x : α} (h : xs[i]? = some x) : (enumL xs)[i]? = some (i, x) := by
  unfold enumL
  rw [List.getElem?_map, List.getElem?_zipIdx, h]
  simp
end
/-! ### the first round -/
/-! ### other numbers -/
section
variable {n : Nat} {ns : List Nat} (inj : ∀ a b, a < n → b < n → pi ns a = pi ns b → a = b) (lt : ∀ a, a < n → pi ns a < n) (sur : ∀ z, z < n → ∃ a, a < n ∧ pi ns a = z)
include inj lt sur
end
end Wb

/-! Sx6: sets of whole numbers that may be below 0, sorted. -/
namespace Tw
open PySem PySem.Spec PyProof.Rows L2 SlX StX Rs Ma Sn LmR
def insI (x : Int) : List Int → List Int
  | [] => [x]
  | y :: ys => if x < y then x :: y :: ys else if x = y then y :: ys else y :: insI x ys
def ssetI (ns : List Int) : List Int := ns.foldr insI []
theorem mem_insI {x z : Int} : ∀ {ys : List Int}, z ∈ insI x ys ↔ z = x ∨ z ∈ ys
  | [] => by rw [insI, List.mem_singleton]; simp
  | y :: ys => by
    rw [insI]
    by_cases h : x < y
    · rw [if_pos h, List.mem_cons]
    · rw [if_neg h]
      by_cases e : x = y
      · rw [if_pos e, e, List.mem_cons, ← or_assoc, or_self]
      · rw [if_neg e, List.mem_cons, List.mem_cons, mem_insI, ← or_assoc, ← or_assoc, or_comm (a := z = y)]
theorem mem_ssetI {z : Int} : ∀ {ns : List Int}, z ∈ ssetI ns ↔ z ∈ ns
  | [] => Iff.rfl
  | x :: ns => by
    show z ∈ insI x (ssetI ns) ↔ _
    rw [mem_insI, mem_ssetI, List.mem_cons]
theorem asc_insI {x : Int} : ∀ {ys : List Int}, ys.Pairwise (· < ·) → (insI x ys).Pairwise (· < ·)
  | [], _ => by rw [insI]; exact List.pairwise_singleton _ _
  | y :: ys, h => by
    obtain ⟨h1, h2⟩ := List.pairwise_cons.mp h
    rw [insI]
    by_cases c : x < y
    · rw [if_pos c]
      refine List.pairwise_cons.mpr ⟨fun z hz => ?_, h⟩
      rcases List.mem_cons.mp hz with rfl | hz
      · exact c
      · exact Int.lt_trans c (h1 z hz)
    · rw [if_neg c]
      by_cases e : x = y
      · rw [if_pos e]; exact h
      · rw [if_neg e]
        refine List.pairwise_cons.mpr ⟨fun z hz => ?_, asc_insI h2⟩
        rcases mem_insI.mp hz with rfl | hz
        · omega
        · exact h1 z hz
theorem asc_ssetI : ∀ {ns : List Int}, (ssetI ns).Pairwise (· < ·)
  | [] => List.Pairwise.nil
  | x :: ns => asc_insI asc_ssetI
/-- an ascending list is its own sorted set, and no other one is -/
theorem insI_min {x : Int} {ys : List Int} (h : ∀ y ∈ ys, x < y) : insI x ys = x :: ys := by
  cases ys with
  | nil => rfl
  | cons y ys => rw [insI, if_pos (h y List.mem_cons_self)]
theorem ssetI_self : ∀ {ns : List Int}, ns.Pairwise (· < ·) → ssetI ns = ns
  | [], _ => rfl
  | x :: ns, h => by
    obtain ⟨h1, h2⟩ := List.pairwise_cons.mp h
    show insI x (ssetI ns) = _
    rw [ssetI_self h2, insI_min h1]
theorem ssetI_iff {ns : List Int} : ns = ssetI ns ↔ ns.Pairwise (· < ·) := ⟨fun h => h ▸ asc_ssetI, fun h => (ssetI_self h).symm⟩
variable [Rs.Tabz]
def fSetI (w : World) : List Int → VP := fun xs => Rs.St w xs
instance {w : World} {xs : List Int} : Mono (fSetI w xs) := inferInstanceAs (Mono (Rs.St w xs))
section
variable {ε : Type} {K : PySem.W.Frag} {w : World}
theorem c_setTI : Cb ε (rSetI K w) (fun xs => [fD K (dT dInt) xs]) (fun xs Q X => xs.length ≤ 1000 ∧ Q xs) (fSetI w) :=
  cb1 fun xs v F L hx Q X ⟨q0, q1⟩ => ⟨_, q1, r_set (R := fD K (dT dInt) xs) (cv hx) (fun v F1 h => seqI_t h) q0⟩
theorem c_sortedSetI : Cb ε (rSortedSet w) (fun xs => [fSetI w xs]) (fun xs Q X => xs.length < 64 ∧ Q (ssetI xs)) (fD K (dL dInt)) :=
  cb1 fun xs v F L hx Q X ⟨q0, q1⟩ => ⟨_, q1, r_is (r_sortedSet (w := w) (ns := xs) (cv (R := Rs.St w xs) hx) q0 (ssetI xs) asc_ssetI fun k => mem_ssetI) rfl⟩
theorem c_absI : Cb ε rAbs (fun i => [fD K dInt i]) (fun i => pur (if i < 0 then -i else i)) (fD K dInt) := .of fun i vs F L hv Q X q => by
  obtain ⟨v, rfl, h1⟩ := each1 hv
  cases h1
  exact ⟨_, q, run_ex i (run_and (fun _ _ _ _ _ => rfl) (run_ret fun F3 e3 => .int _))⟩
end
end Tw

/-! Sx7: l.count(x), the items data. -/
namespace Tw
open PySem PySem.Spec PyProof.Rows L2 SlX StX Rs Ma Sn LmR
section
variable {X : Cx}
def rCountD (K : PySem.W.Frag) : V → List V → Hp → VK → Prop := fun x xs H Q => ∃ (a : Addr) (y : V) (d : PyData) (ds : List PyData), x = V.ref a ∧ xs = [y] ∧ Dp K H (V.ref a) (.list ds) ∧ Dp K H y d ∧
  SeqAt.shaped (.list ds) = true ∧ SeqAt.shaped d = true ∧ Q (.int ((ds.countP fun z => PyData.eqv z d : Nat) : Int)) H
theorem mt_countD (hu : X.A.units + 65 < cLine) : MtR X "list.count" (rCountD X.K) := by
  intro pins s σ H x xs v us Q I rx rxs h
  obtain ⟨a, y, d, ds, rfl, rfl, hl, hy, sl, sd, q⟩ := h
  cases rx
  cases rxs with
  | cons ry rt =>
    rename_i uy ut
    cases rt
    obtain ⟨bs, r1⟩ := Dp.reads I d y uy hy ry
    have hxs : PyData.canLayAll0 ds = true := SeqAt.canLay_of_shaped sl
    have hroom : X.A.units + 1 + min (PyData.depthAll ds) d.depth < cLine := room_in_shaped sd hu
    cases hl with
    | lst hs ha =>
      obtain ⟨its, rv, ⟨⟨cls, dd, data, sls⟩, n, ho, hc, hdn, hdt⟩, hlen⟩ := I.list hs
      simp only at hc hdt
      subst hc hdt
      obtain ⟨as, h4⟩ := Dp.readsAll I ds _ its ha rv
      have hmap : its.map (SeqAt.readOf s.heap) = ds := SeqAt.readsAll_map ds its as hxs h4
      have hcnt : its.toArray.toList.countP (fun u => PyData.eqv (SeqAt.readOf s.heap u) d) = ds.countP fun z => PyData.eqv z d := by
        rw [← hmap, List.countP_map]
        rfl
      refine call_meets PySem.F.slot_list_count ⟨_, ho, rfl⟩ PySem.F.entry_list_count (PySem.F.args_list_count_2 _ _)
        (SeqAt.list_countAt a its.toArray n dd sls uy (fun u => PyData.eqv (SeqAt.readOf s.heap u) d)) ⟨ho, SeqAt.items_eqAt (vs := its.toArray) (show ReadsAll s.heap its.toArray.toList ds as from h4) r1 hxs (SeqAt.canLay_of_shaped sd) hroom, ?_⟩
      rw [hcnt]
      exact ⟨.int _, H, I.tok _, ⟨_, rfl⟩, q⟩
end
variable [Rs.Tabz]
section
variable {ε α : Type} {Z : Wsh ε} {ρ : List (Option VP)} {κ : List Ow} {K : PySem.W.Frag} {te tx : TE}
/-- l.count(x), a list of rows -/
theorem tr_countD {d : α → PyData} {ml : Wm ε (List α)} {mx : Wm ε α} (h : TrE Z ρ κ te ml (fD K (dL d))) (hx : TrE Z ρ κ tx mx (fD K d)) :
    TrE Z ρ κ (tBM K "list" (rCountD K) te (tCons tx tNil)) (fun Q X => ml (fun xs => mx (fun x => SeqAt.shaped (dL d xs) = true ∧ SeqAt.shaped (d x) = true ∧ Q (xs.countP fun z => PyData.eqv (d z) (d x))) X) X) (fD K dN) :=
  ⟨inferInstance, fun σ F L s c Q X q F1 N H e A wsh Qk qk => h.run σ F L s c _ X q F1 N H e A wsh _ fun v F2 H2 e2 A2 ⟨xs, q1, hl⟩ => by
    have hl' : Dp K F2 v (.list (xs.map d)) := hl
    obtain ⟨a, ys, ev, hs⟩ : ∃ a ys, v = .ref a ∧ SqL K F2 a ys := by
      cases hl' with
      | lst hs ha => exact ⟨_, _, rfl, hs⟩
    subst ev
    have e12 := e.trans e2
    refine ⟨.inl ⟨rfl, _, sqL_up A2.ex hs⟩, hx.run σ F2 L (satV_up e12 s) (satC_up e12 c) _ X q1 F2 N H2 (Same.refl _) A2 (wsh.up e2) _ fun w F3 H3 e3 A3 ⟨x, ⟨s1, s2, q2⟩, hw⟩ => ?_⟩
    have hw : Dp K F3 w (d x) := hw
    refine ⟨a, w, d x, xs.map d, rfl, rfl, dp_up (e3.trans A3.ex) hl', dp_up A3.ex hw, s1, s2, ?_⟩
    rw [List.countP_map]
    exact qk _ F3 H3 (e2.trans e3) A3 ⟨_, q2, .int _⟩⟩
end
end Tw

/-! Sx8: a tuple of any things, so many times. -/
namespace Tw
open PySem PySem.Spec PyProof.Rows L2 SlX StX Rs Ma Sn LmR
variable [Rs.Tabz]
section
variable {ε α : Type} {K : PySem.W.Frag} {R : α → VP}
theorem o_repTp [∀ a, Mono (R a)] : Op2 ε (rRepTA K) (fTp K R) (fD K dN) (fun xs n Q X => xs ≠ [] ∧ xs.length ≤ 1000 ∧ (1 ≤ n ∧ n ≤ 1000) ∧ Q (List.replicate n xs).flatten) (fTp K R) := ⟨fun xs n x y F L hx hy Q X ⟨q0, q1, q2, q3⟩ => fun F1 N H e A Qk qk => by
  obtain ⟨a, vs, rfl, hs, hr⟩ := hx
  cases hy
  have hl : vs.length = xs.length := by rw [each_length hr, List.length_map]
  by_cases hk : n = 1
  · subst hk
    refine .inr ⟨a, vs, rfl, rfl, sqT_up (e.trans A.ex) hs, qk _ F1 H (Same.refl _) A ⟨_, q3, a, vs, rfl, sqT_up e hs, ?_⟩⟩
    have : (List.replicate 1 xs).flatten = xs := by simp
    rw [this]; exact MonoL.mono _ _ _ e hr
  · refine .inl ⟨a, (n : Int), vs, rfl, rfl, sqT_up (e.trans A.ex) hs, fun z => q0 (by rw [z] at hl; exact List.eq_nil_of_length_eq_zero hl.symm), by omega, by omega, by omega, fun p hp => ?_⟩
    rw [Int.toNat_natCast]
    exact qk _ (upd F1 p _) _ (same_new (A.free hp)) (A.new hp) ⟨_, q3, p, _, rfl, .inl (.inl upd_same), flat_rep (MonoL.mono _ _ _ (e.trans (same_new (A.free hp))) hr) n⟩⟩
end
end Tw

/-! Sx9: a constructor that raises, within try. -/
namespace Tw
open PySem PySem.Spec PyProof.Rows L2 SlX StX Rs Ma Sn LmR
variable [Rs.Tabz]
/-- an end by an exception, whatever the names hold then -/
def anyX (W : WX) (n : Nat) : XK := fun cls d H => ∀ σ : L2.St, σ.length = n → W cls d σ H
theorem takes_any {X : Cx} {W : WX} (t : Takes X W) : Takes X (fun cls d _ H => anyX W X.N.length cls d H) := fun u s' ⟨a, B, sI, pins, σ, H, cls, d, e, I, nb, up, sky, na, os, ag, w⟩ => t u s' ⟨a, B, sI, pins, σ, H, cls, d, e, I, nb, up, sky, na, os, ag, w σ I.len⟩
section
variable {X : Cx} {e : Expr} {es : List Expr} {t : TA} {p pos : Pos} {x : Str} {W : WX}
theorem p_mkXt {k j : Nat} {C : Addr} {sp : Sp} (tk : Takes X W) (c : MkFX X.prog X.w X.K X.mg X.base k x C sp) (hr : Room j X.A) (hk : k + 1 ≤ j) (ha : PA X (e :: es) t) (hg : Gl X x := by rfl)
    (hdb : (x == ("__debug__" : Str)) = false := by decide) (he : starEach (e :: es) X.env = (false, eval e X.env) :: starEach es X.env := by rfl) (hpl : (backTo pos (starEach es X.env)).any (·.1) = false := by rfl) {n : Nat} (hn : X.N.length = n := by rfl) :
    PE X (.Call (.Name x p) (e :: es) [] pos) (tMake C sp [] (anyX W n) t) := by
  subst hn
  exact p_mkX (takes_any tk) c hr hk ha hg hdb he hpl
end
section
variable {α γ S1 : Type} {ρ : List (Option VP)} {κ : List Ow} {K : PySem.W.Frag} {t : TA} {R : α → VP} {C : Addr} {Y : Wx} {n : Nat} {Rs : γ → List VP} {W : WX}
theorem tr_mkBt {D1 : S1 → Fds} {mg : Wm Value γ} {bad : γ → (Ex → Prop) → Prop} [∀ a, Mono (R a)] (h : TrA (Zx W n) ρ κ t mg Rs) :
    TrE (Zx W n) ρ κ (tMake C (SpMY Y C (fun _ : Unit => []) D1 Rs (fun _ g _ PX => bad g PX) (fD K dU)) [] (anyX W n) t) (fun (_ : α → Prop) PX => mg (fun g => bad g (fun e => PX (.ref e.cls))) PX) R :=
  ⟨inferInstance, fun σ F L sv sc Q X q F1 N H e A wsh Qk qk => h.run σ F L sv sc _ X q F1 N H e A wsh _ fun vs F2 H2 e2 A2 ⟨g, q1, r1⟩ => by
    intro x dx h1 h2 h3
    rw [List.append_nil]
    have A3 : At F2 ((x, .ins C dx []) :: (dx, .own x) :: (L ++ N)) (upd (upd H2 dx (.own x)) x (.ins C dx [])) := (A2.cell (o := .own x) h2).cell (o := .ins C dx []) (a := x) (by rw [upd_ne h3.symm]; exact h1)
    refine ⟨(), g, F2, L ++ N, x, [(x, .ins C dx []), (dx, .own x)], vs, fun _ => False, fun e => X (.ref e.cls), rfl, A3, ⟨dx, [], [], rfl, rfl, List.nodup_nil⟩, r1, q1, fun s' d v F3 M' H3 e3 A4 ho qk' rv => qk'.elim, fun y cls d F3 M' H3 e3 A4 ho p r => ?_⟩
    exact fun σ' hl => wsh (.ref y.cls) cls d σ' F3 L H3 (e2.trans e3) A4.drop hl p r.1⟩
end
end Tw

/-! Sx10: != of lists whose items are alike, by their own ==. -/
namespace NeG
open PySem PySem.SeqAt GQ
open AutoSeq1 (wpAny_loadPart')
open MeetsSeq MeetsSeq2 MeetsSeq3 SeqRoads2
section
variable {prog : Program} {w : World} {A : Around} {R : Result → Shared → Prop}
theorem ne_loopG (l b : Addr) (N : Nat) (I : Nat → Shared → Prop) (hl : ListI prog w A (fun e s' => R (.error e) s') l b N I)
    (fin : ∀ s, I N s → R (.ok (.ret (.bool false))) s) (k : Nat) :
    ∀ i : Nat, N - i = k → i ≤ N → ∀ s, I i s →
      wpAny (model prog w) A.in1 (Builtin.«list.__eq__.loop» ⟨[.ref l, .ref b, rawInt i, rawInt 3], []⟩) (FinOf prog w A R) (fun e s' => R (.error e) s') s := by
  induction k with
  | zero =>
    intro i hk hi s h
    obtain ⟨items, items2, n, n2, hl1, hb1, hs1, hs2, _⟩ := hl _ _ h
    have hi' : i = N := by omega
    have hR : R (.ok (.ret (.bool false))) s := fin s (hi' ▸ h)
    obtain ⟨hp, g, d, tk, os⟩ := s
    wp_walk using wpAny_loadPart' hl1, wpAny_loadPart' hb1
    have hi1 : items[((i : Nat) : Int).toNat]? = none := by simp; omega
    have hi2 : items2[((i : Nat) : Int).toNat]? = none := by simp; omega
    rw [hi1, hi2]
    wp_walk using wpAny_loadPart' hl1, wpAny_loadPart' hb1
    show R (.ok (.ret (.bool (items.size != items2.size)))) _
    rw [hs1, hs2]
    simpa using hR
  | succ k ih =>
    intro i hk hi s h
    obtain ⟨items, items2, n, n2, hl1, hb1, hs1, hs2, turn⟩ := hl _ _ h
    have hlt : i < items.size := by omega
    have hlt2 : i < items2.size := by omega
    have ht := turn hlt hlt2
    obtain ⟨hp, g, d, tk, os⟩ := s
    wp_walk using wpAny_loadPart' hl1, wpAny_loadPart' hb1
    have hi1 : items[((i : Nat) : Int).toNat]? = some items[i] := by simp [hlt]
    have hi2 : items2[((i : Nat) : Int).toNat]? = some items2[i] := by simp [hlt2]
    have hc : ((i : Int) + 1) = ((i + 1 : Nat) : Int) := by omega
    rw [hi1, hi2]
    refine wpAny_bind (wpAny_mono ht (fun r s2 h2 => ?_) fun _ _ x => x)
    obtain ⟨hr, h2⟩ := h2
    subst hr
    have hrec := ih (i + 1) (by omega) (by omega) s2 h2
    obtain ⟨hp2, g2, d2, tk2, os2⟩ := s2
    wp_walk
    rw [hc]
    exact ⟨plainId_quiet plain_eq_loop _, codeAny_builtin entry_eq_loop (by
      rw [Around.under_plainId plain_eq_loop _]
      exact hrec)⟩
theorem list_neG (l b : Addr) (N : Nat) (I : Nat → Shared → Prop) (hl : ListI prog w A (fun e s' => R (.error e) s') l b N I)
    (fin : ∀ s, I N s → R (.ok (.ret (.bool false))) s) {s : Shared} (h : I 0 s) :
    wpAny (model prog w) A.in1 (Builtin.«list.__ne__» ⟨[.ref l, .ref b], []⟩) (FinOf prog w A R) (fun e s' => R (.error e) s') s := by
  obtain ⟨items, items2, n, n2, hl1, hb1, hs1, hs2, _⟩ := hl _ _ h
  have hrec := ne_loopG (A := A) (R := R) l b N I hl fin _ 0 rfl (Nat.zero_le _) s h
  obtain ⟨hp, g, d, tk, os⟩ := s
  have f3 := AutoSeq1.sub_list_list
  have hne : ¬ (items.size != items2.size) = true := by simp [hs1, hs2]
  wp_walk using wpAny_loadPart' hl1, wpAny_loadPart' hb1
  exact ⟨plainId_quiet plain_eq_loop _, codeAny_builtin entry_eq_loop (by
    rw [Around.under_plainId plain_eq_loop _]
    exact hrec)⟩
end
section
variable {prog : Program} {w : World} {A : Around} {E : Value → Shared → Prop} {s : Shared}
theorem rc_listNe {l b : Addr} {N : Nat} {Q : Value → Shared → Prop} (hu : A.units < cLine) (I : Nat → Shared → Prop) (hl : ListI prog w A E l b N I)
    (fin : ∀ s, I N s → Q (.bool false) s) (h : I 0 s) : wpAny (model prog w) A (richCompare .NotEq (.ref l) (.ref b)) Q E s := by
  obtain ⟨items, items2, n, n2, hl1, hb1, _, _, _⟩ := hl _ _ h
  refine wpAny_richCompare_same_room (op := .NotEq) ⟨_, hl1, rfl⟩ ⟨_, hb1, rfl⟩ F.slot_list_ne (call_here F.slot_list_ne ⟨_, hl1, rfl⟩ F.entry_list_ne (F.args_list_ne_2 _ _) ?_) hu
  exact list_neG (R := wants (fun v s' => v ≠ .notImplemented ∧ Q v s') E) l b N I hl (fun s' q => ⟨(fun x => nomatch x), fin s' q⟩) h
end
end NeG
namespace Tw
open PySem PySem.Spec PyProof.Rows L2 SlX StX Rs Ma Sn
theorem op_neGL {X : Cx} {n : Nat} {D : Eqv} (hD : Mon D) (h : EqG X n D) (hr : Room (n + 1) X.A) : OpR X (compareOp .NotEq) (rNeG (DList D)) := by
  intro pins s σ H x y v u Q I rx ry hq
  obtain ⟨⟨a, b, xs, ys, rfl, rfl, ha, hb, p⟩, q⟩ := hq
  cases rx
  cases ry
  show wpAny (model X.prog X.w) X.A (richCompare .NotEq (.ref a) (.ref b)) (EP X pins σ Q) X.xe s
  refine NeG.rc_listNe (N := xs.length) hr.units0 (fun _ s' => LoopI X pins σ H s') (fun i s' q' => ?_) (fun s' ⟨H', I', e'⟩ => ⟨.bl false, H', I', rfl, q H' e'⟩) ⟨H, I, Ext.rfl'⟩
  obtain ⟨H1, I1, e1⟩ := id q'
  obtain ⟨z, its, k, r, e⟩ := I1.hok a _ (e1 _ _ ha)
  obtain ⟨z2, its2, k2, r2, e2⟩ := I1.hok b _ (e1 _ _ hb)
  refine ⟨its.toArray, its2.toArray, k, k2, e, e2, by rw [List.size_toArray, ← r.length], by rw [List.size_toArray, ← r2.length, ← p.1], fun h1 h2 => ?_⟩
  exact turnG hD h ⟨hr, rfl⟩ p r r2 i h1 h2 s' q'
section
variable {X : Cx} {α : Type} {Ra : α → VP} {C : Addr} {k : Nat}
theorem op_neLown [Rs.Tabz] [∀ a, Mono (Ra a)] {spec : α × α → (Bool → Prop) → Prop} {j : Nat} (c : EqS X.prog X.w X.K X.mg X.base k C (SpN (fun p : α × α => [Ra p.1, Ra p.2]) spec (fD X.K dB))) (hn : PySem.W.notFirst X.K C (.ref C) = true) (h1 : ∀ a v F, Ra a v F → IsOb C v F)
    (hs : ∀ a (Q : Bool → Prop), Q true → spec (a, a) Q) (hz : ∀ P, ¬ Tabz.ts P) (hr : Room j X.A) (hk : k + 1 ≤ j) : OpR X (compareOp .NotEq) (rNeG (DList (DOwn Ra))) :=
  op_neGL mon_own ((rcG_own c hn h1 hs hz).eqG fun x y H ⟨a, ra, rb⟩ => by
    obtain ⟨p, _, _, rfl, _⟩ := h1 _ _ _ ra
    obtain ⟨p', _, _, rfl, _⟩ := h1 _ _ _ rb
    exact ⟨p, p', rfl, rfl⟩) (hr.mono hk)
theorem op_neLown0 [∀ a, Mono (Ra a)] {spec : α × α → (Bool → Prop) → Prop} {j : Nat} (c : EqS X.prog X.w X.K X.mg X.base k C (@SpN Tz0 _ _ (fun p : α × α => [Ra p.1, Ra p.2]) spec (fD X.K dB))) (hn : PySem.W.notFirst X.K C (.ref C) = true) (h1 : ∀ a v F, Ra a v F → IsOb C v F)
    (hs : ∀ a (Q : Bool → Prop), Q true → spec (a, a) Q) (hr : Room j X.A) (hk : k + 1 ≤ j) : OpR X (compareOp .NotEq) (rNeG (DList (DOwn Ra))) := @op_neLown X α Ra C k Tz0 _ spec j c hn h1 hs (fun _ h => h) hr hk
end
section
variable {ε α : Type} {K : PySem.W.Frag} {Ra : α → VP}
theorem o_neLown [Rs.Tabz] [∀ a, Mono (Ra a)] : Op2 ε (rNeG (DList (DOwn Ra))) (fLn Ra) (fLn Ra) (fun as bs Q _ => as = bs ∧ Q false) (fD K dB) :=
  ⟨fun as bs x y F L hx hy Q X ⟨e0, q⟩ => fun F2 N H e2 A Qk qk => by
    subst e0
    obtain ⟨a, xs, rfl, sa, ha⟩ := hx
    obtain ⟨b, ys, rfl, sb, hb⟩ := hy
    have e := e2.trans A.ex
    exact ⟨⟨a, b, xs, ys, rfl, rfl, e _ _ sa, e _ _ sb, prs_own (MonoL.mono _ _ _ e ha) (MonoL.mono _ _ _ e hb)⟩, fun H' eh => qk _ F2 H' (Same.refl _) (at_ext A eh) ⟨false, q, .bl _⟩⟩⟩
end
end Tw

/-! Sx11: an object with slots != a value of many kinds. -/
namespace Tw
open PySem PySem.Spec PyProof.Rows L2 SlX StX Rs Ma Sn
variable [Rs.Tabz]
def rNeSl (K : PySem.W.Frag) (C : Addr) (sp : Sp) (E : XK) : R2 := fun x y H Q => ∃ a dx vs tb, x = .ref a ∧ Slt H a C dx vs ∧ TyX K H y tb ∧ PySem.W.notFirst K C tb = true ∧ sp [x, y] H (fun v H' => ∃ c : Bool, v = .bl c ∧ Q (.bl (!c)) H') E
section
variable {X : Cx} {k j : Nat} {C : Addr} {sp : Sp}
theorem op_neSl (c : EqS X.prog X.w X.K X.mg X.base k C sp) (hr : Room j X.A) (hk : k + 1 ≤ j) : OpR X (compareOp .NotEq) (rNeSl X.K C sp E0) := by
  obtain ⟨g, hs, hsub, he, hf, F⟩ := c.ex
  have hr : Room (k + 1) X.A := hr.mono hk
  intro pins s σ H x y v u Q I rx ry h
  obtain ⟨a, dx, vs, tb, rfl, ha, hty, hn, q⟩ := h
  cases (show v = Value.ref a from rx)
  obtain ⟨sl, od, _, J, _⟩ := slt_inst I ha
  obtain ⟨m, hF⟩ := I.fr
  obtain ⟨Pz, kx, hp, _⟩ := kit_of I ry hty
  have hu := hr.units
  unfold compareOp
  refine Nq.ne_K (tb := tb) (by omega) hF I.ok.mod.kin J (kx.ty _ _ I.kIn hp) hn hs hsub he hf ?_
  refine wpAny_mono (wpAny_call (SlX.run_at (us := [.ref a, u]) (ws := [.ref a, y]) F hr.in1 I.env0.in1 pass0 I (.cons rfl (.cons ry .nil)) q)) (fun w s' z => ?_) fun _ _ x => x
  obtain ⟨z', H', I', rz, c, rfl, qz⟩ := z
  obtain rfl : w = Value.bool c := rz
  exact ⟨c, rfl, .bl (!c), H', I', rfl, qz⟩
end
section
variable {ε α : Type} {K : PySem.W.Frag} {C : Addr} {E : XK} {R : α → VP} {Y : Wx}
theorem names_not {w : Wv} (h : w.plain = true) : bName w ∈ notNames := nm_plain h
theorem o_neSlW [∀ a, Mono (R a)] {spec : α × Wv → (Bool → Prop) → Prop} (hn : NoD Y.K C) (h1 : ∀ a v F, R a v F → IsOb C v F) :
    Op2 ε (rNeSl Y.K C (SpN (fun p : α × Wv => [R p.1, fW Y p.2]) spec (fD Y.K dB)) E) R (fW Y) (fun a b Q _ => b.plain = true ∧ spec (a, b) fun c => Q (!c)) (fD Y.K dB) :=
  ⟨fun a b x y F L hx hy Q X ⟨hb, q⟩ => fun F2 N H e2 A Qk qk => by
    obtain ⟨p, dx, vs, rfl, q1, q2⟩ := h1 _ _ _ hx
    have hy2 : fW Y b y F2 := Mono.mono (R := fW Y b) _ _ _ e2 hy
    exact ⟨p, dx, vs, _, rfl, at_slt A (e2 _ _ q1) (e2 _ _ q2), ty_plain hb (Mono.mono (R := fW Y b) _ _ _ A.ex hy2), hn.nf _ (names_not hb), (a, b), F2, L ++ N, fun c => Q (!c), A, ⟨Mono.go hx e2, hy2, True.intro⟩, q, fun c v F3 H3 e3 A3 pd r => ⟨c, dt_bl r, qk _ F3 H3 e3 A3 ⟨!c, pd, .bl _⟩⟩⟩⟩
end
end Tw

/-! Sx12: a list of anything == []. -/
namespace Tw
open PySem PySem.Spec PyProof.Rows L2 SlX StX Rs Ma Sn Wb
variable [Rs.Tabz]
def rEqNil (K : PySem.W.Frag) : R2 := fun x y H Q => ∃ a b xs, x = .ref a ∧ y = .ref b ∧ SqL K H a xs ∧ SqL K H b [] ∧ Q (.bl (decide (xs.length = 0))) H
theorem op_eqNil {X : Cx} (hu : X.A.units < cLine) : OpR X (compareOp .Eq) (rEqNil X.K) := by
  intro pins s σ H x y v u Q I rx ry h
  obtain ⟨a, b, xs, rfl, rfl, ha, hb, q⟩ := h
  cases rx
  cases ry
  obtain ⟨its, r, pl, z⟩ := I.list ha
  obtain ⟨its2, r2, pl2, z2⟩ := I.list hb
  have e2 : its2 = [] := by
    have := r2.length
    exact List.eq_nil_of_length_eq_zero (by rw [← this]; rfl)
  subst e2
  have hl := r.length
  have fin : EP X pins σ Q (.bool (decide (xs.length = 0))) s := ⟨.bl _, H, I, rfl, q⟩
  show wpAny _ _ (richCompare .Eq (.ref a) (.ref b)) _ _ _
  by_cases h0 : xs.length = 0
  · have e0 : its = [] := List.eq_nil_of_length_eq_zero (by rw [← hl]; exact h0)
    subst e0
    rw [decide_eq_true h0] at fin
    exact PySem.SeqAt.RcAt.lists (e := fun _ => true) pl.isList pl2.isList rfl hu (fun j h1 _ => absurd h1 (by simp)) _ _ _ _ fin
  · rw [decide_eq_false h0] at fin
    exact PySem.SeqAt.RcAt.lists_lengths pl.isList pl2.isList (by simp; intro z; exact h0 (by rw [hl, z]; rfl)) hu _ _ _ _ fin
section
variable {ε α β : Type} {K : PySem.W.Frag} {R : α → VP} {Rb : β → VP}
theorem o_eqNil [∀ a, Mono (R a)] [∀ b, Mono (Rb b)] : Op2 ε (rEqNil K) (fLn R) (fLn Rb) (fun as bs Q _ => bs = [] ∧ Q (decide (as.length = 0))) (fD K dB) :=
  ⟨fun as bs x y F L hx hy Q X ⟨e0, q⟩ => fun F2 N H e2 A Qk qk => by
    subst e0
    obtain ⟨a, xs, rfl, sa, ha⟩ := hx
    obtain ⟨b, ys, rfl, sb, hb⟩ := hy
    have e := e2.trans A.ex
    have l1 := each_length ha
    rw [List.length_map] at l1
    have l2 : ys = [] := List.eq_nil_of_length_eq_zero (each_length hb)
    subst l2
    exact ⟨a, b, xs, rfl, rfl, .inl (.inl (e _ _ sa)), .inl (.inl (e _ _ sb)), by rw [l1]; exact qk _ F2 H (Same.refl _) A ⟨_, q, .bl _⟩⟩⟩
end
end Tw

/-! Sx13: x not in an object. -/
namespace Tw
open PySem PySem.Spec PyProof.Rows L2 SlX StX Rs Ma Sn
def rNotInOwn (C : Addr) (sp : Sp) (E : XK) : R2 := fun x y H Q => ∃ a dx vs, y = .ref a ∧ Slt H a C dx vs ∧ sp [y, x] H (fun v H' => ∃ b : Bool, v = .bl b ∧ Q (.bl (!b)) H') E
theorem op_notInO {X : Cx} {k j : Nat} {C : Addr} {sp : Sp} (c : OwnS X.prog X.w X.K X.mg X.base "__contains__" k C sp) (hr : Room j X.A) (hk : k ≤ j) : OpR X (compareOp .NotIn) (rNotInOwn C sp E0) := by
  obtain ⟨g, hs, hf, F⟩ := c.ex
  intro pins s σ H x y v u Q I rx ry h
  obtain ⟨a, dx, vs, rfl, hsl, q⟩ := h
  cases (show u = Value.ref a from ry)
  obtain ⟨sl, od, _, J, _⟩ := slt_inst I hsl
  obtain ⟨m, hF⟩ := I.fr
  refine PySem.W.notIn_K hF I.ok.mod.kin J hs hf (wpAny_mono (wpAny_call (SlX.run_at (us := [.ref a, v]) (ws := [.ref a, x]) F (hr.mono hk) I.env0 pass0 I (.cons rfl (.cons rx .nil)) q)) (fun w s' z => ?_) fun _ _ x => x)
  obtain ⟨z', H', I', rz, b, eb, qz⟩ := z
  subst eb
  cases (show w = Value.bool b from rz)
  exact wpAny_truthy_bool ⟨.bl (!b), H', I', rfl, qz⟩
variable [Rs.Tabz]
section
variable {ε α β : Type} {K : PySem.W.Frag} {C : Addr} {E : XK} {Ra : α → VP} {Rb : β → VP}
theorem o_notInOwn {spec : α × β → (Bool → Prop) → Prop} [∀ a, Mono (Ra a)] [∀ b, Mono (Rb b)] (h1 : ∀ a v F, Ra a v F → IsOb C v F) :
    Op2 ε (rNotInOwn C (SpN (fun p : α × β => [Ra p.1, Rb p.2]) spec (fD K dB)) E) Rb Ra (fun b a Q _ => spec (a, b) fun c => Q (!c)) (fD K dB) :=
  ⟨fun b a x y F L hx hy Q X q => fun F2 N H e2 A Qk qk => by
    obtain ⟨p, dx, us, rfl, q1, q2⟩ := h1 _ _ _ hy
    exact ⟨p, dx, us, rfl, at_slt A (e2 _ _ q1) (e2 _ _ q2), (a, b), F2, L ++ N, fun c => Q (!c), A, ⟨Mono.go hy e2, Mono.go hx e2, True.intro⟩, q, fun d v F3 H3 e3 A3 pd r => ⟨d, dt_bl r, qk _ F3 H3 e3 A3 ⟨!d, pd, .bl _⟩⟩⟩⟩
end
end Tw

/-! Tr0: tables of lambdas, so many of them. -/
namespace Tw
open PySem PySem.Spec PyProof.Rows L2 SlX StX Rs Ma Sn
end Tw

/-! Sr1: tables of lambdas and of generator expressions, so many of them. -/
namespace Tw
open PySem PySem.Spec PyProof.Rows L2 SlX StX Rs Ma Sn
end Tw

namespace Wb
open PySem PySem.Spec PyProof.Rows L2 SlX StX Rs
variable [Rs.Tabz]
local macro_rules | `(tactic| walk_at "rr") => `(tactic| (first
  | exact r_nil | exact r_int | exact r_bl | exact r_str
  | (refine r_var rfl ?_; assumption)
  | exact r_c rfl
  | (refine r_cons ?_ ?_ <;> walk_at "rr")))
def topS (i : Nat) : Stmt := PySem.Challenge.pw_rootshared_k05_pools_judged_and_told.main.body.getD i (.Pass ⟨0, 0, 0, 0⟩)
/-! ### numbers -/
def isInt : PyData → Bool
  | .int i => decide (-(10 ^ 60) < i) && decide (i < 10 ^ 60)
  | _ => false
def isBt (d : PyData) (lo hi : Int) : Bool := isInt d && match d with
  | .int i => decide (lo ≤ i) && decide (i ≤ hi)
  | _ => false
def toI : PyData → Int
  | .int i => i
  | _ => 0
def few : PyData → Prop
  | .tuple ds => ds.length ≤ 60
  | _ => True
def isRising (d : PyData) (lo hi : Int) : Bool := match d with
  | .tuple ds => ds.all (fun x => isBt x lo hi) && decide ((ds.map toI).Pairwise (· < ·))
  | _ => false
section
variable {P : Program} {w : World} {K : PySem.W.Frag} {mg : Str → Option Value} {base : Heap}
abbrev spIsInteger (K : PySem.W.Frag) : Sp := SpF (γ := PyData) (fun _ => True) (fun d => [Dt K d]) (fun d => Dt K (.bool (isInt d)))
-- is_integer: 0:value
abbrev s_is_integer : Stmt := topS 10
abbrev N_is_integer : List Str := ["value"]
theorem sc_is_integer : FnScope N_is_integer ["value"] (defScope s_is_integer) := ⟨rfl, rfl, rfl, by decide +kernel, rfl, by decide +kernel, by decide +kernel⟩
theorem ok_is_integer {f : Addr} {fd : FuncData} (B : Bf mg) (g_GREATEST : GInt mg "GREATEST" (10 ^ 60)) (F : Fun K "is_integer" "is_integer" s_is_integer f fd) (hm : mg "is_integer" = some (.ref f)) (b : Binds K fd ["value"] []) : Gf P w K mg base 1 "is_integer" (spIsInteger K) := by
  refine gf_mk F hm b sc_is_integer (fun _ => rfl) fun cdv A outer s H E d vs F0 hr hp hv => ?_
  obtain ⟨v, rfl, h1⟩ := each1 hv
  refine ⟨_, (pss_one (ps_ret (pe_and (p_isi B (pa_cons (pv 0) (pa_cons (p_ty (by rfl) B.int boot_int) pa_nil))) (pe_and (pe_not (p_isi B (pa_cons (pv 0) (pa_cons (p_ty (by rfl) B.bool boot_bool) pa_nil)))) (pe_one (pe_chain op_lt op_lt (pe_un un_neg (p_gint g_GREATEST)) (pv 0) (p_gint g_GREATEST))))))), ?_⟩
  refine s_ret ?_
  cases d with
  | int i => exact r_is (r_and (r_isiD (b := true) (by walk_at "rr") (by dsimp only [tyName]; decide +kernel)) fun _ => r_and (r_not (r_isiD (b := false) (by walk_at "rr") (by dsimp only [tyName]; decide +kernel))) fun _ => r_chain (r_U r_int) (by walk_at "rr") r_int) rfl
  | bool i => exact r_is (r_and (b := false) (r_isiD (b := true) (by walk_at "rr") (by dsimp only [tyName]; decide +kernel)) fun _ => r_is (r_and (b := false) (r_not (r_isiD (b := true) (by walk_at "rr") (by dsimp only [tyName]; decide +kernel))) fun h => nomatch h) rfl) rfl
  | none => exact r_is (r_and (b := false) (r_isiD (b := false) (by walk_at "rr") (by dsimp only [tyName]; decide +kernel)) fun h => nomatch h) rfl
  | str x => exact r_is (r_and (b := false) (r_isiD (b := false) (by walk_at "rr") (by dsimp only [tyName]; decide +kernel)) fun h => nomatch h) rfl
  | list x => exact r_is (r_and (b := false) (r_isiD (b := false) (by walk_at "rr") (by dsimp only [tyName]; decide +kernel)) fun h => nomatch h) rfl
  | tuple x => exact r_is (r_and (b := false) (r_isiD (b := false) (by walk_at "rr") (by dsimp only [tyName]; decide +kernel)) fun h => nomatch h) rfl
  | dict x => exact r_is (r_and (b := false) (r_isiD (b := false) (by walk_at "rr") (by dsimp only [tyName]; decide +kernel)) fun h => nomatch h) rfl
theorem isInt_shape {d : PyData} (h : isInt d = true) : ∃ i, d = .int i ∧ -(10 ^ 60) < i ∧ i < 10 ^ 60 := by
  cases d with
  | int i =>
    rw [isInt, Bool.and_eq_true] at h
    exact ⟨i, rfl, of_decide_eq_true h.1, of_decide_eq_true h.2⟩
  | _ => cases h
abbrev spIsBetween (K : PySem.W.Frag) : Sp := SpF (γ := PyData × Int × Int) (fun _ => True) (fun g => [Dt K g.1, Dt K (.int g.2.1), Dt K (.int g.2.2)]) (fun g => Dt K (.bool (isBt g.1 g.2.1 g.2.2)))
-- is_between: 0:value 1:low 2:high
abbrev s_is_between : Stmt := topS 11
abbrev N_is_between : List Str := ["value", "low", "high"]
theorem sc_is_between : FnScope N_is_between ["value", "low", "high"] (defScope s_is_between) := ⟨rfl, rfl, rfl, by decide +kernel, rfl, by decide +kernel, by decide +kernel⟩
theorem ok_is_between {f : Addr} {fd : FuncData} (c_is_integer : Gf P w K mg base 1 "is_integer" (spIsInteger K)) (F : Fun K "is_between" "is_between" s_is_between f fd) (hm : mg "is_between" = some (.ref f)) (b : Binds K fd ["value", "low", "high"] []) : Gf P w K mg base 2 "is_between" (spIsBetween K) := by
  refine gf_mk F hm b sc_is_between (fun _ => rfl) fun cdv A outer s H E ⟨d, lo, hi⟩ vs F0 hr hp hv => ?_
  obtain ⟨v, v1, v2, rfl, h1, h2, h3⟩ := each3 hv
  refine ⟨_, (pss_one (ps_ret (pe_and (p_call c_is_integer hr (by decide) (pa_cons (pv 0) pa_nil)) (pe_one (pe_chain op_le op_le (pv 1) (pv 0) (pv 2)))))), ?_⟩
  refine s_ret (r_and (r_call d True.intro (by walk_at "rr")) fun h => ?_)
  obtain ⟨i, rfl, _⟩ := isInt_shape h
  exact r_chain (by walk_at "rr") (by walk_at "rr") (by walk_at "rr")
abbrev spRequireNumber (K : PySem.W.Frag) : Sp := SpF (γ := PyData × Int × Int) (fun g => isBt g.1 g.2.1 g.2.2 = true) (fun g => [Dt K g.1, Dt K (.int g.2.1), Dt K (.int g.2.2)]) (fun g => Dt K .none)
-- require_number: 0:value 1:low 2:high
abbrev s_require_number : Stmt := topS 12
abbrev N_require_number : List Str := ["value", "low", "high"]
theorem sc_require_number : FnScope N_require_number ["value", "low", "high"] (defScope s_require_number) := ⟨rfl, rfl, rfl, by decide +kernel, rfl, by decide +kernel, by decide +kernel⟩
theorem ok_require_number {f : Addr} {fd : FuncData} (c_is_between : Gf P w K mg base 2 "is_between" (spIsBetween K)) (F : Fun K "require_number" "require_number" s_require_number f fd) (hm : mg "require_number" = some (.ref f)) (b : Binds K fd ["value", "low", "high"] []) : Gf P w K mg base 3 "require_number" (spRequireNumber K) := by
  refine gf_mk F hm b sc_require_number (fun _ => rfl) fun cdv A outer s H E ⟨d, lo, hi⟩ vs F0 hr hp hv => ?_
  obtain ⟨v, v1, v2, rfl, h1, h2, h3⟩ := each3 hv
  refine ⟨_, (pss_one (ps_if (pt_not (pt_val (p_call c_is_between hr (by decide) (pa_cons (pv 0) (pa_cons (pv 1) (pa_cons (pv 2) pa_nil))))))
        (pss_one ps_never)
        pss_nil)), ?_⟩
  refine s_if (t_not (t_B (r_call (d, lo, hi) True.intro (by walk_at "rr")))) (fun h => ?_) fun h => s_next fun F1 e => .non
  rw [show isBt (d, lo, hi).1 (d, lo, hi).2.1 (d, lo, hi).2.2 = true from hp] at h
  cases h
abbrev spIsRising (K : PySem.W.Frag) : Sp := SpF (γ := PyData × Int × Int) (fun g => few g.1) (fun g => [Dt K g.1, Dt K (.int g.2.1), Dt K (.int g.2.2)]) (fun g => Dt K (.bool (isRising g.1 g.2.1 g.2.2)))
theorem all_ints {ds : List PyData} {lo hi : Int} (h : ds.all (fun x => isBt x lo hi) = true) : ds = (ds.map toI).map .int := by
  induction ds with
  | nil => rfl
  | cons d ds ih =>
    rw [List.all_cons, Bool.and_eq_true] at h
    have h1 := h.1
    unfold isBt at h1
    rw [Bool.and_eq_true] at h1
    obtain ⟨i, rfl, _⟩ := isInt_shape h1.1
    rw [List.map_cons, List.map_cons, ← ih h.2]
    rfl
theorem insert_asc (n : Int) : ∀ os : List Int, os.Pairwise (· < ·) → ∃ qs : List Int, qs.Pairwise (· < ·) ∧ ∀ k, k ∈ qs ↔ k = n ∨ k ∈ os
  | [], _ => ⟨[n], List.pairwise_singleton _ _, by simp⟩
  | o :: os, h => by
    obtain ⟨h1, h2⟩ := List.pairwise_cons.mp h
    rcases Int.lt_trichotomy n o with c | c | c
    · exact ⟨n :: o :: os, List.pairwise_cons.mpr ⟨fun x hx => by
        rcases List.mem_cons.mp hx with z | z
        · exact z ▸ c
        · exact Int.lt_trans c (h1 x z), h⟩, by simp⟩
    · exact ⟨o :: os, h, by subst c; simp⟩
    · obtain ⟨qs, q1, q2⟩ := insert_asc n os h2
      refine ⟨o :: qs, List.pairwise_cons.mpr ⟨fun x hx => ?_, q1⟩, fun k => ?_⟩
      · rcases (q2 x).mp hx with z | z
        · exact z ▸ c
        · exact h1 x z
      · rw [List.mem_cons, q2, List.mem_cons]
        constructor
        · rintro (z | z | z)
          · exact .inr (.inl z)
          · exact .inl z
          · exact .inr (.inr z)
        · rintro (z | z | z)
          · exact .inr (.inl z)
          · exact .inl z
          · exact .inr (.inr z)
theorem asc_ex : ∀ ns : List Int, ∃ os : List Int, os.Pairwise (· < ·) ∧ ∀ k, k ∈ os ↔ k ∈ ns
  | [] => ⟨[], .nil, by simp⟩
  | n :: ns => by
    obtain ⟨os, h1, h2⟩ := asc_ex ns
    obtain ⟨qs, q1, q2⟩ := insert_asc n os h1
    exact ⟨qs, q1, fun k => by rw [q2, h2, List.mem_cons]⟩
theorem asc_one {os ps : List Int} (h1 : os.Pairwise (· < ·)) (h2 : ps.Pairwise (· < ·)) (h : ∀ k, k ∈ os ↔ k ∈ ps) : os = ps :=
  List.Perm.eq_of_pairwise (le := (· < ·)) (fun a b _ _ x y => absurd x (Int.lt_asymm y)) h1 h2 ((List.perm_ext_iff_of_nodup (h1.imp fun x => Int.ne_of_lt x) (h2.imp fun x => Int.ne_of_lt x)).mpr h)
-- is_rising: 0:value 1:low 2:high 3:number
abbrev s_is_rising : Stmt := topS 13
abbrev N_is_rising : List Str := ["value", "low", "high", "number"]
theorem sc_is_rising : FnScope N_is_rising ["value", "low", "high"] (defScope s_is_rising) := ⟨rfl, rfl, rfl, by decide +kernel, rfl, by decide +kernel, by decide +kernel⟩
theorem ok_is_rising {f : Addr} {fd : FuncData} (B : Bf mg) (c_is_between : Gf P w K mg base 2 "is_between" (spIsBetween K)) (F : Fun K "is_rising" "is_rising" s_is_rising f fd) (hm : mg "is_rising" = some (.ref f)) (b : Binds K fd ["value", "low", "high"] []) : Gf P w K mg base 3 "is_rising" (spIsRising K) := by
  refine gf_mk F hm b sc_is_rising (fun _ => rfl) fun cdv A outer s H E ⟨d, lo, hi⟩ vs F0 hr hp hv => ?_
  obtain ⟨v, v1, v2, rfl, h1, h2, h3⟩ := each3 hv
  refine ⟨_, (pss_cons (ps_if (PW.pt (pw_or (pt_not (pt_val (p_isi B (pa_cons (pv 0) (pa_cons (p_ty (by rfl) B.tuple boot_tuple) pa_nil))))) (pw_or1 (pt_not (pt_val (p_all rfl B (pa_cons (pe_lc (own := [("number", 3)]) (g := gName 3) (tt := tYes) rfl sc_is_rising.nd (pi_tup (pv 0)) (blkOk_by (N := N_is_rising) (sc := defScope s_is_rising) (by decide +kernel)) (fun _ _ _ _ _ => (pg_name (i := 3) sc_is_rising.nd rfl (by first | exact Or.inl rfl | exact Or.inr rfl))) (fun _ _ _ _ _ => pts_nil) (fun _ _ _ _ _ => by exact (p_call c_is_between hr (by decide) (pa_cons (pv 3) (pa_cons (pv 1) (pa_cons (pv 2) pa_nil)))))) pa_nil)))))))
        (pss_one (ps_ret pe_bl))
        pss_nil)
      (pss_one (ps_ret (pe_cmpR (op_eqD hr.units) (p_list B (pa_cons (pv 0) pa_nil)) (p_sortedSet rfl B (pa_cons (p_set rfl B (pa_cons (pv 0) pa_nil)) pa_nil)) (nomark _))))), ?_⟩
  cases d with
  | tuple ds =>
    have hl : ds.length ≤ 60 := hp
    refine q_if (b := !(ds.all fun x => isBt x lo hi)) (t_is (t_or (b := !(ds.all fun x => isBt x lo hi)) (t_not (t_B (r_isiD (b := true) (by walk_at "rr") (by dsimp only [tyName]; decide +kernel)))) fun _ => ?_) (by simp)) (fun hb => ?_) fun hb => ?_
    · refine t_is (t_not (t_B (r_all (bs := ds.map fun x => isBt x lo hi) (r_cons (r_ls (Run.weak (r_lcN (xs := ds) (Ri := Dt K) (Re := fun x => Dt K (.bool (isBt x lo hi))) (i_tup (Rs := ds.map (Dt K)) (r_var rfl (tp_dt.mpr h1))) (by omega) (fun _ => rfl) fun x u F1 e hx hu => ?_) fun v F1 e hv => ?_)) r_nil)))) ?_
      · have h2' := dp_up e h2
        have h3' := dp_up e h3
        exact r_call (x, lo, hi) True.intro (by walk_at "rr")
      · rw [List.map_map]; exact hv
      · rw [List.all_map]; rfl
    · refine q_ret (r_is r_bl ?_)
      show PyData.bool false = PyData.bool (isRising (.tuple ds) lo hi)
      rw [isRising]
      rw [Bool.not_eq_true'] at hb
      rw [hb]; rfl
    · rw [Bool.not_eq_false'] at hb
      have hd := all_ints hb
      have hs : isRising (.tuple ds) lo hi = decide ((ds.map toI).Pairwise (· < ·)) := by rw [isRising, hb, Bool.true_and]
      refine q_next (s_ret (r_is (d := .bool (decide ((ds.map toI).Pairwise (· < ·)))) ?_ (congrArg PyData.bool hs.symm)))
      obtain ⟨os, o1, o2⟩ := asc_ex (ds.map toI)
      have hn : (ds.map toI).length ≤ 60 := by rw [List.length_map]; exact hl
      have hv1 : Dt K (.tuple ((ds.map toI).map .int)) v F0 := hd ▸ h1
      refine r_is (r_eqD (d := .list ((ds.map toI).map .int)) (e := .list (os.map .int)) ?_ ?_ sh_listI sh_listI) ?_
      · exact (r_listT (r_cons (r_var rfl (tp_dt.mpr hv1)) r_nil)).weak fun v F1 e hv => ls_dt.mp (Ln.ls hv)
      · exact r_sortedSet (r_cons (r_set (R := Dt K (.tuple ((ds.map toI).map .int))) (r_cons (r_var rfl hv1) r_nil) (fun v F1 h => seqI_t h) (by omega)) r_nil) (by omega) os o1 o2
      · rw [eqv_listI]
        congr 1
        by_cases hp : (ds.map toI).Pairwise (· < ·)
        · rw [asc_one hp o1 fun k => (o2 k).symm, decide_eq_true rfl, decide_eq_true o1]
        · rw [decide_eq_false hp, decide_eq_false (fun z : ds.map toI = os => hp (by rw [z]; exact o1))]
  | _ =>
    refine q_if (b := true) (t_is (t_or (b := false) (t_not (t_B (r_isiD (b := false) (by walk_at "rr") (by dsimp only [tyName]; decide +kernel)))) fun h => nomatch h) rfl) (fun _ => ?_) fun h => nomatch h
    exact q_ret r_bl
end
end Wb

namespace Wb
open PySem PySem.Spec PyProof.Rows L2 SlX StX Rs Ma
variable [Rs.Tabz]
local macro_rules | `(tactic| walk_at "rr") => `(tactic| (first
  | exact r_nil | exact r_int | exact r_bl | exact r_str
  | (refine r_var rfl ?_; assumption)
  | exact r_c rfl
  | (refine r_cons ?_ ?_ <;> walk_at "rr")))
section
variable {P : Program} {w : World} {K : PySem.W.Frag} {mg : Str → Option Value} {base : Heap}
abbrev spHousesFrom (K : PySem.W.Frag) : Sp := SpF (γ := Rows × Nat) (fun g => Ok g.1 ∧ g.2 < g.1.length) (fun g => [Dt K (dRows g.1), Dt K (nI g.2)]) (fun g => Dt K (dRow (reachL g.1 g.2)))
-- houses_from: 0:heard 1:house 2:found 3:waiting 4:here 5:other 6:row
abbrev s_houses_from : Stmt := topS 16
abbrev N_houses_from : List Str := ["heard", "house", "found", "waiting", "here", "other", "row"]
theorem sc_houses_from : FnScope N_houses_from ["heard", "house"] (defScope s_houses_from) := ⟨rfl, rfl, rfl, by decide +kernel, rfl, by decide +kernel, by decide +kernel⟩
theorem ok_houses_from {f : Addr} {fd : FuncData} (B : Bf mg) (F : Fun K "houses_from" "houses_from" s_houses_from f fd) (hm : mg "houses_from" = some (.ref f)) (b : Binds K fd ["heard", "house"] []) : Gf P w K mg base 1 "houses_from" (spHousesFrom K) := by
  refine gf_mk F hm b sc_houses_from (fun _ => rfl) fun cdv A outer s H E ⟨rs, h⟩ vs F0 hr hp hv => ?_
  obtain ⟨v, v1, rfl, h1, h2⟩ := each2 hv
  obtain ⟨ok, hh⟩ : Ok rs ∧ h < rs.length := hp
  refine ⟨_, (pss_cons (ps_par (i := 2) (j := 3) rfl sc_houses_from.nd rfl rfl (by decide) rfl rfl (pa_cons (pe_disp (pps_cons (pv 1) pe_bl pps_nil) (by rfl) (by rfl) (by simp) (by decide)) (pa_cons (pe_lst (pa_cons (pv 1) pa_nil)) pa_nil)) (by rfl))
      (pss_cons (ps_while PassesOwn.never (pt_cmpR op_gt (p_len B (pa_cons (pv 3) pa_nil)) pe_int (nomark _))
        (pss_cons (ps_set (i := 4) sc_houses_from.nd rfl (by first | exact Or.inl rfl | exact Or.inr rfl) (pe_bm0 PySem.F.plainAttrs_list PySem.F.slot_list_pop PySem.F.type_list_pop mt_pop (pv 3)))
        (pss_one (ps_for PassesOwn.never rfl (pi_enumT (by rfl) B.enumerate (pa_cons (pv 0) pa_nil)) (pg_tup rfl (pgs_cons (pg_name (i := 5) sc_houses_from.nd rfl (by first | exact Or.inl rfl | exact Or.inr rfl)) (pgs_cons (pg_name (i := 6) sc_houses_from.nd rfl (by first | exact Or.inl rfl | exact Or.inr rfl)) pgs_nil)))
          (pss_one (ps_if (PW.pt (pw_and (pt_cmpR op_in_seq (pv 4) (pv 6) rfl) (pw_and1 (pt_cmp (pc_dnotin (hu_of hr) (pv 5) (pv 2))))))
            (pss_cons (ps_dput (hu_of hr) (pv 2) (pv 5) pe_bl rfl)
            (pss_one (ps_expr (pe_bm PySem.F.plainAttrs_list PySem.F.slot_list_append PySem.F.type_list_append mt_append (pv 3) (pa_cons (pv 5) pa_nil)))))
            pss_nil))))))
      (pss_one (ps_ret (p_tuple B (pa_cons (p_sortedDI rfl B (pa_cons (pv 2) pa_nil)) pa_nil)))))), ?_⟩
  have ev1 : v1 = .int (h : Int) := dt_int h2
  -- found, waiting = {house: True}, [house]
  refine q_par (S := fun x y F1 L1 => ∃ d l, x = .ref d ∧ y = .ref l ∧ L1 = [(l, .lst (vN [h])), (d, .dK (kvT [h]))]) ?_ ?_
  · refine x_cons (x_disp1 (n := (h : Int)) (v := .bl true) (r_var rfl h2) (r_c rfl)) ?_
    rintro x F1 L1 e1 ⟨d, rfl, rfl⟩
    refine x_cons (x_lst (Rs := [Dt K (nI h)]) (r_cons (r_var rfl (dp_up e1 h2)) r_nil) (by simp)) ?_
    rintro y F2 L2 e2 ⟨l, ws, rfl, hws, rfl⟩
    obtain ⟨z, rfl, hz⟩ := each1 hws
    cases hz
    exact x_ret fun F3 e3 => ⟨_, _, rfl, d, l, rfl, rfl, rfl⟩
  rintro x y F1 L1 e1 ⟨d, l, rfl, rfl, rfl⟩
  -- while len(waiting) > 0
  refine q_while (fun m σ' F' L' => ∃ f wt o4 o5 o6, σ' = [some v, some v1, some (.ref d), some (.ref l), o4, o5, o6] ∧ L' = [(l, .lst (vN wt)), (d, .dK (kvT f))] ∧ Dfs rs h f wt ∧ wt.length ≤ f.length ∧ m = 2 * (rs.length - f.length) + wt.length)
    (2 * (rs.length - 1) + 1) ⟨[h], [h], none, none, none, rfl, rfl, Dfs.start hh, Nat.le_refl _, rfl⟩ (fun _ _ _ _ _ _ z => z) ?_
  rintro m σ' F2 L2 e2 ⟨f, wt, o4, o5, o6, rfl, rfl, D, hwf, rfl⟩
  refine ⟨decide (0 < wt.length), ?_, fun hb => ?_, fun hb => ?_⟩
  · refine t_is (t_test (r_I0b (r_lnC (List.mem_cons_self) (r_cons (r_varE rfl) r_nil)) r_int)) ?_
    rw [List.length_map]
    exact decide_eq_decide.mpr (by omega)
  · obtain ⟨wt', here, rfl⟩ : ∃ wt' here, wt = wt' ++ [here] := by
      rcases List.eq_nil_or_concat wt with z | ⟨a, c, z⟩
      · subst z; simp at hb
      · exact ⟨a, c, by rw [z]; simp⟩
    have hl : here < rs.length := D.lt _ (D.sub _ (by simp))
    refine q_setX (Px := fun x F3 L3 => x = .int (here : Int) ∧ L3 = [(l, .lst (vN wt')), (d, .dK (kvT f))]) ?_ ?_
    · rw [show vN (wt' ++ [here]) = vN wt' ++ [V.int (here : Int)] from by simp [vN]]
      exact x_pop (r_varE rfl)
    rintro x F3 L3 e3 ⟨rfl, rfl⟩
    -- for other, row in enumerate(heard)
    refine s_for (fun i σ'' F' L' => ∃ o5 o6, σ'' = [some v, some v1, some (.ref d), some (.ref l), some (.int (here : Int)), o5, o6] ∧ L' = [(l, .lst (vN (wt' ++ newOf rs here f i))), (d, .dK (kvT (f ++ newOf rs here f i)))])
      (i_enumT (Rs := (rs.map dRow).map (Dt K)) (r_cons (r_var rfl (tp_dt.mpr (dp_up ((e1.trans e2).trans e3) h1))) r_nil)) (fun F' e' => ⟨_, _, rfl, by simp [newOf]⟩) (fun _ _ _ _ _ _ z => z) ?_ ?_
    · rintro i S x σ'' F4 L4 e4 hS hx ⟨o5', o6', rfl, rfl⟩
      obtain ⟨dr, hdr, rfl⟩ := pairs_get hS
      rw [List.getElem?_map] at hdr
      have hi : i < rs.length := by
        cases q : rs[i]? with
        | none => rw [q] at hdr; cases hdr
        | some r => exact (List.getElem?_eq_some_iff.mp q).1
      rw [get_row hi] at hdr
      cases hdr
      refine g_pair hx fun u1 u2 hu1 hu2 => ?_
      cases (show Dp K F4 u1 (nI i) from hu1)
      have hn : i ∉ newOf rs here f i := fun z => absurd (mem_new.mp z).1 (Nat.lt_irrefl _)
      refine s_if (b := decide (here ∈ row rs i) && !decide (i ∈ f ++ newOf rs here f i)) (t_and (t_test (r_inN (K := K) (r_var rfl (.int _)) (r_var rfl hu2))) fun _ => t_B (r_is (r_dnotin (K := K) (kvs := kvT (f ++ newOf rs here f i)) (List.mem_cons_of_mem _ List.mem_cons_self) (r_var rfl (.int _)) (r_varE rfl)) (by rw [kvT_val]))) (fun hb => ?_) fun hb => ?_
      · rw [Bool.and_eq_true, decide_eq_true_eq, Bool.not_eq_true', decide_eq_false_iff_not] at hb
        have hc : here ∈ row rs i ∧ i ∉ f := ⟨hb.1, fun z => hb.2 (List.mem_append_left _ z)⟩
        refine RunS.perm (L' := [(d, .dK (kvT (f ++ newOf rs here f i))), (l, .lst (vN (wt' ++ newOf rs here f i)))]) ?_ (List.Perm.swap _ _ _)
        have hlen : (f ++ newOf rs here f i).length ≤ rs.length := by
          have z := D.next.len
          have y : (newOf rs here f i).length ≤ (newOf rs here f rs.length).length := ((List.range_sublist.mpr (Nat.le_of_lt hi)).filter _).length_le
          rw [List.length_append] at z ⊢
          omega
        refine q_dput (n := (i : Int)) (v := .bl true) (r_c rfl) (r_varE rfl) (r_var (R := Dt K (nI i)) rfl (Dp.int (K := K) _)) (by rw [kvT_len]; have := ok.le; omega) fun F5 e5 => ?_
        refine RunS.perm (L' := [(l, .lst (vN (wt' ++ newOf rs here f i))), (d, .dK (putK (kvT (f ++ newOf rs here f i)) (Sum.inl (i : Int)) (.bl true)))]) ?_ (List.Perm.swap _ _ _)
        refine s_app (R := Eqv (.int (i : Int))) (r_varE rfl) (r_varE rfl) (by
          simp only [vN, List.length_map, List.length_append, List.length_cons, List.length_nil] at hwf hlen ⊢
          have := ok.le
          omega) fun u F6 e6 hu => ?_
        cases hu
        refine ⟨_, _, rfl, ?_⟩
        rw [kvT_put hb.2, new_yes hc, ← List.append_assoc, ← List.append_assoc]
        simp [vN]
      · refine s_next fun F5 e5 => ⟨_, _, rfl, ?_⟩
        rw [new_no (fun hc => ?_)]
        rw [decide_eq_true hc.1, Bool.true_and, Bool.not_eq_false', decide_eq_true_eq] at hb
        rcases List.mem_append.mp hb with z | z
        · exact hc.2 z
        · exact hn z
    · rintro σ'' F4 L4 e4 ⟨o5', o6', rfl, rfl⟩
      rw [Rs.pairs_len, List.length_map, List.length_map]
      refine ⟨_, ?_, _, _, _, _, _, rfl, rfl, D.next, by simp only [List.length_append, List.length_cons, List.length_nil] at hwf ⊢; omega, rfl⟩
      have := D.next.len
      rw [List.length_append] at this ⊢
      rw [List.length_append, List.length_append]
      simp only [List.length_cons, List.length_nil]
      omega
  · have hw : wt = [] := by
      cases wt with
      | nil => rfl
      | cons a t => simp at hb
    subst hw
    refine s_ret ?_
    have q := r_sortedDI (K := K) (σ := [some v, some v1, some (.ref d), some (.ref l), o4, o5, o6]) (F := F2) (L := [(l, HO.lst (vN [])), (d, .dK (kvT f))]) (d := d) (kvs := kvT f) (ks := cI f) (List.mem_cons_of_mem _ List.mem_cons_self) (r_cons (r_varE (i := 2) rfl) r_nil) (by simp [kvT, cI]) (by rw [List.length_map]; have := D.len; have := ok.le; omega) (cI (reachL rs h)) (D.perm.map _) ((asc_cI asc_reachL).imp fun x => Int.le_of_lt x)
    exact r_is (r_tupD (r_cons q r_nil)) (dRow_int).symm
end
end Wb

namespace Wb
open PySem PySem.Spec PyProof.Rows L2 SlX StX Rs Ma
variable [Rs.Tabz]
local macro_rules | `(tactic| walk_at "rr") => `(tactic| (first
  | exact r_nil | exact r_int | exact r_bl | exact r_str
  | (refine r_var rfl ?_; assumption)
  | exact r_c rfl
  | (refine r_cons ?_ ?_ <;> walk_at "rr")))
def inRow (d : PyData) (h : Nat) : Bool := match d with
  | .tuple ds => decide ((h : Int) ∈ ds.map toI)
  | _ => false
def isHeardRow (d : PyData) (h n : Nat) : Bool := isRising d 0 ((n : Int) - 1) && !inRow d h
def fewIn : PyData → Prop
  | .tuple ds => ∀ x ∈ ds, few x
  | _ => True
def isHeard (d : PyData) : Bool := match d with
  | .tuple ds => (decide ((1 : Int) ≤ (ds.length : Int)) && decide ((ds.length : Int) ≤ 5)) && ds.zipIdx.all fun p => isHeardRow p.1 p.2 ds.length
  | _ => false
theorem rising_shape {d : PyData} {lo hi : Int} (h : isRising d lo hi = true) : ∃ ds, d = .tuple ds ∧ ds = (ds.map toI).map .int := by
  cases d with
  | tuple ds =>
    rw [isRising, Bool.and_eq_true] at h
    exact ⟨ds, rfl, all_ints h.1⟩
  | _ => cases h
theorem toI_cI {r : List Nat} : (r.map nI).map toI = cI r := by rw [List.map_map]; rfl
theorem rising_row {r : List Nat} {n : Nat} (h1 : Asc r) (h2 : ∀ x ∈ r, x < n) (hn : n ≤ 100) : isRising (dRow r) 0 ((n : Int) - 1) = true := by
  rw [isRising, toI_cI, decide_eq_true (asc_cI h1), Bool.and_true, List.all_eq_true]
  intro x hx
  obtain ⟨y, hy, rfl⟩ := List.mem_map.mp hx
  have := h2 y hy
  have hb : (100 : Int) < 10 ^ 60 := by decide
  rw [isBt, isInt]
  simp only [Bool.and_eq_true, decide_eq_true_eq]
  omega
theorem isHeard_rows {rs : Rows} (ok : Ok rs) : isHeard (dRows rs) = true := by
  have h1 := ok.pos
  have h2 := ok.le
  rw [isHeard, List.length_map, Bool.and_eq_true, Bool.and_eq_true]
  refine ⟨⟨decide_eq_true (by omega), decide_eq_true (by omega)⟩, ?_⟩
  rw [List.all_eq_true]
  rintro ⟨d, i⟩ hp
  rw [List.zipIdx_map] at hp
  obtain ⟨⟨r, j⟩, hq, e⟩ := List.mem_map.mp hp
  cases e
  have hq' := List.mem_zipIdx_iff_getElem?.mp hq
  have hm : r ∈ rs := List.mem_of_getElem? hq'
  have hr := rising_row (n := rs.length) (ok.asc r hm) (ok.lt r hm) (by omega)
  have hn : ((j : Int) ∈ (r.map nI).map toI) = False := eq_false (by rw [toI_cI, mem_cI]; exact ok.ne j r hq')
  show isHeardRow (dRow r) j rs.length = true
  rw [isHeardRow, hr, inRow, Bool.true_and, Bool.not_eq_true', decide_eq_false_iff_not]
  rw [hn]; exact not_false
section
variable {P : Program} {w : World} {K : PySem.W.Frag} {mg : Str → Option Value} {base : Heap}
abbrev spIsHeardRow (K : PySem.W.Frag) : Sp := SpF (γ := PyData × Nat × Nat) (fun g => few g.1) (fun g => [Dt K g.1, Dt K (nI g.2.1), Dt K (nI g.2.2)]) (fun g => Dt K (.bool (isHeardRow g.1 g.2.1 g.2.2)))
-- is_heard_row: 0:value 1:house 2:size
abbrev s_is_heard_row : Stmt := topS 14
abbrev N_is_heard_row : List Str := ["value", "house", "size"]
theorem sc_is_heard_row : FnScope N_is_heard_row ["value", "house", "size"] (defScope s_is_heard_row) := ⟨rfl, rfl, rfl, by decide +kernel, rfl, by decide +kernel, by decide +kernel⟩
theorem ok_is_heard_row {f : Addr} {fd : FuncData} (c_is_rising : Gf P w K mg base 3 "is_rising" (spIsRising K)) (F : Fun K "is_heard_row" "is_heard_row" s_is_heard_row f fd) (hm : mg "is_heard_row" = some (.ref f)) (b : Binds K fd ["value", "house", "size"] []) : Gf P w K mg base 4 "is_heard_row" (spIsHeardRow K) := by
  refine gf_mk F hm b sc_is_heard_row (fun _ => rfl) fun cdv A outer s H E ⟨d, h, n⟩ vs F0 hr hp hv => ?_
  obtain ⟨v, v1, v2, rfl, h1, h2, h3⟩ := each3 hv
  refine ⟨_, (pss_one (ps_ret (pe_and (p_call c_is_rising hr (by decide) (pa_cons (pv 0) (pa_cons pe_int (pa_cons (pe_op op_sub (pv 2) pe_int) pa_nil)))) (pe_one (pe_cmpR op_notIn_seq (pv 1) (pv 0) rfl))))), ?_⟩
  refine s_ret (r_and (r_call (d, 0, (n : Int) - 1) hp (r_cons (by walk_at "rr") (r_cons r_int (r_cons (r_I0i (by walk_at "rr") r_int) r_nil)))) fun hh => ?_)
  obtain ⟨ds, rfl, hd⟩ := rising_shape hh
  rw [inRow]
  refine r_notIn (by walk_at "rr") (r_var (R := Dt K (.tuple ((ds.map toI).map .int))) rfl (hd ▸ h1)) fun v F1 hq => seqI_t hq
abbrev spIsHeard (K : PySem.W.Frag) : Sp := SpF (γ := PyData) fewIn (fun g => [Dt K g]) (fun g => Dt K (.bool (isHeard g)))
-- is_heard: 0:value 1:house 2:row
abbrev s_is_heard : Stmt := topS 15
abbrev N_is_heard : List Str := ["value", "house", "row"]
theorem sc_is_heard : FnScope N_is_heard ["value"] (defScope s_is_heard) := ⟨rfl, rfl, rfl, by decide +kernel, rfl, by decide +kernel, by decide +kernel⟩
theorem ok_is_heard {f : Addr} {fd : FuncData} (B : Bf mg) (g_MAX_SIZE : GInt mg "MAX_SIZE" 5) (c_is_heard_row : Gf P w K mg base 4 "is_heard_row" (spIsHeardRow K)) (F : Fun K "is_heard" "is_heard" s_is_heard f fd) (hm : mg "is_heard" = some (.ref f)) (b : Binds K fd ["value"] []) : Gf P w K mg base 5 "is_heard" (spIsHeard K) := by
  refine gf_mk F hm b sc_is_heard (fun _ => rfl) fun cdv A outer s H E d vs F0 hr hp hv => ?_
  obtain ⟨v, rfl, h1⟩ := each1 hv
  refine ⟨_, (pss_cons (ps_if (PW.pt (pw_or (pt_not (pt_val (p_isi B (pa_cons (pv 0) (pa_cons (p_ty (by rfl) B.tuple boot_tuple) pa_nil))))) (pw_or1 (pt_not (pt_chain op_le op_le pe_int (p_len B (pa_cons (pv 0) pa_nil)) (p_gint g_MAX_SIZE))))))
        (pss_one (ps_ret pe_bl))
        pss_nil)
      (pss_one (ps_ret (p_all rfl B (pa_cons (pe_lc (own := [("house", 1), ("row", 2)]) (g := gTup K 2 (gCons (gName 1) (gCons (gName 2) gNil))) (tt := tYes) rfl sc_is_heard.nd (pi_enumT (by rfl) B.enumerate (pa_cons (pv 0) pa_nil)) (blkOk_by (N := N_is_heard) (sc := defScope s_is_heard) (by decide +kernel)) (fun _ _ _ _ _ => (pg_tup rfl (pgs_cons (pg_name (i := 1) sc_is_heard.nd rfl (by first | exact Or.inl rfl | exact Or.inr rfl)) (pgs_cons (pg_name (i := 2) sc_is_heard.nd rfl (by first | exact Or.inl rfl | exact Or.inr rfl)) pgs_nil)))) (fun _ _ _ _ _ => pts_nil) (fun _ _ _ _ _ => by exact (p_call c_is_heard_row hr (by decide) (pa_cons (pv 2) (pa_cons (pv 1) (pa_cons (p_lenK K B (pa_cons (pv 0) pa_nil)) pa_nil)))))) pa_nil))))), ?_⟩
  cases d with
  | tuple ds =>
    have hp' : ∀ x ∈ ds, few x := hp
    refine q_if (b := !(decide ((1 : Int) ≤ (ds.length : Int)) && decide ((ds.length : Int) ≤ 5))) (t_is (t_or (b := !(decide ((1 : Int) ≤ (ds.length : Int)) && decide ((ds.length : Int) ≤ 5))) (t_not (t_B (r_isiD (b := true) (by walk_at "rr") (by dsimp only [tyName]; decide +kernel)))) fun _ => t_not (t_test (r_chain r_int (r_lnTD (by walk_at "rr")) (by walk_at "rr")))) (by simp)) (fun hb => ?_) fun hb => ?_
    · refine q_ret (r_is r_bl ?_)
      rw [Bool.not_eq_true'] at hb
      rw [isHeard, hb]; rfl
    · rw [Bool.not_eq_false'] at hb
      have hl : ds.length ≤ 5 := by
        rw [Bool.and_eq_true, decide_eq_true_eq, decide_eq_true_eq] at hb
        omega
      refine q_next (s_ret ?_)
      refine r_is (r_all (bs := ds.zipIdx.map fun p => isHeardRow p.1 p.2 ds.length) (r_cons (r_ls (Run.weak (r_lcP (xs := ds.zipIdx) (f := fun _ => true) (R1 := fun p => Dt K (nI p.2)) (R2 := fun p => Dt K p.1) (Re := fun p => Dt K (.bool (isHeardRow p.1 p.2 ds.length)))
        (i_enumRows (f := fun x => x) (xs := ds) (r_is (r_var rfl h1) (by rw [List.map_id']))) (by rw [List.length_zipIdx]; omega) (fun _ _ => rfl) (fun p v1 v2 F1 e hx q1 q2 => t_yes) fun p v1 v2 F1 e hx q1 q2 _ => ?_) fun v F1 e hv => ?_)) r_nil)) ?_
      · have h1' := dp_up e h1
        have hm : p.1 ∈ ds := by
          have := List.mem_zipIdx_iff_getElem?.mp hx
          exact List.mem_of_getElem? this
        refine r_call (p.1, p.2, ds.length) (hp' _ hm) (r_cons (by walk_at "rr") (r_cons (by walk_at "rr") (r_cons (r_lnTD (by walk_at "rr")) r_nil)))
      · rw [List.map_map]
        rwa [List.filter_eq_self.mpr fun _ _ => rfl] at hv
      · rw [isHeard, hb, Bool.true_and, List.all_map]; rfl
  | _ =>
    refine q_if (b := true) (t_is (t_or (b := false) (t_not (t_B (r_isiD (b := false) (by walk_at "rr") (by dsimp only [tyName]; decide +kernel)))) fun h => nomatch h) rfl) (fun _ => ?_) fun h => nomatch h
    exact q_ret r_bl
/-! ### the class -/
noncomputable abbrev spWebInit (C : Addr) (K : PySem.W.Frag) : Sp := SpI C (γ := Rows) Ok (fun rs => [Dt K (dRows rs)]) (fun rs => webP C K rs)
theorem few_rows {rs : Rows} (ok : Ok rs) : fewIn (dRows rs) := by
  intro x hx
  obtain ⟨r, hr, rfl⟩ := List.mem_map.mp hx
  show (r.map nI).length ≤ 60
  rw [List.length_map]
  have := nodup_len _ _ (asc_nodup (ok.asc r hr)) (ok.lt r hr)
  have := ok.le
  omega
-- Web.__init__: 0:self 1:heard 2:house 3:row 4:other
abbrev s_Webu__initu_ : Stmt := inClass (topS 17) 1
abbrev N_Webu__initu_ : List Str := ["self", "heard", "house", "row", "other"]
theorem sc_Webu__initu_ : FnScope N_Webu__initu_ ["self", "heard"] (defScope s_Webu__initu_) := ⟨rfl, rfl, rfl, by decide +kernel, rfl, by decide +kernel, by decide +kernel⟩
theorem ok_web_init {f C_Web : Addr} {fd : FuncData} (B : Bf mg) (W : WebK K C_Web) (c_is_heard : Gf P w K mg base 5 "is_heard" (spIsHeard K)) (c_houses_from : Gf P w K mg base 1 "houses_from" (spHousesFrom K)) (F : Fun K "__init__" "Web.__init__" s_Webu__initu_ f fd) :
    FnOk P w K mg base CX0 6 f fd ["self", "heard"] (spWebInit C_Web K) := by
  refine init_ok F sc_Webu__initu_ (fun _ => rfl) fun cdv A outer s H E rs a dx vs F0 hr ok hv => ?_
  obtain ⟨v, rfl, h1⟩ := each1 hv
  refine ⟨_, (pss_cons (ps_if (pt_not (pt_val (p_call c_is_heard hr (by decide) (pa_cons (pv 1) pa_nil))))
        (pss_one ps_never)
        pss_nil)
      (pss_cons (ps_sl (pv 0) (pv 1))
      (pss_cons (ps_sl (pv 0) (p_len B (pa_cons (pv 1) pa_nil)))
      (pss_cons (ps_sl (pv 0) (p_tuple B (pa_cons (pe_lc (own := [("house", 2)]) (g := gName 2) (tt := tYes) rfl sc_Webu__initu_.nd (pi_range1 (by rfl) B.range (pa_cons (p_len B (pa_cons (pv 1) pa_nil)) pa_nil)) (blkOk_by (N := N_Webu__initu_) (sc := defScope s_Webu__initu_) (by decide +kernel)) (fun _ _ _ _ _ => (pg_name (i := 2) sc_Webu__initu_.nd rfl (by first | exact Or.inl rfl | exact Or.inr rfl))) (fun _ _ _ _ _ => pts_nil) (fun _ _ _ _ _ => by exact (p_call c_houses_from hr (by decide) (pa_cons (pv 1) (pa_cons (pv 2) pa_nil))))) pa_nil)))
      (pss_cons (ps_sl (pv 0) (p_tuple B (pa_cons (pe_lc (own := [("house", 2), ("row", 3)]) (g := gTup K 2 (gCons (gName 2) (gCons (gName 3) gNil))) rfl sc_Webu__initu_.nd (pi_enumT (by rfl) B.enumerate (pa_cons (pe_sl (pv 0)) pa_nil)) (blkOk_by (N := N_Webu__initu_) (sc := defScope s_Webu__initu_) (by decide +kernel)) (fun _ _ _ _ _ => (pg_tup rfl (pgs_cons (pg_name (i := 2) sc_Webu__initu_.nd rfl (by first | exact Or.inl rfl | exact Or.inr rfl)) (pgs_cons (pg_name (i := 3) sc_Webu__initu_.nd rfl (by first | exact Or.inl rfl | exact Or.inr rfl)) pgs_nil)))) (fun _ _ _ _ _ => (pts_one (pt_cmpR op_eq (p_lenK K B (pa_cons (pv 3) pa_nil)) (p_lenK K B (pa_cons (pv 1) pa_nil)) (nomark _)))) (fun _ _ _ _ _ => by exact (pv 2))) pa_nil)))
      (pss_one (ps_sl (pv 0) (p_tuple B (pa_cons (pe_lc2 (own := [("house", 2), ("row", 3), ("other", 4)]) (vs1 := [4]) (g := gTup K 2 (gCons (gName 2) (gCons (gName 3) gNil))) (g1 := gName 4) (tt := tYes) (tt1 := tYes) rfl sc_Webu__initu_.nd (pi_enumT (by rfl) B.enumerate (pa_cons (pv 1) pa_nil)) (blkOk_by (N := N_Webu__initu_) (sc := defScope s_Webu__initu_) (by decide +kernel)) (by decide) (fun _ _ _ _ _ => (pg_tup rfl (pgs_cons (pg_name (i := 2) sc_Webu__initu_.nd rfl (by first | exact Or.inl rfl | exact Or.inr rfl)) (pgs_cons (pg_name (i := 3) sc_Webu__initu_.nd rfl (by first | exact Or.inl rfl | exact Or.inr rfl)) pgs_nil)))) (fun _ _ _ _ _ => pts_nil) (fun _ _ _ _ _ => by exact (pi_tupK K (pv 3))) (fun _ _ _ _ _ => (pg_name (i := 4) sc_Webu__initu_.nd rfl (by first | exact Or.inl rfl | exact Or.inr rfl))) (fun _ _ _ _ _ => pts_nil) (fun _ _ _ _ _ => by exact (pe_tup (pa_cons (pv 2) (pa_cons (pv 4) pa_nil))))) pa_nil))))))))), ?_⟩
  have hl := ok.le
  refine q_if (t_not (t_B (r_call (dRows rs) (few_rows ok) (by walk_at "rr")))) (fun h => ?_) fun _ => q_next ?_
  · rw [isHeard_rows ok] at h; cases h
  refine q_slset (R := Dt K (dRows rs)) W.heard .new (r_varE rfl) (by walk_at "rr") fun x1 F1 e1 g1 => ?_
  refine q_slset W.size (.old _) (r_varE rfl) (r_lnN (r_cons (r_var rfl (dp_up e1 h1)) r_nil)) fun x2 F2 e2 g2 => ?_
  have a1 := e1.trans e2
  refine q_slset W.reached (.old _) (r_varE rfl) (R := Dt K (dRows (reachs rs))) (r_is (r_tupLn (xs := List.range rs.length) (f := fun i => dRow (reachL rs i)) (r_lcN (xs := List.range rs.length) (Ri := fun i => Dt K (nI i)) (Re := fun i => Dt K (dRow (reachL rs i))) (i_rangeN (r_lnN (r_cons (r_var rfl (dp_up a1 h1)) r_nil)) (by omega)) (by rw [List.length_range]; omega) (fun _ => rfl) fun i u G1 e hi hu => ?_)) reachs_data) fun x3 F3 e3 g3 => ?_
  · have h1' := dp_up (a1.trans e) h1
    exact r_call (rs, i) ⟨ok, List.mem_range.mp hi⟩ (by walk_at "rr")
  have a2 := a1.trans e3
  refine q_slset W.roots (.old _) (r_varE rfl) (R := Dt K (dRow (rootsN rs))) (r_is (r_tupLn (α := List Nat × Nat) (xs := (reachs rs).zipIdx.filter fun p => decide (p.1.length = rs.length)) (f := fun p => nI p.2) (r_lcP (ι := List Nat × Nat) (xs := (reachs rs).zipIdx) (f := fun p => decide (p.1.length = rs.length)) (R1 := fun p => Dt K (nI p.2)) (R2 := fun p => Dt K (dRow p.1)) (Re := fun p => Dt K (nI p.2))
    (i_enumRows (r_sown W.reached (r_varE rfl) List.mem_cons_self (List.mem_cons_of_mem _ List.mem_cons_self) (putS_get _ _ _) g3)) (by rw [List.length_zipIdx, reachs_len]; omega) (fun _ _ => rfl) (fun p v1 v2 G1 e hx q1 q2 => ?_) fun p v1 v2 G1 e hx q1 q2 _ => by walk_at "rr")) roots_data) fun x4 F4 e4 g4 => ?_
  · have h1' := dp_up (a2.trans e) h1
    exact t_test (r_eqN (r_lnN (by walk_at "rr")) (r_lnN (by walk_at "rr")))
  have a3 := a2.trans e4
  refine s_slset W.pairs (.old _) (r_varE rfl) (R := Dt K (.tuple ((pairsN rs).map dPair))) (r_is (r_tupLn (α := (List Nat × Nat) × Nat) (xs := flat (fun p : List Nat × Nat => p.1) rs.zipIdx) (f := fun q => dPair (q.1.2, q.2)) (r_lc2 (ι := List Nat × Nat) (κ := Nat) (xs := rs.zipIdx) (ys := fun p => p.1) (Ri := fun p => Tp K [Dt K (nI p.2), Dt K (dRow p.1)]) (Rj := fun p y => Dt K (nI y)) (Re := fun p y => Dt K (dPair (p.2, y)))
    (i_enumRows (r_var rfl (dp_up a3 h1))) (flat_len ok) fun p u G1 e hx hu => rg_pair hu fun v1 v2 G2 e2 q1 q2 => ⟨rfl, i_tupN (r_var rfl q2), fun y u2 G3 e3 hy q3 => rg_name fun G4 e4 => ⟨rfl, ?_⟩⟩)) (congrArg PyData.tuple pairs_flat)) fun x5 F5 e5 g5 => ?_
  · have q1' := dp_up (e3.trans e4) q1
    have q3' := dp_up e4 q3
    exact r_tpD (xs := [p.2, y]) (f := nI) (r_tup (Rs := [Dt K (nI p.2), Dt K (nI y)]) (by walk_at "rr") (by show 2 ≤ 100000; decide))
  · refine ⟨_, _, rfl, fun G e o1 o2 => ⟨ok, a, dx, _, [x1, x2, x3, x4, x5], rfl, o1, o2, ((((got_nil.put (by decide)).put (by decide)).put (by decide)).put (by decide)).put (by decide), ?_⟩⟩
    exact ⟨dp_up ((((e2.trans e3).trans e4).trans e5).trans e) g1, dp_up (((e3.trans e4).trans e5).trans e) g2, dp_up ((e4.trans e5).trans e) g3, dp_up (e5.trans e) g4, dp_up e g5, True.intro⟩
end
end Wb

namespace Rs
open PySem PySem.Spec PyProof.Rows L2 SlX StX Ma
variable [Rs.Tabz]
section
variable {K : PySem.W.Frag} {w : World} {σ : L2.St} {F : Hp} {L : Cells} {te ta tb : TE} {t : TA} {C : Addr} {rs qs : Rows}
theorem cI_data {ns : List Nat} : (ns.map nI) = (cI ns).map PyData.int := row_int
theorem r_sortedN {ns os : List Nat} (h : Run (te σ) F L (Dt K (.list (ns.map nI)))) (hl : ns.length < 64) (h1 : os.Perm ns) (h2 : Asc os) : Run (tCB (rSorted K) (tCons te tNil) σ) F L (Dt K (.list (os.map nI))) := by
  rw [cI_data] at h ⊢
  refine r_sortedI (r_cons h r_nil) (fun v F1 hv => ?_) (by rw [List.length_map]; exact hl) (cI os) (h1.map _) ((asc_cI h2).imp fun x => Int.le_of_lt x)
  obtain ⟨a, vs, rfl, hs, hr⟩ := ls_dt.mpr hv
  have := vs_ints (each_dt.mp hr)
  subst this
  exact ⟨a, rfl, hs⟩
theorem r_isiS {S : VP} (W : WebK K C) [Mono S] (hS : ∀ v F1, S v F1 → IsOb C v F1) (h : Run (t σ) F L (Each [S, Eqv (.ref C)])) : Run (tCB (fun xs H Q => rIsi K xs H Q ∨ rIsiSl K (.ref C) xs H Q) t σ) F L (Dt K (.bool true)) := r_cb h fun vs F1 e1 hv => by
  obtain ⟨v, u, rfl, h1, h2⟩ := each2 hv
  cases h2
  obtain ⟨a, dx, vs, rfl, q1, q2⟩ := hS _ _ h1
  exact fun F2 N H e2 A Q q => .inr ⟨a, C, dx, vs, .ref C, true, rfl, rfl, fun w hw => hw, at_slt A (e2 _ _ q1) (e2 _ _ q2), W.sc, W.si, W.kit, q _ F2 H (Same.refl _) A (.bl true)⟩
theorem eqv_row {a b : List Nat} : PyData.eqv (dRow a) (dRow b) = decide (a = b) := by
  rw [dRow_int, dRow_int, eqv_tupI]
  exact decide_eq_decide.mpr cI_inj
theorem eqv_rows : PyData.eqv (dRows rs) (dRows qs) = decide (rs = qs) := by
  rw [PyData.eqv]; exact eqvAll_of fun a b => eqv_row
theorem lay_row {a : List Nat} : (dRow a).canLay0 = true := by rw [dRow_int, PyData.canLay0]; exact lay_ints
theorem dep_row {a : List Nat} : (dRow a).depth ≤ 1 := by rw [dRow_int, PyData.depth, dep_ints]; decide
theorem sh_rows : SeqAt.shaped (dRows rs) = true := shaped_of (by rw [PyData.canLay0]; exact lay_all fun a => lay_row) (by rw [PyData.depth]; have := dep_all (f := dRow) (k := 1) (fun a => dep_row) (xs := rs); omega)
end
end Rs
namespace Wb
open PySem PySem.Spec PyProof.Rows L2 SlX StX Rs Ma
variable [Rs.Tabz]
local macro_rules | `(tactic| walk_at "rr") => `(tactic| (first
  | exact r_nil | exact r_int | exact r_bl | exact r_str
  | (refine r_var rfl ?_; assumption)
  | exact r_c rfl
  | (refine r_cons ?_ ?_ <;> walk_at "rr")))
section
variable {P : Program} {w : World} {K : PySem.W.Frag} {mg : Str → Option Value} {base : Heap} {C_Web : Addr}
noncomputable abbrev spHeardBy (C_Web : Addr) (K : PySem.W.Frag) : Sp := SpF (γ := Rows × Nat) (fun g => g.2 < g.1.length) (fun g => [webP C_Web K g.1, Dt K (nI g.2)]) (fun g => Dt K (dRow (hbL g.1 g.2)))
-- heard_by: 0:web 1:house
abbrev s_heard_by : Stmt := topS 18
abbrev N_heard_by : List Str := ["web", "house"]
theorem sc_heard_by : FnScope N_heard_by ["web", "house"] (defScope s_heard_by) := ⟨rfl, rfl, rfl, by decide +kernel, rfl, by decide +kernel, by decide +kernel⟩
theorem ok_heard_by {f : Addr} {fd : FuncData} (B : Bf mg) (W : WebK K C_Web) (F : Fun K "heard_by" "heard_by" s_heard_by f fd) (hm : mg "heard_by" = some (.ref f)) (b : Binds K fd ["web", "house"] []) : Gf P w K mg base 1 "heard_by" (spHeardBy C_Web K) := by
  refine gf_mk F hm b sc_heard_by (fun _ => rfl) fun cdv A outer s H E ⟨rs, h⟩ vs F0 hr hp hv => ?_
  obtain ⟨v, v1, rfl, h1, h2⟩ := each2 hv
  refine ⟨_, (pss_one (ps_ret (p_tuple B (pa_cons (p_sortedL B (pa_cons (pe_lst (pa_star (pe_ix ix_tup (pe_sl (pv 0)) (pv 1) (fun _ _ => rfl)) (pa_cons (pv 1) pa_nil))) pa_nil)) pa_nil)))), ?_⟩
  have hh : h < rs.length := hp
  have ok : Ok rs := h1.1
  have q := r_lst (Rs := (row rs h ++ [h]).map fun x => Dt K (nI x)) (F := F0) (L := []) (σ := start N_heard_by [v, v1]) (t := tStar K (tOp (rIxT K) (SlX.tSl K (tVar 0) "own_heard") (tVar 1)) (tCons (tVar 1) tNil)) (by
    have := r_star (K := K) (r_rowN (r_heard W (r_var (R := webP C_Web K rs) (σ := start N_heard_by [v, v1]) (i := 0) (F := F0) (L := []) rfl h1)) (r_var (i := 1) rfl h2) hh) (r_cons (r_var (i := 1) rfl h2) r_nil)
    rw [List.map_append]
    rwa [List.map_map] at this) (by
      rw [List.length_map, ← (hb_perm ok hh).length_eq]
      have := hb_len (rs := rs) (h := h)
      have := ok.le
      omega)
  refine s_ret (r_tupD (r_cons (r_sortedN (r_lnD q) ?_ (hb_perm ok hh) asc_hb) r_nil))
  rw [← (hb_perm ok hh).length_eq]
  have := hb_len (rs := rs) (h := h)
  have := ok.le
  omega
noncomputable abbrev spRequireHouse (C_Web : Addr) (K : PySem.W.Frag) : Sp := SpF (γ := Rows × Nat) (fun g => g.2 < g.1.length) (fun g => [webP C_Web K g.1, Dt K (nI g.2)]) (fun g => Dt K .none)
theorem bt_nat {h n : Nat} (hh : h < n) (hn : n ≤ 100) : isBt (nI h) 0 ((n : Int) - 1) = true := by
  have hb : (100 : Int) < 10 ^ 60 := by decide
  rw [isBt, isInt]
  simp only [Bool.and_eq_true, decide_eq_true_eq]
  omega
-- require_house: 0:web 1:house
abbrev s_require_house : Stmt := topS 19
abbrev N_require_house : List Str := ["web", "house"]
theorem sc_require_house : FnScope N_require_house ["web", "house"] (defScope s_require_house) := ⟨rfl, rfl, rfl, by decide +kernel, rfl, by decide +kernel, by decide +kernel⟩
theorem ok_require_house {f : Addr} {fd : FuncData} (W : WebK K C_Web) (c_require_number : Gf P w K mg base 3 "require_number" (spRequireNumber K)) (F : Fun K "require_house" "require_house" s_require_house f fd) (hm : mg "require_house" = some (.ref f)) (b : Binds K fd ["web", "house"] []) : Gf P w K mg base 4 "require_house" (spRequireHouse C_Web K) := by
  refine gf_mk F hm b sc_require_house (fun _ => rfl) fun cdv A outer s H E ⟨rs, h⟩ vs F0 hr hp hv => ?_
  obtain ⟨v, v1, rfl, h1, h2⟩ := each2 hv
  refine ⟨_, (pss_one (ps_expr (p_call c_require_number hr (by decide) (pa_cons (pv 1) (pa_cons pe_int (pa_cons (pe_op op_sub (pe_sl (pv 0)) pe_int) pa_nil)))))), ?_⟩
  have hh : h < rs.length := hp
  have ok : Ok rs := h1.1
  have hl := ok.le
  exact s_drop (r_call (nI h, 0, (rs.length : Int) - 1) (bt_nat hh (by omega)) (r_cons (by walk_at "rr") (r_cons r_int (r_cons (r_I0i (r_size W (by walk_at "rr")) r_int) r_nil)))) fun F1 e => .non
end
end Wb

namespace Wb
open PySem PySem.Spec PyProof.Rows L2 SlX StX Rs Ma
variable [Rs.Tabz]
local macro_rules | `(tactic| walk_at "rr") => `(tactic| (first
  | exact r_nil | exact r_int | exact r_bl | exact r_str
  | (refine r_var rfl ?_; assumption)
  | exact r_c rfl
  | (refine r_cons ?_ ?_ <;> walk_at "rr")))
section
variable {P : Program} {w : World} {K : PySem.W.Frag} {mg : Str → Option Value} {base : Heap} {C_Web : Addr}
noncomputable abbrev spProp (C_Web : Addr) (K : PySem.W.Frag) (R : Rows → VP) : Sp := SpF (γ := Rows) (fun _ => True) (fun g => [webP C_Web K g]) R
-- Web.heard: 0:self
abbrev s_Web_heard : Stmt := inClass (topS 17) 2
abbrev N_Web_heard : List Str := ["self"]
theorem sc_Web_heard : FnScope N_Web_heard ["self"] (defScope s_Web_heard) := ⟨rfl, rfl, rfl, by decide +kernel, rfl, by decide +kernel, by decide +kernel⟩
theorem ok_heard {f : Addr} {fd : FuncData} (W : WebK K C_Web) (F : Fun K "heard" "Web.heard" s_Web_heard f fd) : FnOk P w K mg base CX0 1 f fd ["self"] (spProp C_Web K fun rs => Dt K (dRows rs)) := by
  refine gf_ok F sc_Web_heard (fun _ => rfl) fun cdv A outer s H E rs vs F0 hr hp hv => ?_
  obtain ⟨v, rfl, h1⟩ := each1 hv
  exact ⟨_, (pss_one (ps_ret (pe_sl (pv 0)))), s_ret (r_heard W (by walk_at "rr"))⟩
-- Web.size: 0:self
abbrev s_Web_size : Stmt := inClass (topS 17) 3
abbrev N_Web_size : List Str := ["self"]
theorem sc_Web_size : FnScope N_Web_size ["self"] (defScope s_Web_size) := ⟨rfl, rfl, rfl, by decide +kernel, rfl, by decide +kernel, by decide +kernel⟩
theorem ok_size {f : Addr} {fd : FuncData} (W : WebK K C_Web) (F : Fun K "size" "Web.size" s_Web_size f fd) : FnOk P w K mg base CX0 1 f fd ["self"] (spProp C_Web K fun rs => Dt K (nI rs.length)) := by
  refine gf_ok F sc_Web_size (fun _ => rfl) fun cdv A outer s H E rs vs F0 hr hp hv => ?_
  obtain ⟨v, rfl, h1⟩ := each1 hv
  exact ⟨_, (pss_one (ps_ret (pe_sl (pv 0)))), s_ret (r_size W (by walk_at "rr"))⟩
-- Web.roots: 0:self
abbrev s_Web_roots : Stmt := inClass (topS 17) 4
abbrev N_Web_roots : List Str := ["self"]
theorem sc_Web_roots : FnScope N_Web_roots ["self"] (defScope s_Web_roots) := ⟨rfl, rfl, rfl, by decide +kernel, rfl, by decide +kernel, by decide +kernel⟩
theorem ok_roots {f : Addr} {fd : FuncData} (W : WebK K C_Web) (F : Fun K "roots" "Web.roots" s_Web_roots f fd) : FnOk P w K mg base CX0 1 f fd ["self"] (spProp C_Web K fun rs => Dt K (dRow (rootsN rs))) := by
  refine gf_ok F sc_Web_roots (fun _ => rfl) fun cdv A outer s H E rs vs F0 hr hp hv => ?_
  obtain ⟨v, rfl, h1⟩ := each1 hv
  exact ⟨_, (pss_one (ps_ret (pe_sl (pv 0)))), s_ret (r_roots W (by walk_at "rr"))⟩
noncomputable abbrev spHears (C_Web : Addr) (K : PySem.W.Frag) : Sp := SpF (γ := Rows × Nat) (fun g => g.2 < g.1.length) (fun g => [webP C_Web K g.1, Dt K (nI g.2)]) (fun g => Dt K (dRow (hbL g.1 g.2)))
-- Web.hears: 0:self 1:house
abbrev s_Web_hears : Stmt := inClass (topS 17) 6
abbrev N_Web_hears : List Str := ["self", "house"]
theorem sc_Web_hears : FnScope N_Web_hears ["self", "house"] (defScope s_Web_hears) := ⟨rfl, rfl, rfl, by decide +kernel, rfl, by decide +kernel, by decide +kernel⟩
theorem ok_hears {f : Addr} {fd : FuncData} (c_require_house : Gf P w K mg base 4 "require_house" (spRequireHouse C_Web K)) (c_heard_by : Gf P w K mg base 1 "heard_by" (spHeardBy C_Web K)) (F : Fun K "hears" "Web.hears" s_Web_hears f fd) : FnOk P w K mg base CX0 5 f fd ["self", "house"] (spHears C_Web K) := by
  refine gf_ok F sc_Web_hears (fun _ => rfl) fun cdv A outer s H E ⟨rs, h⟩ vs F0 hr hp hv => ?_
  obtain ⟨v, v1, rfl, h1, h2⟩ := each2 hv
  refine ⟨_, (pss_cons (ps_expr (p_call c_require_house hr (by decide) (pa_cons (pv 0) (pa_cons (pv 1) pa_nil))))
      (pss_one (ps_ret (p_call c_heard_by hr (by decide) (pa_cons (pv 0) (pa_cons (pv 1) pa_nil)))))), ?_⟩
  refine q_drop (r_call (rs, h) hp (by walk_at "rr")) fun F1 e1 => ?_
  have h1' := Mono.go h1 e1
  have h2' := Mono.go h2 e1
  exact s_ret (r_call (rs, h) hp (by walk_at "rr"))
noncomputable abbrev spEq (C_Web : Addr) (K : PySem.W.Frag) : Sp := SpF (γ := Rows × Rows) (fun _ => True) (fun g => [webP C_Web K g.1, webP C_Web K g.2]) (fun g => Dt K (.bool (decide (g.1 = g.2))))
-- Web.__eq__: 0:self 1:other
abbrev s_Webu__equ_ : Stmt := inClass (topS 17) 17
abbrev N_Webu__equ_ : List Str := ["self", "other"]
theorem sc_Webu__equ_ : FnScope N_Webu__equ_ ["self", "other"] (defScope s_Webu__equ_) := ⟨rfl, rfl, rfl, by decide +kernel, rfl, by decide +kernel, by decide +kernel⟩
theorem ok_eq {f : Addr} {fd : FuncData} (B : Bf mg) (W : WebK K C_Web) (m_Web : mg "Web" = some (.ref C_Web)) (F : Fun K "__eq__" "Web.__eq__" s_Webu__equ_ f fd) : FnOk P w K mg base CX0 1 f fd ["self", "other"] (spEq C_Web K) := by
  refine gf_ok F sc_Webu__equ_ (fun _ => rfl) fun cdv A outer s H E ⟨rs, qs⟩ vs F0 hr hp hv => ?_
  obtain ⟨v, v1, rfl, h1, h2⟩ := each2 hv
  refine ⟨_, (pss_one (ps_ret (pe_and (p_isiS (.ref C_Web) B (pa_cons (pv 1) (pa_cons (p_cls (by rfl) m_Web) pa_nil))) (pe_one (pe_cmpR (op_eqD hr.units) (pe_sl (pv 0)) (pe_sl (pv 1)) (nomark _)))))), ?_⟩
  exact s_ret (r_and (a := true) (b := decide (rs = qs)) (r_isiS W (fun _ _ => webP.is) (r_cons (r_var rfl h2) (r_cons (r_c rfl) r_nil))) fun _ => r_is (r_eqD (r_heard W (by walk_at "rr")) (r_heard W (by walk_at "rr")) sh_rows sh_rows) (by rw [eqv_rows]))
end
end Wb

namespace Wb
open PySem PySem.Spec PyProof.Rows L2 SlX StX Rs Ma
variable [Rs.Tabz]
local macro_rules | `(tactic| walk_at "rr") => `(tactic| (first
  | exact r_nil | exact r_int | exact r_bl | exact r_str
  | (refine r_var rfl ?_; assumption)
  | exact r_c rfl
  | (refine r_cons ?_ ?_ <;> walk_at "rr")))
section
variable {P : Program} {w : World} {K : PySem.W.Frag} {mg : Str → Option Value} {base : Heap} {C_Web : Addr}
/-! ### the cask -/
abbrev spCask (K : PySem.W.Frag) : Sp := SpF (γ := List Int × Nat) (fun g => g.1.length ≤ 63) (fun g => [Dt K (.list (g.1.map .int)), Dt K (nI g.2)]) (fun _ => Ck 3)
-- _law_cask: 0:_law_script 1:_law_at 2:_law_cell 3:_law_great 4:_law_seed
abbrev s__law_cask : Stmt := topS 28
abbrev N__law_cask : List Str := ["_law_script", "_law_at", "_law_cell", "_law_great", "_law_seed"]
theorem sc__law_cask : FnScope N__law_cask ["_law_script", "_law_at"] (defScope s__law_cask) := ⟨rfl, rfl, rfl, by decide +kernel, rfl, by decide +kernel, by decide +kernel⟩
theorem ok_cask {f : Addr} {fd : FuncData} (B : Bf mg) (F : Fun K "_law_cask" "_law_cask" s__law_cask f fd) (hm : mg "_law_cask" = some (.ref f)) (b : Binds K fd ["_law_script", "_law_at"] []) : Gf P w K mg base 1 "_law_cask" (spCask K) := by
  refine ⟨f, fd, _, ck_new F sc__law_cask (fun _ => rfl) fun cdv A outer s H E ⟨ns, at_⟩ vs F0 hr hp hv => ?_, hm, F.kp, b⟩
  obtain ⟨v, v1, rfl, h1, h2⟩ := each2 hv
  have h1 : Dt K (.list (ns.map .int)) v F0 := h1
  refine ⟨_, (pss_cons (ps_set (i := 2) sc__law_cask.nd rfl (by first | exact Or.inl rfl | exact Or.inr rfl) (pe_ifExp (pt_cmpR op_lt (pv 1) (p_len B (pa_cons (pv 0) pa_nil)) (nomark _)) (pe_ix ix_list (pv 0) (pv 1) (fun _ _ => rfl)) (pe_op op_add (pe_op op_mul pe_int (pv 1)) pe_int)))
      (pss_cons (ps_set (i := 3) sc__law_cask.nd rfl (by first | exact Or.inl rfl | exact Or.inr rfl) (pe_op op_mod (p_int B (pa_cons (p_abs B (pa_cons (pv 2) pa_nil)) pa_nil)) (pe_op Nq.op_powX (pe_op Nq.op_powX pe_int pe_int) pe_int)))
      (pss_cons (ps_set (i := 4) sc__law_cask.nd rfl (by first | exact Or.inl rfl | exact Or.inr rfl) (pe_op op_mod (p_int B (pa_cons (pe_op op_add (pe_op op_add (pe_op op_add (pv 3) (pe_op op_mul pe_int (pv 1))) (pe_op op_mul pe_int (p_int B (pa_cons (pe_cmpR op_lt (pv 2) pe_int (nomark _)) pa_nil)))) pe_int) pa_nil)) (pe_op op_add (pe_op Nq.op_powX pe_int pe_int) pe_int)))
      (pss_one (ps_ret (pe_lst (pa_cons (pe_ifExp (pt_cmpR op_gt (pv 3) (pe_op Nq.op_powX pe_int pe_int) (nomark _)) (pe_op op_sub (pv 3) (pe_op Nq.op_powX pe_int pe_int)) pe_int) (pa_cons (pv 4) (pa_cons pe_int pa_nil))))))))), ?_⟩
  refine q_set (R := IntV) (r_if (b := decide (at_ < ns.length)) (t_is (t_test (r_I0b (by walk_at "rr") (r_is (r_lnLD (r_var rfl h1)) (by rw [List.length_map])))) (decide_eq_decide.mpr (by omega))) (fun hb => ?_) fun _ => a_op0 (a_mulL (r_int (K := K)) (r_any (by walk_at "rr")) ⟨by decide, by decide⟩) r_anyI) fun x2 F2 e2 h3 => ?_
  · rw [decide_eq_true_eq] at hb
    exact r_any (r_ixL (d := .int ns[at_]) (by walk_at "rr") (by walk_at "rr") (by rw [List.getElem?_map, List.getElem?_eq_getElem hb]; rfl))
  refine q_set (R := IntV) (a_modI (m := (10 ^ 60) ^ 8) (a_int (r_cons (a_abs (r_cons (r_var rfl h3) r_nil)) r_nil)) (r_Ii (f := fun i j => i ^ j.toNat) (r_Ii (f := fun i j => i ^ j.toNat) (r_int (K := K)) (r_int (K := K)) ⟨by decide, by decide +kernel⟩) (r_int (K := K)) ⟨by decide, by decide +kernel⟩) (by decide +kernel)) fun x3 F3 e3 h4 => ?_
  have h3' := Mono.go h3 e3
  refine q_set (R := IntV) (a_modI (m := 10 ^ 18 + 9) (a_int (r_cons (a_op0 (a_op0 (a_op0 (r_var rfl h4) (a_mulL (r_int (K := K)) (r_any (r_var (R := Dt K (nI at_)) rfl (dp_up (e2.trans e3) h2))) ⟨by decide, by decide⟩)) (a_mulL (r_int (K := K)) (a_intB (r_cons (a_cmp (r_var rfl h3') r_anyI) r_nil)) ⟨by decide, by decide⟩)) r_anyI) r_nil)) (r_I0i (r_Ii (f := fun i j => i ^ j.toNat) (r_int (K := K)) (r_int (K := K)) ⟨by decide, by decide +kernel⟩) (r_int (K := K))) (by decide +kernel)) fun x4 F4 e4 h5 => ?_
  have h4' := Mono.go h4 e4
  refine s_ret ((r_lstN (Rs := [IntV, IntV, IntV]) (r_cons (a_if (a_test (a_cmp (r_var rfl h4') (r_any (r_Ii (f := fun i j => i ^ j.toNat) (r_int (K := K)) (r_int (K := K)) ⟨by decide, by decide +kernel⟩)))) (a_op0 (r_var rfl h4') (r_any (r_Ii (f := fun i j => i ^ j.toNat) (r_int (K := K)) (r_int (K := K)) ⟨by decide, by decide +kernel⟩))) r_anyI) (r_cons (r_var rfl h5) (r_cons r_anyI r_nil))) (by show 3 ≤ 100000; decide)).weak fun v F5 e5 ⟨a, vs, q1, q2, q3, q4⟩ => ?_)
  obtain ⟨y1, y2, y3, rfl, ⟨i1, rfl⟩, ⟨i2, rfl⟩, ⟨i3, rfl⟩⟩ := each3 q3
  exact ⟨a, [i1, i2, i3], q1, q2, rfl, ((e2.trans e3).trans e4).free q4⟩
-- _law_scoop: 0:_law_cask_here 1:_law_total 2:_law_found 3:_law_one 4:_law_two 5:_law_three
abbrev s__law_scoop : Stmt := topS 29
abbrev N__law_scoop : List Str := ["_law_cask_here", "_law_total", "_law_found", "_law_one", "_law_two", "_law_three"]
theorem sc__law_scoop : FnScope N__law_scoop ["_law_cask_here", "_law_total"] (defScope s__law_scoop) := ⟨rfl, rfl, rfl, by decide +kernel, rfl, by decide +kernel, by decide +kernel⟩
theorem ok_scoop {f : Addr} {fd : FuncData} (B : Bf mg) (F : Fun K "_law_scoop" "_law_scoop" s__law_scoop f fd) (hm : mg "_law_scoop" = some (.ref f)) (b : Binds K fd ["_law_cask_here", "_law_total"] []) : Gf P w K mg base 1 "_law_scoop" (SpF (γ := Nat) (fun t => 1 ≤ t ∧ t ≤ 1000) (fun t => [Ck 3, Dt K (nI t)]) Bd) := by
  refine ⟨f, fd, _, ck_fn (Rs := fun t => [Dt K (nI t)]) (by decide) (fun g v F F' h => h) (fun g vs F F' h => ?_) (cell_ok F sc__law_scoop (fun _ => rfl) fun cdv A outer s H E t a xs vs F0 hr ⟨hp1, hp2⟩ hx hv => ?_) (fun _ => rfl), hm, F.kp, b⟩
  · obtain ⟨v, rfl, hv⟩ := each1 h
    cases hv
    exact ⟨.int _, True.intro⟩
  obtain ⟨v1, rfl, h2⟩ := each1 hv
  cases h2
  have h2 : ∀ F, Dt K (nI t) (.int (t : Int)) F := fun F => .int _
  obtain ⟨x, y, z, rfl⟩ : ∃ x y z, xs = [x, y, z] := by
    match xs, hx with
    | [x, y, z], _ => exact ⟨x, y, z, rfl⟩
  refine ⟨_, (pss_cons (ps_if (pt_cmpR op_gt (pe_ix ix_list (pv 0) pe_int (fun _ _ => rfl)) pe_int (nomark _))
        (pss_cons (ps_set (i := 2) sc__law_scoop.nd rfl (by first | exact Or.inl rfl | exact Or.inr rfl) (pe_op op_mod (p_int B (pa_cons (pe_ix ix_list (pv 0) pe_int (fun _ _ => rfl)) pa_nil)) (pv 1)))
        (pss_cons (ps_asg (pe_op op_fdivW (pe_ix ix_list (pv 0) pe_int (fun _ _ => rfl)) (pv 1)) (pg_sub (pv 0) pe_int set_list))
        (pss_one (ps_ret (pv 2)))))
        pss_nil)
      (pss_cons (ps_asg (pe_op op_add (pe_ix ix_list (pv 0) pe_int (fun _ _ => rfl)) pe_int) (pg_sub (pv 0) pe_int set_list))
      (pss_cons (ps_set (i := 3) sc__law_scoop.nd rfl (by first | exact Or.inl rfl | exact Or.inr rfl) (pe_op op_mod (p_int B (pa_cons (pe_op op_add (pe_ix ix_list (pv 0) pe_int (fun _ _ => rfl)) (pe_op op_mul pe_int (pe_ix ix_list (pv 0) pe_int (fun _ _ => rfl)))) pa_nil)) pe_int))
      (pss_cons (ps_set (i := 4) sc__law_scoop.nd rfl (by first | exact Or.inl rfl | exact Or.inr rfl) (pe_op op_mod (p_int B (pa_cons (pe_op op_add (pe_op op_add (pe_op op_mul (pv 3) (pv 3)) (pe_op op_fdivW (pe_ix ix_list (pv 0) pe_int (fun _ _ => rfl)) pe_int)) (pe_op op_mul pe_int (pe_ix ix_list (pv 0) pe_int (fun _ _ => rfl)))) pa_nil)) pe_int))
      (pss_cons (ps_set (i := 5) sc__law_scoop.nd rfl (by first | exact Or.inl rfl | exact Or.inr rfl) (pe_op op_mod (p_int B (pa_cons (pe_op op_add (pe_op op_mul (pv 4) (pv 4)) (pv 3)) pa_nil)) pe_int))
      (pss_one (ps_ret (pe_op op_mod (p_int B (pa_cons (pe_op op_fdivW (pv 5) pe_int) pa_nil)) (pv 1))))))))), ?_⟩
  refine u_if (a_test (a_cmp (r_any (r_ixI (xs := [x, y, z]) (n := 0) List.mem_cons_self (r_varE rfl) (r_int (K := K)) rfl)) r_anyI)) ?_ ?_
  · refine u_assoc (u_set (R := Bd t) (a_mod (a_int (r_cons (r_any (r_ixI (xs := [x, y, z]) (n := 0) List.mem_cons_self (r_varE rfl) (r_int (K := K)) rfl)) r_nil)) (r_var rfl (h2 _)) hp1) fun x1 F1 e1 g1 => ?_)
    refine u_assoc (u_setC (R := IntV) (a_div (r_any (r_ixI (xs := [x, y, z]) (n := 0) List.mem_cons_self (r_varE rfl) (r_int (K := K)) rfl)) (r_var rfl (h2 _)) ⟨by omega, ?_⟩) (r_varE rfl) (n := 0) (r_int (K := K)) (by show 0 < 3; decide) fun x2 F2 e2 ⟨i, g2⟩ => ?_)
    · have := Nat.log2_le_self t
      show (t : Int).natAbs.log2 < 9000
      rw [Int.natAbs_natCast]
      omega
    subst g2
    exact u_retq (R := Bd t) (r_var rfl g1) fun v F3 e3 hv => ⟨hv, [i, y, z], rfl, rfl⟩
  · refine u_next ?_
    refine u_setC (R := IntV) (a_op0 (r_any (r_ixI (xs := [x, y, z]) (n := 2) List.mem_cons_self (r_varE rfl) (r_int (K := K)) rfl)) r_anyI) (r_varE rfl) (n := 2) (r_int (K := K)) (by show 2 < 3; decide) fun x1 F1 e1 ⟨i, g1⟩ => ?_
    subst g1
    refine u_set (R := Bd 2147483587) (a_mod (m := 2147483587) (a_int (r_cons (a_op0 (r_any (r_ixI (xs := [x, y, i]) (n := 1) List.mem_cons_self (r_varE rfl) (r_int (K := K)) rfl)) (a_mulL (r_int (K := K)) (r_any (r_ixI (xs := [x, y, i]) (n := 2) List.mem_cons_self (r_varE rfl) (r_int (K := K)) rfl)) ⟨by decide, by decide⟩)) r_nil)) (r_int (K := K)) (by decide)) fun x2 F2 e2 g2 => ?_
    refine u_set (R := Bd 1000000033) (a_mod (m := 1000000033) (a_int (r_cons (a_op0 (a_op0 (a_mulB (r_var rfl g2) (r_anyB (r_var rfl g2)) (by decide)) (a_div (r_any (r_ixI (xs := [x, y, i]) (n := 1) List.mem_cons_self (r_varE rfl) (r_int (K := K)) rfl)) (r_int (K := K)) ⟨by decide, by decide +kernel⟩)) (a_mulL (r_int (K := K)) (r_any (r_ixI (xs := [x, y, i]) (n := 2) List.mem_cons_self (r_varE rfl) (r_int (K := K)) rfl)) ⟨by decide, by decide⟩)) r_nil)) (r_int (K := K)) (by decide)) fun x3 F3 e3 g3 => ?_
    have g2' := Mono.go g2 e3
    refine u_set (R := Bd 999999929) (a_mod (m := 999999929) (a_int (r_cons (a_op0 (a_mulB (r_var rfl g3) (r_anyB (r_var rfl g3)) (by decide)) (r_anyB (r_var rfl g2'))) r_nil)) (r_int (K := K)) (by decide)) fun x4 F4 e4 g4 => ?_
    exact u_ret (R := Bd t) (a_mod (a_int (r_cons (a_div (r_anyB (r_var rfl g4)) (r_int (K := K)) ⟨by decide, by decide +kernel⟩) r_nil)) (r_var rfl (h2 _)) hp1) fun v F5 e5 hv => ⟨hv, [x, y, i], rfl, rfl⟩
end
end Wb

/-! numberings -/
namespace Wb
open PySem PySem.Spec PyProof.Rows L2 SlX StX Rs Ma
variable [Rs.Tabz]
local macro_rules | `(tactic| walk_at "rr") => `(tactic| (first
  | exact r_nil | exact r_int | exact r_bl | exact r_str
  | (refine r_var rfl ?_; assumption)
  | exact r_c rfl
  | (refine r_cons ?_ ?_ <;> walk_at "rr")))
section
variable {P : Program} {w : World} {K : PySem.W.Frag} {mg : Str → Option Value} {base : Heap} {C_Web : Addr}
end
end Wb

/-! what the laws draw -/
namespace Wb
open PySem PySem.Spec PyProof.Rows L2 SlX StX Rs Ma Tw
variable [Rs.Tabz]
def spFew {α : Type} : Unit × List α × Nat → (List α → Prop) → Prop := fun g Q => g.2.1.length ≤ 900 ∧ ∀ ys zs : List α, (ys ++ zs).Perm g.2.1 → ys.length = min g.2.2 g.2.1.length → Q ys
def spAny {α : Type} : Unit × List α → (α → Prop) → Prop := fun g Q => (g.2 ≠ [] ∧ g.2.length ≤ 1000) ∧ ∀ a ∈ g.2, Q a
section
variable {P : Program} {w : World} {K : PySem.W.Frag} {mg : Str → Option Value} {base : Heap} {α : Type} {RX : α → VP} [∀ a, Mono (RX a)]
abbrev s__law_any_of : Stmt := topS 30
abbrev N__law_any_of : List Str := ["_law_cask_here", "_law_items"]
theorem sc__law_any_of : FnScope N__law_any_of ["_law_cask_here", "_law_items"] (defScope s__law_any_of) := ⟨rfl, rfl, rfl, by decide +kernel, rfl, by decide +kernel, by decide +kernel⟩
theorem ok__law_any_of {f : Addr} {fd : FuncData} (B : Bf mg) (c_law_scoop : Gf P w K mg base 1 "_law_scoop" (SpN (fun g : Unit × Nat => [(fCk 3) g.1, (fD K dN) g.2]) (fun (g : Unit × Nat) (Q : Nat → Prop) => (1 ≤ g.2 ∧ g.2 ≤ 1000) ∧ ∀ n, n < g.2 → Q n) (fD K dN))) (F : Fun K "_law_any_of" "_law_any_of" s__law_any_of f fd) (hm : mg "_law_any_of" = some (.ref f)) (b : Binds K fd ["_law_cask_here", "_law_items"] []) : Gf P w K mg base 2 "_law_any_of" (SpN (fun g : Unit × (List α) => [(fCk 3) g.1, (fLn RX) g.2]) spAny RX) := by
  refine gw_mk F hm b sc__law_any_of (fun _ => rfl) (fun _ => inferInstance) fun cdv A outer s H E g hr => ?_
  obtain ⟨v__law_cask_here, v__law_items⟩ := g
  refine ⟨_, (pss_one (ps_ret (pe_ix ix_list (pv 1) (p_call c_law_scoop hr (by decide) (pa_cons (pv 0) (pa_cons (p_len B (pa_cons (pv 1) pa_nil)) pa_nil))) (fun _ _ => rfl)))), _,
    (ts_ret (tr_op o_ixLn (tr_var (R := (fLn RX)) (a := v__law_items) rfl) (tr_call (ta_cons (tr_var (R := (fCk 3)) (a := v__law_cask_here) rfl) (ta_one (tr_cb c_lenL (ta_one (tr_var (R := (fLn RX)) (a := v__law_items) rfl)))))))), ?_⟩
  rintro Q ⟨vs0, F0, hv⟩ hs
  try delta pur
  try dsimp only [spAny] at hs hv ⊢
  obtain ⟨⟨h1, h2⟩, q⟩ := hs
  have : 1 ≤ v__law_items.length := List.length_pos_iff.mpr h1
  exact ⟨⟨this, h2⟩, fun n hn => ⟨_, List.getElem?_eq_getElem hn, q _ (List.getElem_mem hn)⟩⟩
theorem er_perm2 {α : Type} : ∀ (l : List α) (n : Nat) (x : α), l[n]? = some x → (x :: l.eraseIdx n).Perm l
  | [], n, x, h => by simp at h
  | a :: l, 0, x, h => by cases h; exact List.Perm.refl _
  | a :: l, n + 1, x, h => (List.Perm.swap _ _ _).trans ((er_perm2 l n x (by simpa using h)).cons a)
abbrev s__law_few_of : Stmt := topS 31
abbrev N__law_few_of : List Str := ["_law_cask_here", "_law_items", "_law_count", "_law_left", "_law_found", "_law_turn"]
theorem sc__law_few_of : FnScope N__law_few_of ["_law_cask_here", "_law_items", "_law_count"] (defScope s__law_few_of) := ⟨rfl, rfl, rfl, by decide +kernel, rfl, by decide +kernel, by decide +kernel⟩
theorem ok__law_few_of {f : Addr} {fd : FuncData} (B : Bf mg) (c_law_scoop : Gf P w K mg base 1 "_law_scoop" (SpN (fun g : Unit × Nat => [(fCk 3) g.1, (fD K dN) g.2]) (fun (g : Unit × Nat) (Q : Nat → Prop) => (1 ≤ g.2 ∧ g.2 ≤ 1000) ∧ ∀ n, n < g.2 → Q n) (fD K dN))) (F : Fun K "_law_few_of" "_law_few_of" s__law_few_of f fd) (hm : mg "_law_few_of" = some (.ref f)) (b : Binds K fd ["_law_cask_here", "_law_items", "_law_count"] []) : Gf P w K mg base 2 "_law_few_of" (SpN (fun g : Unit × (List α) × Nat => [(fCk 3) g.1, (fLn RX) g.2.1, (fD K dN) g.2.2]) spFew (fLn RX)) := by
  refine gw_mk F hm b sc__law_few_of (fun _ => rfl) (fun _ => inferInstance) fun cdv A outer s H E g hr => ?_
  obtain ⟨v__law_cask_here, v__law_items, v__law_count⟩ := g
  refine ⟨_, (pss_cons (ps_par (i := 3) (j := 4) rfl sc__law_few_of.nd rfl rfl (by decide) rfl rfl (pa_cons (p_list B (pa_cons (pv 1) pa_nil)) (pa_cons (pe_lst pa_nil) pa_nil)) (by rfl))
    (pss_cons (ps_for PassesOwn.never rfl (pi_range1 (by rfl) B.range (pa_cons (p_min2 rfl B (pa_cons (pv 2) (pa_cons (p_len B (pa_cons (pv 1) pa_nil)) pa_nil))) pa_nil)) (pg_name (i := 5) sc__law_few_of.nd rfl (by first | exact Or.inl rfl | exact Or.inr rfl))
      (pss_one (ps_expr (pe_bm PySem.F.plainAttrs_list PySem.F.slot_list_append PySem.F.type_list_append mt_append (pv 4) (pa_cons (pe_bm PySem.F.plainAttrs_list PySem.F.slot_list_pop PySem.F.type_list_pop mt_popAt (pv 3) (pa_cons (p_call c_law_scoop hr (by decide) (pa_cons (pv 0) (pa_cons (p_len B (pa_cons (pv 3) pa_nil)) pa_nil))) pa_nil)) pa_nil)))))
    (pss_one (ps_ret (pv 4))))), _,
    (ts_parNN (tn_listL (R := RX) (tr_var (R := (fLn RX)) (a := v__law_items) rfl)) (tn_lst (R := RX) (ta_lnil (R := RX))) rfl rfl rfl rfl (fun l1 l2 => (ts_for (S1 := (List α) × (List α)) (ρ1 := fun s3 => [some ((fCk 3) v__law_cask_here), some ((fLn RX) v__law_items), some ((fD K dN) v__law_count), none, none, none]) (κ1s := fun s3 => [.one 4 (ownL ((s3.2).map RX)), .one 3 (ownL ((s3.1).map RX))]) (l1, l2) (leV_some (leV_some (leV_some (leV_none (leV_none (leV_none leV_nil)))))) (fun _ _ _ h => h) (ti_rangeN (tr_cb c_minN (ta_cons (tr_var (R := (fD K dN)) (a := v__law_count) rfl) (ta_one (tr_cb c_lenL (ta_one (tr_var (R := (fLn RX)) (a := v__law_items) rfl))))))) (tg_name (R := (fD K dN)) 5) (fun _ => rfl)
      (fun s3 x4 => (ts_one (ts_appPop (R := RX) (xs := s3.2) (ys := s3.1) (tr_call (ta_cons (tr_var (R := (fCk 3)) (a := v__law_cask_here) rfl) (ta_one (tr_perm2 (tr_bor (i := 3) (xs := s3.1) (R := RX) (tr_cb c_lenL (ta_one (tr_var (R := (fLn RX)) (a := s3.1) rfl))) rfl rfl (fun _ _ h => h)))))) (fun n5 y6 => (ts_next ((s3.1.eraseIdx n5), (s3.2 ++ [y6])) (leV_some (leV_some (leV_some (leV_none (leV_none (leV_none leV_nil)))))) (fun _ _ _ h => h))))))
      (fun s3 => (ts_retC (R := RX) (xs := s3.2)))))), ?_⟩
  rintro Q ⟨vs0, F0, hv⟩ hs
  try delta pur
  try dsimp only [spFew] at hs hv ⊢
  obtain ⟨hl, q⟩ := hs
  refine ⟨Nat.zero_le _, by omega, forW_inv (fun i s => (s.2 ++ s.1).Perm v__law_items ∧ s.2.length = i) ⟨List.Perm.refl _, rfl⟩ (fun i x s hx ⟨h1, h2⟩ => ?_) (fun s ⟨h1, h2⟩ => ?_) fun s x P Q h ⟨h1, h2⟩ => ⟨h1, fun n hn => ?_⟩⟩
  · have hi := (List.getElem?_eq_some_iff.mp hx).1
    rw [List.length_range] at hi
    have hl2 := h1.length_eq
    rw [List.length_append] at hl2
    refine ⟨by omega, fun n hn => ⟨_, List.getElem?_eq_getElem hn, ⟨by omega, by omega⟩, ?_, by rw [List.length_append, h2]; rfl⟩⟩
    refine List.Perm.trans ?_ h1
    rw [List.append_assoc]
    exact (er_perm2 _ n _ (List.getElem?_eq_getElem hn)).append_left _
  · rw [List.length_range] at h2
    exact q s.2 s.1 h1 h2
  · obtain ⟨a, h3, h4, h5⟩ := h2 n hn
    exact ⟨a, h3, h4, h _ h5⟩
end
end Wb

/-! drawn rows -/
namespace Wb
open PySem PySem.Spec PyProof.Rows L2 SlX StX Rs Ma Tw
variable [Rs.Tabz]
theorem few_way {n : Nat} (hn : n < 5) : ∃ a : List Nat, [[0, 1, 1, 2], [1], [0, 1], [1, 2, 3, 4], [4]][n]? = some a ∧ (a ≠ [] ∧ a.length ≤ 1000) := by
  match n, hn with
  | 0, _ => exact ⟨_, rfl, by decide, by decide⟩
  | 1, _ => exact ⟨_, rfl, by decide, by decide⟩
  | 2, _ => exact ⟨_, rfl, by decide, by decide⟩
  | 3, _ => exact ⟨_, rfl, by decide, by decide⟩
  | 4, _ => exact ⟨_, rfl, by decide, by decide⟩
theorem ok_drawn {rs : Rows} {n : Nat} (h1 : 1 ≤ n) (h5 : n ≤ 5) (hl : rs.length = n) (h : ∀ (j : Nat) r, rs[j]? = some r → Asc r ∧ ∀ x ∈ r, x < n ∧ x ≠ j) : Ok rs := by
  refine ⟨by omega, by omega, fun r hr => ?_, fun r hr x hx => ?_, fun j r hj hm => ((h j r hj).2 j hm).2 rfl⟩
  · obtain ⟨j, hj⟩ := List.mem_iff_getElem?.mp hr
    exact (h j r hj).1
  · obtain ⟨j, hj⟩ := List.mem_iff_getElem?.mp hr
    rw [hl]; exact ((h j r hj).2 x hx).1
theorem sortN_asc2 {ys : List Nat} (h : ys.Nodup) : Asc (sortN ys) := by
  have h1 := sortN_asc (xs := ys)
  have h2 : (sortN ys).Nodup := sortN_perm.nodup_iff.mpr h
  exact (h1.and h2).imp fun ⟨a, b⟩ => Nat.lt_of_le_of_ne a b
section
variable {P : Program} {w : World} {K : PySem.W.Frag} {mg : Str → Option Value} {base : Heap}
abbrev s__law_rows : Stmt := topS 32
abbrev N__law_rows : List Str := ["_law_cask_here", "_law_size", "_law_way", "_law_found", "_law_house", "_law_others", "_law_one", "_law_count"]
theorem sc__law_rows : FnScope N__law_rows ["_law_cask_here", "_law_size"] (defScope s__law_rows) := ⟨rfl, rfl, rfl, by decide +kernel, rfl, by decide +kernel, by decide +kernel⟩
theorem ok__law_rows {f : Addr} {fd : FuncData} (B : Bf mg) (c_law_scoop : Gf P w K mg base 1 "_law_scoop" (SpN (fun g : Unit × Nat => [(fCk 3) g.1, (fD K dN) g.2]) (fun (g : Unit × Nat) (Q : Nat → Prop) => (1 ≤ g.2 ∧ g.2 ≤ 1000) ∧ ∀ n, n < g.2 → Q n) (fD K dN))) (c_law_any_of : Gf P w K mg base 2 "_law_any_of" (SpN (fun g : Unit × (List Nat) => [(fCk 3) g.1, (fLn (fD K dN)) g.2]) spAny (fD K dN))) (c_law_few_of : Gf P w K mg base 2 "_law_few_of" (SpN (fun g : Unit × (List Nat) × Nat => [(fCk 3) g.1, (fLn (fD K dN)) g.2.1, (fD K dN) g.2.2]) spFew (fLn (fD K dN)))) (F : Fun K "_law_rows" "_law_rows" s__law_rows f fd) (hm : mg "_law_rows" = some (.ref f)) (b : Binds K fd ["_law_cask_here", "_law_size"] []) : Gf P w K mg base 3 "_law_rows" (SpN (fun g : Unit × Nat => [(fCk 3) g.1, (fD K dN) g.2]) (fun (g : Unit × Nat) (Q : Rows → Prop) => (1 ≤ g.2 ∧ g.2 ≤ 5) ∧ ∀ rs : Rows, Ok rs → rs.length = g.2 → Q rs) (fD K (dT (dT dN)))) := by
  refine gw_mk F hm b sc__law_rows (fun _ => rfl) (fun _ => inferInstance) fun cdv A outer s H E g hr => ?_
  obtain ⟨v__law_cask_here, v__law_size⟩ := g
  refine ⟨_, (pss_cons (ps_par (i := 2) (j := 3) rfl sc__law_rows.nd rfl rfl (by decide) rfl rfl (pa_cons (p_call c_law_scoop hr (by decide) (pa_cons (pv 0) (pa_cons pe_int pa_nil))) (pa_cons (pe_lst pa_nil) pa_nil)) (by rfl))
    (pss_cons (ps_for PassesOwn.never rfl (pi_range1 (by rfl) B.range (pa_cons (pv 1) pa_nil)) (pg_name (i := 4) sc__law_rows.nd rfl (by first | exact Or.inl rfl | exact Or.inr rfl))
      (pss_cons (ps_setLc (i := 5) (own := [("_law_one", 6)]) (g := gName 6)  rfl sc__law_rows.nd rfl rfl (sw_true rfl rfl rfl (by decide +kernel)) (pi_range1 (by rfl) B.range (pa_cons (pv 1) pa_nil)) (blkOk_by (N := N__law_rows) (sc := defScope s__law_rows) (by decide +kernel)) (fun _ _ _ _ _ => (pg_name (i := 6) sc__law_rows.nd rfl (by first | exact Or.inl rfl | exact Or.inr rfl))) (fun _ _ _ _ _ => (pts_one (pt_cmpR op_ne (pv 6) (pv 4) (nomark _)))) (fun _ _ _ _ _ => by exact (pv 6)))
      (pss_cons (ps_set (i := 7) sc__law_rows.nd rfl (by first | exact Or.inl rfl | exact Or.inr rfl) (p_min2 rfl B (pa_cons (p_len B (pa_cons (pv 5) pa_nil)) (pa_cons (p_call c_law_any_of hr (by decide) (pa_cons (pv 0) (pa_cons (pe_ix ix_list (pe_lst (pa_cons (pe_lst (pa_cons pe_int (pa_cons pe_int (pa_cons pe_int (pa_cons pe_int pa_nil))))) (pa_cons (pe_lst (pa_cons pe_int pa_nil)) (pa_cons (pe_lst (pa_cons pe_int (pa_cons pe_int pa_nil))) (pa_cons (pe_lst (pa_cons pe_int (pa_cons pe_int (pa_cons pe_int (pa_cons pe_int pa_nil))))) (pa_cons (pe_lst (pa_cons pe_int pa_nil)) pa_nil)))))) (pv 2) (fun _ _ => rfl)) pa_nil))) pa_nil))))
      (pss_one (ps_expr (pe_bm PySem.F.plainAttrs_list PySem.F.slot_list_append PySem.F.type_list_append mt_append (pv 3) (pa_cons (p_tuple B (pa_cons (p_sortedL B (pa_cons (p_call c_law_few_of hr (by decide) (pa_cons (pv 0) (pa_cons (pv 5) (pa_cons (pv 7) pa_nil)))) pa_nil)) pa_nil)) pa_nil)))))))
    (pss_one (ps_ret (p_tuple B (pa_cons (pv 3) pa_nil)))))), _,
    (ts_parN (tr_call (ta_cons (tr_var (R := (fCk 3)) (a := v__law_cask_here) rfl) (ta_one (tr_nat (K := K) 5)))) (tn_lst (R := (fD K (dT dN))) (ta_lnil (R := (fD K (dT dN))))) rfl rfl rfl (fun v_1 l2 => (ts_for (S1 := (List (List Nat))) (ρ1 := fun s3 => [some ((fCk 3) v__law_cask_here), some ((fD K dN) v__law_size), some ((fD K dN) v_1), none, none, none, none, none]) (κ1s := fun s3 => [.one 3 (ownL ((s3).map (fD K (dT dN))))]) l2 (leV_some (leV_some (leV_some (leV_none (leV_none (leV_none (leV_none (leV_none leV_nil)))))))) (fun _ _ _ h => h) (ti_rangeN (tr_var (R := (fD K dN)) (a := v__law_size) rfl)) (tg_name (R := (fD K dN)) 4) (fun _ => rfl)
      (fun s3 x4 => (ts_set (R := (fLn (fD K dN))) 5 (tr_lc (vs := [6]) (Rd := (fD K dN)) (ti_rangeN (tr_var (R := (fD K dN)) (a := v__law_size) rfl)) (tg_name (R := (fD K dN)) 6) rfl rfl rfl (fun _ => rfl) (fun x5 => (tt_test (tr_op o_neN (tr_var (R := (fD K dN)) (a := x5) rfl) (tr_var (R := (fD K dN)) (a := x4) rfl)))) (fun x5 => (tr_var (R := (fD K dN)) (a := x5) rfl))) rfl (fun v_law_others_6 => (ts_set (R := (fD K dN)) 7 (tr_cb c_minN (ta_cons (tr_cb c_lenL (ta_one (tr_var (R := (fLn (fD K dN))) (a := v_law_others_6) rfl))) (ta_one (tr_call (ta_cons (tr_var (R := (fCk 3)) (a := v__law_cask_here) rfl) (ta_one (tr_op o_ixLn (tr_lst (R := (fLn (fD K dN))) (ta_lcons (R := (fLn (fD K dN))) (tr_lst (R := (fD K dN)) (ta_lcons (R := (fD K dN)) (tr_nat (K := K) 0) (ta_lcons (R := (fD K dN)) (tr_nat (K := K) 1) (ta_lcons (R := (fD K dN)) (tr_nat (K := K) 1) (ta_lcons (R := (fD K dN)) (tr_nat (K := K) 2) (ta_lnil (R := (fD K dN)))))))) (ta_lcons (R := (fLn (fD K dN))) (tr_lst (R := (fD K dN)) (ta_lcons (R := (fD K dN)) (tr_nat (K := K) 1) (ta_lnil (R := (fD K dN))))) (ta_lcons (R := (fLn (fD K dN))) (tr_lst (R := (fD K dN)) (ta_lcons (R := (fD K dN)) (tr_nat (K := K) 0) (ta_lcons (R := (fD K dN)) (tr_nat (K := K) 1) (ta_lnil (R := (fD K dN)))))) (ta_lcons (R := (fLn (fD K dN))) (tr_lst (R := (fD K dN)) (ta_lcons (R := (fD K dN)) (tr_nat (K := K) 1) (ta_lcons (R := (fD K dN)) (tr_nat (K := K) 2) (ta_lcons (R := (fD K dN)) (tr_nat (K := K) 3) (ta_lcons (R := (fD K dN)) (tr_nat (K := K) 4) (ta_lnil (R := (fD K dN)))))))) (ta_lcons (R := (fLn (fD K dN))) (tr_lst (R := (fD K dN)) (ta_lcons (R := (fD K dN)) (tr_nat (K := K) 4) (ta_lnil (R := (fD K dN))))) (ta_lnil (R := (fLn (fD K dN)))))))))) (tr_var (R := (fD K dN)) (a := v_1) rfl)))))))) rfl (fun v_law_count_7 => (ts_one (ts_app (R := (fD K (dT dN))) (xs := s3) (tr_cb c_tupDL (ta_one (tr_lnD (tr_cb c_sortedLn (ta_one (tr_call (ta_cons (tr_var (R := (fCk 3)) (a := v__law_cask_here) rfl) (ta_cons (tr_var (R := (fLn (fD K dN))) (a := v_law_others_6) rfl) (ta_one (tr_var (R := (fD K dN)) (a := v_law_count_7) rfl)))))))))) (fun y8 => (ts_next (s3 ++ [y8]) (leV_some (leV_some (leV_some (leV_none (leV_none (leV_none (leV_none (leV_none leV_nil)))))))) (fun _ _ _ h => h))))))))))
      (fun s3 => (ts_ret (tr_tpD (tr_tupC (R := (fD K (dT dN))) (xs := s3)))))))), ?_⟩
  rintro Q ⟨vs0, F0, hv⟩ hs
  try delta pur
  try dsimp only [spAny, spFew] at hs hv ⊢
  obtain ⟨⟨h1, h5⟩, q⟩ := hs
  refine ⟨⟨by decide, by decide⟩, fun n hn => ⟨Nat.zero_le _, by omega, ?_⟩⟩
  simp only [lcW_p, List.map_id']
  refine forW_inv (fun i s => s.length = i ∧ ∀ (j : Nat) r, s[j]? = some r → Asc r ∧ ∀ x ∈ r, x < v__law_size ∧ x ≠ j) ⟨rfl, fun j r h => by simp at h⟩ (fun i x s hx ⟨g1, g2⟩ => ?_) (fun s ⟨g1, g2⟩ => ?_) fun s x P Q h ⟨c1, c2, c3, c4, c5, c6, c7, c8, a, c9, c10, c11⟩ => ⟨c1, c2, c3, c4, c5, c6, c7, c8, a, c9, c10, fun b hb => ⟨(c11 b hb).1, fun ys zs d1 d2 => ?_⟩⟩
  · have hi := (List.getElem?_eq_some_iff.mp hx).1
    rw [List.length_range] at hi
    rw [List.getElem?_range hi] at hx
    cases hx
    obtain ⟨a, e1, e2⟩ := few_way hn
    have hol : ((List.range v__law_size).filter fun y => !decide (y = i)).length ≤ 5 := Nat.le_trans (List.length_filter_le _ _) (by rw [List.length_range]; exact h5)
    refine ⟨by omega, by rw [List.length_range]; omega, by decide, by decide, by decide, by decide, by decide, by decide, a, e1, e2, fun b hb => ⟨by omega, fun ys zs hp hl => ⟨?_, by omega, by rw [List.length_append, g1]; rfl, fun j r hj => ?_⟩⟩⟩
    · have := hp.length_eq
      rw [List.length_append] at this
      omega
    · rcases Nat.lt_or_ge j s.length with hjs | hjs
      · rw [List.getElem?_append_left hjs] at hj
        exact g2 j r hj
      · rw [List.getElem?_append_right hjs] at hj
        have hj0 : j - s.length = 0 := by
          have := (List.getElem?_eq_some_iff.mp hj).1
          rw [List.length_singleton] at this
          omega
        rw [hj0] at hj
        cases hj
        have hji : j = i := by omega
        subst hji
        have nd : (ys ++ zs).Nodup := hp.nodup_iff.mpr (List.nodup_range.filter _)
        refine ⟨sortN_asc2 (List.nodup_append.mp nd).1, fun x hx => ?_⟩
        have hm : x ∈ (List.range v__law_size).filter fun y => !decide (y = j) := hp.mem_iff.mp (List.mem_append_left _ (sortN_perm.mem_iff.mp hx))
        rw [List.mem_filter, List.mem_range] at hm
        exact ⟨hm.1, by simpa using hm.2⟩
  · rw [List.length_range] at g1
    exact q s (ok_drawn h1 h5 g1 g2) g1
  · obtain ⟨f1, f2, f3⟩ := (c11 b hb).2 ys zs d1 d2
    exact ⟨f1, f2, h _ f3⟩
end
end Wb

namespace Wb
open PySem PySem.Spec PyProof.Rows L2 SlX StX Rs Ma Tw
variable [Rs.Tabz]
section
variable {P : Program} {w : World} {K : PySem.W.Frag} {mg : Str → Option Value} {base : Heap} {C_Web : Addr}
theorem is_web : ∀ (a : Rows) v F, webP C_Web K a v F → IsOb C_Web v F := fun _ _ _ h => webP.is h
theorem ok_web : ∀ (a : Rows) v F, webP C_Web K a v F → Ok a := fun _ _ _ h => h.1
theorem fl_web_own_heard (W : WebK K C_Web) : Fld K (webP C_Web K) "own_heard" (fun rs => rs) (fD K (dT (dT dN))) := ⟨fun a v F L h => r_heard W (r_c h)⟩
theorem fl_web_own_size (W : WebK K C_Web) : Fld K (webP C_Web K) "own_size" (fun rs => rs.length) (fD K dN) := ⟨fun a v F L h => r_size W (r_c h)⟩
theorem fl_web_own_roots (W : WebK K C_Web) : Fld K (webP C_Web K) "own_roots" (fun rs => rootsN rs) (fD K (dT dN)) := ⟨fun a v F L h => r_roots W (r_c h)⟩
theorem enum_len {α : Type} {xs : List α} : (enumL xs).length = xs.length := by unfold enumL; rw [List.length_map, List.length_zipIdx]
end
end Wb

/-! pools: made, walked -/
namespace Wb
open PySem PySem.Spec PyProof.Rows L2 SlX StX Rs Ma Sn Tw
variable [Rs.Tabz]
section
variable {P : Program} {w : World} {K : PySem.W.Frag} {mg : Str → Option Value} {base : Heap} {C_Web C_Pool : Addr}
abbrev s_are_webs : Stmt := topS 23
abbrev N_are_webs : List Str := ["value", "web", "rows"]
theorem sc_are_webs : FnScope N_are_webs ["value"] (defScope s_are_webs) := ⟨rfl, rfl, rfl, by decide +kernel, rfl, by decide +kernel, by decide +kernel⟩
theorem ok_are_webs {f : Addr} {fd : FuncData} (B : Bf mg) (g_MAX_WEBS : GInt mg "MAX_WEBS" 8) (m_Web : mg "Web" = some (.ref C_Web)) (W_web : WebK K C_Web) (F : Fun K "are_webs" "are_webs" s_are_webs f fd) (hm : mg "are_webs" = some (.ref f)) (b : Binds K fd ["value"] []) : Gf P w K mg base 1 "are_webs" (SpN (fun g : (List Rows) => [(fTp K (webP C_Web K)) g]) (fun (g : List Rows) (Q : Bool → Prop) => POk g ∧ Q true) (fD K dB)) := by
  refine gw_mk F hm b sc_are_webs (fun _ => rfl) (fun _ => inferInstance) fun cdv A outer s H E g hr => ?_
  obtain ⟨v_value, hgen⟩ : ∃ x, x = g := ⟨g, rfl⟩
  subst hgen
  refine ⟨_, (pss_cons (ps_if (PW.pt (pw_or (pt_not (pt_val (p_isi B (pa_cons (pv 0) (pa_cons (p_ty (by rfl) B.tuple boot_tuple) pa_nil))))) (pw_or1 (pt_not (pt_chain op_le op_le pe_int (p_len B (pa_cons (pv 0) pa_nil)) (p_gint g_MAX_WEBS))))))
      (pss_one (ps_ret pe_bl))
      pss_nil)
    (pss_cons (ps_if (pt_not (pt_val (p_all rfl B (pa_cons (pe_lc (own := [("web", 1)]) (g := gName 1) (tt := tYes) rfl sc_are_webs.nd (pi_tup (pv 0)) (blkOk_by (N := N_are_webs) (sc := defScope s_are_webs) (by decide +kernel)) (fun _ _ _ _ _ => (pg_name (i := 1) sc_are_webs.nd rfl (by first | exact Or.inl rfl | exact Or.inr rfl))) (fun _ _ _ _ _ => pts_nil) (fun _ _ _ _ _ => by exact (p_isiSK K (.ref C_Web) B (pa_cons (pv 1) (pa_cons (p_cls (by rfl) m_Web) pa_nil))))) pa_nil))))
      (pss_one (ps_ret pe_bl))
      pss_nil)
    (pss_cons (ps_set (i := 2) sc_are_webs.nd rfl (by first | exact Or.inl rfl | exact Or.inr rfl) (p_setNK K P w rfl hr.units B (pa_cons (pe_lc (own := [("web", 1)]) (g := gName 1) (tt := tYes) rfl sc_are_webs.nd (pi_tup (pv 0)) (blkOk_by (N := N_are_webs) (sc := defScope s_are_webs) (by decide +kernel)) (fun _ _ _ _ _ => (pg_name (i := 1) sc_are_webs.nd rfl (by first | exact Or.inl rfl | exact Or.inr rfl))) (fun _ _ _ _ _ => pts_nil) (fun _ _ _ _ _ => by exact (pe_slK K (pv 1)))) pa_nil)))
    (pss_one (ps_ret (pe_and (pe_cmpR op_eq (p_lenNK P w B (pa_cons (pv 2) pa_nil)) (p_len B (pa_cons (pv 0) pa_nil)) (nomark _)) (pe_one (p_all rfl B (pa_cons (pe_lc (own := [("web", 1)]) (g := gName 1) (tt := tYes) rfl sc_are_webs.nd (pi_tup (pv 0)) (blkOk_by (N := N_are_webs) (sc := defScope s_are_webs) (by decide +kernel)) (fun _ _ _ _ _ => (pg_name (i := 1) sc_are_webs.nd rfl (by first | exact Or.inl rfl | exact Or.inr rfl))) (fun _ _ _ _ _ => pts_nil) (fun _ _ _ _ _ => by exact (pe_cmpR op_eq (pe_slK K (pv 1)) (pe_slK K (pe_ix (ix_tupK K) (pv 0) pe_int (fun _ _ => rfl))) (nomark _)))) pa_nil))))))))), _,
    (ts_ifq (tt_or (tt_not (tt_B (tr_cb c_isiTp (ta_cons (tr_var (R := (fTp K (webP C_Web K))) (a := v_value) rfl) (ta_one tr_ty))))) (tt_not (tt_test (tr_chain (tr_int (K := K)) (tr_ni (tr_cb c_lenT (ta_one (tr_var (R := (fTp K (webP C_Web K))) (a := v_value) rfl)))) (tr_ni (tr_nat (K := K) 8))))))
      (ts_retq (tr_bl (K := K)))
      (ts_nextq (ts_ifq (tt_not (tt_B (tr_cb c_all (ta_one (tr_lc (vs := [1]) (Rd := (fD K dB)) (ti_tup (tr_var (R := (fTp K (webP C_Web K))) (a := v_value) rfl)) (tg_name (R := (webP C_Web K)) 1) rfl rfl rfl (fun _ => rfl) (fun x1 => tt_yes) (fun x1 => (tr_cb (c_isiOwn W_web.sc W_web.si W_web.kit is_web) (ta_cons (tr_var (R := (webP C_Web K)) (a := x1) rfl) (ta_one tr_clsV)))))))))
      (ts_retq (tr_bl (K := K)))
      (ts_nextq (ts_set (R := (fSK K P w (dT (dT dN)))) 2 (tr_cb c_setK (ta_one (tr_lnD (tr_lc (vs := [1]) (Rd := (fD K (dT (dT dN)))) (ti_tup (tr_var (R := (fTp K (webP C_Web K))) (a := v_value) rfl)) (tg_name (R := (webP C_Web K)) 1) rfl rfl rfl (fun _ => rfl) (fun x2 => tt_yes) (fun x2 => (tr_fld (fl_web_own_heard W_web) (tr_var (R := (webP C_Web K)) (a := x2) rfl))))))) rfl (fun v_rows_3 => (ts_ret (tr_and (tr_op o_eqN (tr_cb c_lenK (ta_one (tr_var (R := (fSK K P w (dT (dT dN)))) (a := v_rows_3) rfl))) (tr_cb c_lenT (ta_one (tr_var (R := (fTp K (webP C_Web K))) (a := v_value) rfl)))) (tr_cb c_all (ta_one (tr_lc (vs := [1]) (Rd := (fD K dB)) (ti_tup (tr_var (R := (fTp K (webP C_Web K))) (a := v_value) rfl)) (tg_name (R := (webP C_Web K)) 1) rfl rfl rfl (fun _ => rfl) (fun x4 => tt_yes) (fun x4 => (tr_op o_eqN (tr_fld (fl_web_own_size W_web) (tr_var (R := (webP C_Web K)) (a := x4) rfl)) (tr_fld (fl_web_own_size W_web) (tr_op o_ixTp (tr_var (R := (fTp K (webP C_Web K))) (a := v_value) rfl) (tr_nat (K := K) 0)))))))))))))))), ?_⟩
  rintro Q ⟨vs0, F0, hv⟩ hs
  try delta pur
  try dsimp only at hs hv ⊢
  obtain ⟨ok, q⟩ := hs
  have h1 := ok.pos
  have h8 := ok.le
  have e1 : decide ((1 : Int) ≤ (v_value.length : Int)) = true := decide_eq_true (by omega)
  have e2 : decide ((v_value.length : Int) ≤ ((8 : Nat) : Int)) = true := decide_eq_true (by omega)
  refine orW_of false false (fun P hP => hP) (fun _ P hP => ?_) ?_
  · rw [chW_p (g1 := fun i j => decide (i ≤ j)) (g2 := fun i j => decide (i ≤ j)), e1, e2]; exact hP
  rw [Bool.or_false, if_neg Bool.false_ne_true]
  refine ⟨by omega, lcW_map (h := fun _ => true) (fun _ _ Q hQ => hQ) ?_⟩
  have all1 : ∀ xs : List Rows, (xs.map fun _ => true).all id = true := fun xs => by rw [List.all_map]; exact List.all_eq_true.mpr fun _ _ => rfl
  rw [all1, Bool.not_true, if_neg Bool.false_ne_true]
  refine ⟨by omega, lcW_map (h := fun x => x) (fun _ _ Q hQ => hQ) ?_⟩
  rw [List.map_id']
  refine ⟨by omega, andW_of true true (fun P hP => ?_) (fun _ P hP => ?_) q⟩
  · rw [decide_eq_true (dd_len.mpr ok.nd)]; exact hP
  · refine ⟨by omega, lcW_map (h := fun _ => true) (fun x hx Q hQ => ?_) (by rw [all1]; exact hP)⟩
    have h0 : v_value[0]? = some v_value[0] := List.getElem?_eq_getElem (by omega)
    refine ⟨_, h0, ?_⟩
    rw [decide_eq_true (by rw [← psize_head h0]; exact ok.sz x hx)]
    exact hQ
-- Pool.__init__: 0:self 1:webs 2:index 3:web
abbrev s_Poolu__initu_ : Stmt := inClass (topS 24) 1
abbrev N_Poolu__initu_ : List Str := ["self", "webs", "index", "web"]
theorem sc_Poolu__initu_ : FnScope N_Poolu__initu_ ["self", "webs"] (defScope s_Poolu__initu_) := ⟨rfl, rfl, rfl, by decide +kernel, rfl, by decide +kernel, by decide +kernel⟩
theorem ok_pool_init {f : Addr} {fd : FuncData} (B : Bf mg) (W_web : WebK K C_Web) (W_pool : PoolK K C_Pool) (c_are_webs : Gf P w K mg base 1 "are_webs" (SpN (fun g : (List Rows) => [(fTp K (webP C_Web K)) g]) (fun (g : List Rows) (Q : Bool → Prop) => POk g ∧ Q true) (fD K dB))) (F : Fun K "__init__" "Pool.__init__" s_Poolu__initu_ f fd) :
    FnOk P w K mg base CX0 9 f fd ["self", "webs"] (spPoolInit C_Pool C_Web K P w) := by
  refine init_ok F sc_Poolu__initu_ (fun _ => rfl) fun cdv A outer s H E v_webs a dx vs F0 hr ok hv => ?_
  obtain ⟨v, rfl, h1⟩ := each1 hv
  refine ⟨_, (pss_cons (ps_if (pt_not (pt_val (p_call c_are_webs hr (by decide) (pa_cons (pv 1) pa_nil))))
        (pss_one ps_never)
        pss_nil)
      (pss_cons (ps_sl (pv 0) (pv 1))
      (pss_cons (ps_sl (pv 0) (pe_sl (pe_ix ix_tup (pv 1) pe_int (fun _ _ => rfl))))
      (pss_one (ps_sl (pv 0) (pe_dcK (own := [("index", 2), ("web", 3)]) (g := gTup K 2 (gCons (gName 2) (gCons (gName 3) gNil))) (tt := tYes) rfl hr.units sc_Poolu__initu_.nd (pi_enumT (by rfl) B.enumerate (pa_cons (pv 1) pa_nil)) (blkOk_by (N := N_Poolu__initu_) (sc := defScope s_Poolu__initu_) (by decide +kernel)) (fun _ _ _ _ _ => (pg_tup rfl (pgs_cons (pg_name (i := 2) sc_Poolu__initu_.nd rfl (by first | exact Or.inl rfl | exact Or.inr rfl)) (pgs_cons (pg_name (i := 3) sc_Poolu__initu_.nd rfl (by first | exact Or.inl rfl | exact Or.inr rfl)) pgs_nil)))) (fun _ _ _ _ _ => pts_nil) (fun _ _ _ _ _ => by exact (pe_slK K (pv 3))) (fun _ _ _ _ _ => by exact (pv 2)))))))), ?_⟩
  have sv : SatV [none, some (fTp K (webP C_Web K) v_webs), none, none] (start N_Poolu__initu_ [.ref a, v]) F0 := ⟨⟨v, rfl, h1, inferInstance⟩, True.intro⟩
  refine q_if (b := false) (Run.weak (run0 (((tt_not (tt_B (tr_call (ta_one (tr_var (R := (fTp K (webP C_Web K))) (a := v_webs) rfl))))) : TrT Z0 _ [] _ _).run _ F0 _ sv True.intro (fun b => b = false) X0 ?_)) fun b F1 e h => h) (fun z => nomatch z) fun _ => q_next ?_
  · exact ⟨ok, rfl⟩
  refine q_slW (R := fTp K (webP C_Web K)) W_pool.webs .new rfl (tr_var (R := (fTp K (webP C_Web K))) (a := v_webs) rfl) sv (Q := fun x => x = v_webs) rfl fun x1 w1 F1 e1 hx1 g1 => ?_
  refine q_slW (R := fD K dN) W_pool.size (.old _) rfl (tr_fld (fl_web_own_size W_web) (tr_op o_ixTp (tr_var (R := (fTp K (webP C_Web K))) (a := v_webs) rfl) (tr_nat (K := K) 0))) (satV_up e1 sv) (Q := fun x => x = psize v_webs) ?_ fun x2 w2 F2 e2 hx2 g2 => ?_
  · have hp := ok.pos
    have h0 : v_webs[0]? = some (v_webs[0]'(by omega)) := List.getElem?_eq_getElem (by omega)
    exact ⟨_, h0, (psize_head h0).symm⟩
  refine s_slW (R := fDK K P w (dT (dT dN)) (fD K dN)) W_pool.places (.old _) rfl (tr_dc (d := (dT dN)) (vs := [2, 3]) (Rb := (fD K dN)) (by decide) (ti_enumT (R := (webP C_Web K)) (tr_var (R := (fTp K (webP C_Web K))) (a := v_webs) rfl)) (tg_pair (tg_name (R := (fD K dN)) 2) (tg_name (R := (webP C_Web K)) 3)) rfl rfl rfl (fun _ => rfl) (fun x1 => tt_yes) (fun x1 => (tr_fld (fl_web_own_heard W_web) (tr_var (R := (webP C_Web K)) (a := x1.2) rfl))) (fun x1 => (tr_var (R := (fD K dN)) (a := x1.1) rfl))) (satV_up (e1.trans e2) sv) (Q := fun x => x = placesL v_webs) ?_ fun x3 w3 F3 e3 hx3 g3 => ?_
  · refine ⟨by rw [enum_len]; exact Nat.le_trans ok.le (by decide), lcW_map (h := fun x => (x.2, x.1)) (fun _ _ Q hQ => hQ) ?_⟩
    exact putsA_new (kvs := []) (by rw [List.nil_append]; exact places_nodup ok.nd)
  subst hx1 hx2 hx3
  refine ⟨_, _, rfl, fun G e o1 o2 => pool_of ok o1 o2 (((got_nil.put (by decide)).put (by decide)).put (by decide)) (Mono.go g1 ((e2.trans e3).trans e)) (Mono.go g2 (e3.trans e)) (Mono.go g3 e)⟩
-- Pool.__iter__: 0:self
abbrev s_Poolu__iteru_ : Stmt := inClass (topS 24) 15
abbrev N_Poolu__iteru_ : List Str := ["self"]
theorem sc_Poolu__iteru_ : FnScope N_Poolu__iteru_ ["self"] (defScope s_Poolu__iteru_) := ⟨rfl, rfl, rfl, by decide +kernel, rfl, by decide +kernel, by decide +kernel⟩
theorem ok_pool_iter {f : Addr} {fd : FuncData} (Bi : mg "iter" = none) (W_pool : PoolK K C_Pool) (hi : PySem.W.findIn K (.ref C_Pool) "__iter__" = some (some (.ref f))) (hf : PySem.W.isFn K (.ref f) = true) (F : Fun K "__iter__" "Pool.__iter__" s_Poolu__iteru_ f fd) (b : Binds K fd ["self"] []) : ItS P w K mg base 1 C_Pool 2 := by
  refine ⟨f, hi, hf, fun A outer s H a dx vs l zs Q E hr e0 hs hl hq q => fn_at F b sc_Poolu__iteru_ hr e0 (vs := [.ref a]) (.cons rfl .nil) rfl fun cdv _ => ⟨_, (pss_one (ps_ret (p_iterT Bi (pa_cons (pe_sl (pv 0)) pa_nil)))), ?_⟩⟩
  obtain ⟨sc, p, sl⟩ := W_pool.webs
  exact ⟨.ref a, rfl, a, C_Pool, dx, p, vs, 2, .ref l, rfl, hs, sc, sl, hl, l, zs, rfl, hq, fun it h1 h2 => q it h1 h2⟩
end
end Wb

/-! pools: what they tell -/
namespace Wb
open PySem PySem.Spec PyProof.Rows L2 SlX StX Rs Ma Sn Tw
variable [Rs.Tabz]
section
variable {P : Program} {w : World} {K : PySem.W.Frag} {mg : Str → Option Value} {base : Heap} {C_Web C_Pool : Addr}
theorem bt_lt {i n : Nat} (h : i < n) (hn : n ≤ 1000) : isBt (dN i) 0 ((n : Int) - 1) = true := by
  have hb : (1000 : Int) < 10 ^ 60 := by decide
  show isBt (nI i) 0 ((n : Int) - 1) = true
  rw [isBt, isInt]
  simp only [Bool.and_eq_true, decide_eq_true_eq]
  omega
abbrev s_require_index : Stmt := topS 25
abbrev N_require_index : List Str := ["pool", "index"]
theorem sc_require_index : FnScope N_require_index ["pool", "index"] (defScope s_require_index) := ⟨rfl, rfl, rfl, by decide +kernel, rfl, by decide +kernel, by decide +kernel⟩
theorem ok_require_index {f : Addr} {fd : FuncData} (B : Bf mg) (c_require_number : Gf P w K mg base 3 "require_number" (SpN (fun g : PyData × Int × Int => [(fD K dA) g.1, (fD K dInt) g.2.1, (fD K dInt) g.2.2]) (fun (g : PyData × Int × Int) (Q : Unit → Prop) => isBt g.1 g.2.1 g.2.2 = true ∧ Q ()) (fD K dU))) (W_pool : PoolK K C_Pool) (F : Fun K "require_index" "require_index" s_require_index f fd) (hm : mg "require_index" = some (.ref f)) (b : Binds K fd ["pool", "index"] []) : Gf P w K mg base 4 "require_index" (SpN (fun g : (List Rows) × Nat => [(poolP C_Pool C_Web K P w) g.1, (fD K dN) g.2]) (fun (g : List Rows × Nat) (Q : Unit → Prop) => g.2 < g.1.length ∧ Q ()) (fD K dU)) := by
  refine gw_mkN F hm b sc_require_index (fun _ => rfl) (fun _ => inferInstance) fun cdv A outer s H E g hr => ?_
  obtain ⟨v_pool, v_index⟩ := g
  refine ⟨_, (pss_one (ps_expr (p_call c_require_number hr (by decide) (pa_cons (pv 1) (pa_cons pe_int (pa_cons (pe_op op_sub (p_len B (pa_cons (pe_sl (pv 0)) pa_nil)) pe_int) pa_nil)))))), _,
    (ts_one (ts_drop (tr_call (ta_cons (tr_any (tr_var (R := (fD K dN)) (a := v_index) rfl)) (ta_cons (tr_int (K := K)) (ta_one (tr_op o_i0i (tr_ni (tr_cb c_lenT (ta_one (tr_fld (fl_pool_own_webs W_pool) (tr_var (R := (poolP C_Pool C_Web K P w)) (a := v_pool) rfl))))) (tr_int (K := K))))))) (ts_next () (leV_none (leV_none leV_nil)) (fun _ _ _ h => h)))), ?_⟩
  rintro Q ⟨vs0, F0, hv⟩ hs
  try delta pur
  try dsimp only at hs hv ⊢
  obtain ⟨h, q⟩ := hs
  obtain ⟨v, v1, rfl, ⟨ok, _⟩, _⟩ := each2 hv
  exact ⟨bt_lt h (Nat.le_trans ok.le (by decide)), q⟩
abbrev s_Pool_roots : Stmt := inClass (topS 24) 4
abbrev N_Pool_roots : List Str := ["self", "web"]
theorem sc_Pool_roots : FnScope N_Pool_roots ["self"] (defScope s_Pool_roots) := ⟨rfl, rfl, rfl, by decide +kernel, rfl, by decide +kernel, by decide +kernel⟩
theorem ok_Pool_roots {f : Addr} {fd : FuncData} (B : Bf mg) (W_pool : PoolK K C_Pool) (W_web : WebK K C_Web) (F : Fun K "roots" "Pool.roots" s_Pool_roots f fd) : FnOk P w K mg base CX0 1 f fd ["self"] (SpN (fun g : (List Rows) => [(poolP C_Pool C_Web K P w) g]) (fun (g : List Rows) (Q : Rows → Prop) => Q (g.map rootsN)) (fD K (dT (dT dN)))) := by
  refine gw_met F sc_Pool_roots (fun _ => rfl) (fun _ => inferInstance) fun cdv A outer s H E g hr => ?_
  obtain ⟨v_self, hgen⟩ : ∃ x, x = g := ⟨g, rfl⟩
  subst hgen
  refine ⟨_, (pss_one (ps_ret (p_tuple B (pa_cons (pe_lc (own := [("web", 1)]) (g := gName 1) (tt := tYes) rfl sc_Pool_roots.nd (pi_tup (pe_sl (pv 0))) (blkOk_by (N := N_Pool_roots) (sc := defScope s_Pool_roots) (by decide +kernel)) (fun _ _ _ _ _ => (pg_name (i := 1) sc_Pool_roots.nd rfl (by first | exact Or.inl rfl | exact Or.inr rfl))) (fun _ _ _ _ _ => pts_nil) (fun _ _ _ _ _ => by exact (pe_slK K (pv 1)))) pa_nil)))), _,
    (ts_ret (tr_cb c_tupDL (ta_one (tr_lnD (tr_lc (vs := [1]) (Rd := (fD K (dT dN))) (ti_tup (tr_fld (fl_pool_own_webs W_pool) (tr_var (R := (poolP C_Pool C_Web K P w)) (a := v_self) rfl))) (tg_name (R := (webP C_Web K)) 1) rfl rfl rfl (fun _ => rfl) (fun x1 => tt_yes) (fun x1 => (tr_fld (fl_web_own_roots W_web) (tr_var (R := (webP C_Web K)) (a := x1) rfl)))))))), ?_⟩
  rintro Q ⟨vs0, F0, hv⟩ hs
  try delta pur
  try dsimp only at hs hv ⊢
  obtain ⟨v, rfl, ok, _⟩ := each1 hv
  exact ⟨Nat.le_trans ok.le (by decide), lcW_map (h := rootsN) (fun _ _ Q hQ => hQ) hs⟩
theorem psize_le {rss : List Rows} (ok : POk rss) : 1 ≤ psize rss ∧ psize rss ≤ 5 := by
  have hp := ok.pos
  have h0 : rss[0]? = some (rss[0]'(by omega)) := List.getElem?_eq_getElem (by omega)
  have o := ok.ok _ (List.mem_of_getElem? h0)
  rw [psize_head h0]
  exact ⟨o.pos, o.le⟩
abbrev s_Pool_always : Stmt := inClass (topS 24) 5
abbrev N_Pool_always : List Str := ["self", "houses", "house", "web"]
theorem sc_Pool_always : FnScope N_Pool_always ["self"] (defScope s_Pool_always) := ⟨rfl, rfl, rfl, by decide +kernel, rfl, by decide +kernel, by decide +kernel⟩
theorem ok_Pool_always {f : Addr} {fd : FuncData} (B : Bf mg) (W_pool : PoolK K C_Pool) (W_web : WebK K C_Web) (F : Fun K "always" "Pool.always" s_Pool_always f fd) : FnOk P w K mg base CX0 1 f fd ["self"] (SpN (fun g : (List Rows) => [(poolP C_Pool C_Web K P w) g]) (fun (g : List Rows) (Q : List Nat → Prop) => Q (alwaysN g)) (fD K (dT dN))) := by
  refine gw_met F sc_Pool_always (fun _ => rfl) (fun _ => inferInstance) fun cdv A outer s H E g hr => ?_
  obtain ⟨v_self, hgen⟩ : ∃ x, x = g := ⟨g, rfl⟩
  subst hgen
  refine ⟨_, (pss_cons (ps_set (i := 1) sc_Pool_always.nd rfl (by first | exact Or.inl rfl | exact Or.inr rfl) (p_listRg rfl B (pe_sl (pv 0))))
    (pss_one (ps_ret (p_tuple B (pa_cons (pe_lc (own := [("house", 2)]) (g := gName 2) rfl sc_Pool_always.nd (pi_list (pv 1)) (blkOk_by (N := N_Pool_always) (sc := defScope s_Pool_always) (by decide +kernel)) (fun _ _ _ _ _ => (pg_name (i := 2) sc_Pool_always.nd rfl (by first | exact Or.inl rfl | exact Or.inr rfl))) (fun _ _ _ _ _ => (pts_one (pt_val (p_allK K rfl B (pa_cons (pe_lc (own := [("web", 3)]) (g := gName 3) (tt := tYes) rfl sc_Pool_always.nd (pi_tupK K (pe_slK K (pv 0))) (blkOk_by (N := N_Pool_always) (by first | decide +kernel | (dsimp only [Cx.blk, compEnvC]; decide +kernel) | exact rfl)) (fun _ _ _ _ _ => (pg_name (i := 3) sc_Pool_always.nd rfl (by first | exact Or.inl rfl | exact Or.inr rfl))) (fun _ _ _ _ _ => pts_nil) (fun _ _ _ _ _ => by exact (pe_cmpR (op_in_seqK K) (pv 2) (pe_slK K (pv 3)) rfl))) pa_nil))))) (fun _ _ _ _ _ => by exact (pv 2))) pa_nil))))), _,
    (ts_set (R := (fLn (fD K dN))) 1 (tn_listRg (tr_fld (fl_pool_own_size W_pool) (tr_var (R := (poolP C_Pool C_Web K P w)) (a := v_self) rfl))).e rfl (fun v_houses_1 => (ts_ret (tr_cb c_tupDL (ta_one (tr_lnD (tr_lc (vs := [2]) (Rd := (fD K dN)) (ti_lst (tr_var (R := (fLn (fD K dN))) (a := v_houses_1) rfl)) (tg_name (R := (fD K dN)) 2) rfl rfl rfl (fun _ => rfl) (fun x2 => (tt_B (tr_cb c_all (ta_one (tr_lc (vs := [3]) (Rd := (fD K dB)) (ti_tup (tr_fld (fl_pool_own_webs W_pool) (tr_var (R := (poolP C_Pool C_Web K P w)) (a := v_self) rfl))) (tg_name (R := (webP C_Web K)) 3) rfl rfl rfl (fun _ => rfl) (fun x3 => tt_yes) (fun x3 => (tr_op o_inT (tr_var (R := (fD K dN)) (a := x2) rfl) (tr_fld (fl_web_own_roots W_web) (tr_var (R := (webP C_Web K)) (a := x3) rfl))))))))) (fun x2 => (tr_var (R := (fD K dN)) (a := x2) rfl))))))))), ?_⟩
  rintro Q ⟨vs0, F0, hv⟩ hs
  try delta pur
  try dsimp only at hs hv ⊢
  obtain ⟨v, rfl, ok, _⟩ := each1 hv
  have := psize_le ok
  refine ⟨by omega, by rw [List.length_range]; omega, lcW_of (f := fun h => (v_self.map fun rs => decide (h ∈ rootsN rs)).all id) (h := fun h => h) (fun x hx Q hQ => ⟨Nat.le_trans ok.le (by decide), lcW_map (h := fun rs => decide (x ∈ rootsN rs)) (fun _ _ Q hQ => hQ) hQ⟩) (fun x _ _ Q hQ => hQ) ?_⟩
  rw [List.map_id']; exact hs
abbrev s_Pool_size : Stmt := inClass (topS 24) 3
abbrev N_Pool_size : List Str := ["self"]
theorem sc_Pool_size : FnScope N_Pool_size ["self"] (defScope s_Pool_size) := ⟨rfl, rfl, rfl, by decide +kernel, rfl, by decide +kernel, by decide +kernel⟩
theorem ok_Pool_size {f : Addr} {fd : FuncData} (B : Bf mg) (W_pool : PoolK K C_Pool) (F : Fun K "size" "Pool.size" s_Pool_size f fd) : FnOk P w K mg base CX0 1 f fd ["self"] (SpN (fun g : (List Rows) => [(poolP C_Pool C_Web K P w) g]) (fun (g : List Rows) (Q : Nat → Prop) => Q (psize g)) (fD K dN)) := by
  refine gw_met F sc_Pool_size (fun _ => rfl) (fun _ => inferInstance) fun cdv A outer s H E g hr => ?_
  obtain ⟨v_self, hgen⟩ : ∃ x, x = g := ⟨g, rfl⟩
  subst hgen
  refine ⟨_, (pss_one (ps_ret (pe_sl (pv 0)))), _,
    (ts_ret (tr_fld (fl_pool_own_size W_pool) (tr_var (R := (poolP C_Pool C_Web K P w)) (a := v_self) rfl))), ?_⟩
  rintro Q ⟨vs0, F0, hv⟩ hs
  try delta pur
  try dsimp only at hs hv ⊢
  exact hs
abbrev s_Poolu__lenu_ : Stmt := inClass (topS 24) 16
abbrev N_Poolu__lenu_ : List Str := ["self"]
theorem sc_Poolu__lenu_ : FnScope N_Poolu__lenu_ ["self"] (defScope s_Poolu__lenu_) := ⟨rfl, rfl, rfl, by decide +kernel, rfl, by decide +kernel, by decide +kernel⟩
theorem ok_Poolu__lenu_ {f : Addr} {fd : FuncData} (B : Bf mg) (W_pool : PoolK K C_Pool) (F : Fun K "__len__" "Pool.__len__" s_Poolu__lenu_ f fd) : FnOk P w K mg base CX0 1 f fd ["self"] (SpN (fun g : (List Rows) => [(poolP C_Pool C_Web K P w) g]) (fun (g : List Rows) (Q : Nat → Prop) => Q g.length) (fD K dN)) := by
  refine gw_met F sc_Poolu__lenu_ (fun _ => rfl) (fun _ => inferInstance) fun cdv A outer s H E g hr => ?_
  obtain ⟨v_self, hgen⟩ : ∃ x, x = g := ⟨g, rfl⟩
  subst hgen
  refine ⟨_, (pss_one (ps_ret (p_len B (pa_cons (pe_sl (pv 0)) pa_nil)))), _,
    (ts_ret (tr_cb c_lenT (ta_one (tr_fld (fl_pool_own_webs W_pool) (tr_var (R := (poolP C_Pool C_Web K P w)) (a := v_self) rfl))))), ?_⟩
  rintro Q ⟨vs0, F0, hv⟩ hs
  try delta pur
  try dsimp only at hs hv ⊢
  exact hs
abbrev s_Poolu__getitemu_ : Stmt := inClass (topS 24) 13
abbrev N_Poolu__getitemu_ : List Str := ["self", "index"]
theorem sc_Poolu__getitemu_ : FnScope N_Poolu__getitemu_ ["self", "index"] (defScope s_Poolu__getitemu_) := ⟨rfl, rfl, rfl, by decide +kernel, rfl, by decide +kernel, by decide +kernel⟩
theorem ok_Poolu__getitemu_ {f : Addr} {fd : FuncData} (B : Bf mg) (c_require_index : Gf P w K mg base 4 "require_index" (SpN (fun g : (List Rows) × Nat => [(poolP C_Pool C_Web K P w) g.1, (fD K dN) g.2]) (fun (g : List Rows × Nat) (Q : Unit → Prop) => g.2 < g.1.length ∧ Q ()) (fD K dU))) (W_pool : PoolK K C_Pool) (F : Fun K "__getitem__" "Pool.__getitem__" s_Poolu__getitemu_ f fd) : FnOk P w K mg base CX0 5 f fd ["self", "index"] (SpN (fun g : (List Rows) × Nat => [(poolP C_Pool C_Web K P w) g.1, (fD K dN) g.2]) (fun (g : List Rows × Nat) (Q : Rows → Prop) => ∃ rs, g.1[g.2]? = some rs ∧ Q rs) (webP C_Web K)) := by
  refine gw_met F sc_Poolu__getitemu_ (fun _ => rfl) (fun _ => inferInstance) fun cdv A outer s H E g hr => ?_
  obtain ⟨v_self, v_index⟩ := g
  refine ⟨_, (pss_cons (ps_expr (p_call c_require_index hr (by decide) (pa_cons (pv 0) (pa_cons (pv 1) pa_nil))))
    (pss_one (ps_ret (pe_ix ix_tup (pe_sl (pv 0)) (pv 1) (fun _ _ => rfl))))), _,
    (ts_drop (tr_call (ta_cons (tr_var (R := (poolP C_Pool C_Web K P w)) (a := v_self) rfl) (ta_one (tr_var (R := (fD K dN)) (a := v_index) rfl)))) (ts_ret (tr_op o_ixTp (tr_fld (fl_pool_own_webs W_pool) (tr_var (R := (poolP C_Pool C_Web K P w)) (a := v_self) rfl)) (tr_var (R := (fD K dN)) (a := v_index) rfl)))), ?_⟩
  rintro Q ⟨vs0, F0, hv⟩ hs
  try delta pur
  try dsimp only at hs hv ⊢
  obtain ⟨rs, h, q⟩ := hs
  exact ⟨(List.getElem?_eq_some_iff.mp h).1, rs, h, q⟩
theorem getD_at {α : Type} {xs : List α} {i : Nat} {d : α} (h : i < xs.length) : xs[i]? = some (xs.getD i d) := by
  rw [List.getD_eq_getElem?_getD, List.getElem?_eq_getElem h]; rfl
end
end Wb

/-! k05: drawn pools, ways, what a pool tells -/
namespace Wb
open PySem PySem.Spec PyProof.Rows L2 SlX StX Rs Ma Sn Tw
variable [Rs.Tabz]
/-- whether a value is a web of a pool -/
def inW (p : List Rows) : Wv → Bool
  | .web rs => decide (rs ∈ p)
  | _ => false
noncomputable def textP (n m : Nat) : PySem.Str := Str.ofString "pool of " ++ strN n ++ Str.ofString " webs on " ++ strN m ++ Str.ofString " houses"
theorem places_keys {rss : List Rows} : (placesL rss).map (·.1) = rss := by
  unfold placesL
  rw [List.map_map]
  exact enumL_map
theorem places_some {rss : List Rows} {r : Rows} : (getA (placesL rss) r).isSome = decide (r ∈ rss) := by
  cases e : getA (placesL rss) r with
  | none =>
    have h := getA_none.mp e
    rw [places_keys] at h
    exact (decide_eq_false h).symm
  | some x =>
    have h : r ∈ rss := Classical.byContradiction fun z => by
      rw [getA_none.mpr (by rw [places_keys]; exact z)] at e
      cases e
    exact (decide_eq_true h).symm
theorem places_at {rss : List Rows} {r : Rows} {i : Nat} (nd : rss.Nodup) (h : rss[i]? = some r) : getA (placesL rss) r = some i := by
  refine getA_of (p := (r, i)) (by rw [places_keys]; exact nd) ?_
  unfold placesL
  exact List.mem_map.mpr ⟨(i, r), List.mem_of_getElem? (enumL_get2 h), rfl⟩
theorem emp_app (x : PySem.Str) : Str.empty ++ x = x := by
  show Str.mk (#[] ++ x.cps) = x
  rw [Array.empty_append]
theorem str_app_len (a b : PySem.Str) : (a ++ b).length = a.length + b.length := by
  show (a.cps ++ b.cps).size = _
  rw [Array.size_append]; rfl
theorem strN_le : ∀ n, n < 60 → (strN n).length ≤ 2 := by decide +kernel
theorem isWeb_of {w : Wv} (h : w.isWeb = true) : ∃ rs, w = .web rs := by cases w <;> first | exact ⟨_, rfl⟩ | cases h
section
variable {P : Program} {w : World} {K : PySem.W.Frag} {mg : Str → Option Value} {base : Heap} {C_Web C_Pool : Addr}
abbrev s__law_from : Stmt := topS 35
abbrev N__law_from : List Str := ["_law_rows_here", "_law_house", "_law_found", "_law_turn", "_law_one", "_law_far"]
theorem sc__law_from : FnScope N__law_from ["_law_rows_here", "_law_house"] (defScope s__law_from) := ⟨rfl, rfl, rfl, by decide +kernel, rfl, by decide +kernel, by decide +kernel⟩
theorem ok__law_from {f : Addr} {fd : FuncData} (B : Bf mg)  (F : Fun K "_law_from" "_law_from" s__law_from f fd) (hm : mg "_law_from" = some (.ref f)) (b : Binds K fd ["_law_rows_here", "_law_house"] []) : Gf P w K mg base 1 "_law_from" (SpN (fun g : (List (List Nat)) × Nat => [(fD K (dT (dT dN))) g.1, (fD K dN) g.2]) (fun (g : Rows × Nat) (Q : List Nat → Prop) => (Ok g.1 ∧ g.2 < g.1.length) ∧ Q (reachL g.1 g.2)) (fD K (dT dN))) := by
  refine gw_mk F hm b sc__law_from (fun _ => rfl) (fun _ => inferInstance) fun cdv A outer s H E g hr => ?_
  obtain ⟨v__law_rows_here, v__law_house⟩ := g
  refine ⟨_, (pss_cons (ps_set (i := 2) sc__law_from.nd rfl (by first | exact Or.inl rfl | exact Or.inr rfl) (pe_lst (pa_cons (pv 1) pa_nil)))
    (pss_cons (ps_for PassesOwn.never rfl (pi_range1 (by rfl) B.range (pa_cons (p_len B (pa_cons (pv 0) pa_nil)) pa_nil)) (pg_name (i := 3) sc__law_from.nd rfl (by first | exact Or.inl rfl | exact Or.inr rfl))
      (pss_one (ps_set (i := 2) sc__law_from.nd rfl (by first | exact Or.inl rfl | exact Or.inr rfl) (pe_lc (own := [("_law_one", 4)]) (g := gName 4) rfl sc__law_from.nd (pi_range1 (by rfl) B.range (pa_cons (p_len B (pa_cons (pv 0) pa_nil)) pa_nil)) (blkOk_by (N := N__law_from) (sc := defScope s__law_from) (by decide +kernel)) (fun _ _ _ _ _ => (pg_name (i := 4) sc__law_from.nd rfl (by first | exact Or.inl rfl | exact Or.inr rfl))) (fun _ _ _ _ _ => (pts_one (PW.pt (pw_or (pt_cmpR (op_in_seqK K) (pv 4) (pv 2) rfl) (pw_or1 (pt_cmpR (op_neDK K hr.units) (pe_lc (own := [("_law_far", 5)]) (g := gName 5) rfl sc__law_from.nd (pi_tupK K (pe_ix (ix_tupK K) (pv 0) (pv 4) (fun _ _ => rfl))) (blkOk_by (N := N__law_from) (by first | decide +kernel | (dsimp only [Cx.blk, compEnvC]; decide +kernel) | exact rfl)) (fun _ _ _ _ _ => (pg_name (i := 5) sc__law_from.nd rfl (by first | exact Or.inl rfl | exact Or.inr rfl))) (fun _ _ _ _ _ => (pts_one (pt_cmpR (op_in_seqK K) (pv 5) (pv 2) rfl))) (fun _ _ _ _ _ => by exact (pv 5))) (pe_lst pa_nil) (nomark _))))))) (fun _ _ _ _ _ => by exact (pv 4))))))
    (pss_one (ps_ret (p_tuple B (pa_cons (pv 2) pa_nil)))))), _,
    (ts_set (R := (fLn (fD K dN))) 2 (tr_lst (R := (fD K dN)) (ta_lcons (R := (fD K dN)) (tr_var (R := (fD K dN)) (a := v__law_house) rfl) (ta_lnil (R := (fD K dN))))) rfl (fun v_law_found_1 => (ts_for (S1 := (List Nat)) (ρ1 := fun s2 => [some ((fD K (dT (dT dN))) v__law_rows_here), some ((fD K dN) v__law_house), some ((fLn (fD K dN)) s2), none, none, none]) (κ1s := fun s2 => []) v_law_found_1 (leV_some (leV_some (leV_some (leV_none (leV_none (leV_none leV_nil)))))) (fun _ _ _ h => h) (ti_rangeN (tr_cb c_lenDT (ta_one (tr_var (R := (fD K (dT (dT dN)))) (a := v__law_rows_here) rfl)))) (tg_name (R := (fD K dN)) 3) (fun _ => rfl)
      (fun s2 x3 => (ts_one (ts_set (R := (fLn (fD K dN))) 2 (tr_lc (vs := [4]) (Rd := (fD K dN)) (ti_rangeN (tr_cb c_lenDT (ta_one (tr_var (R := (fD K (dT (dT dN)))) (a := v__law_rows_here) rfl)))) (tg_name (R := (fD K dN)) 4) rfl rfl rfl (fun _ => rfl) (fun x4 => (tt_or (tt_test (tr_op o_inL (tr_var (R := (fD K dN)) (a := x4) rfl) (tr_lnD (tr_var (R := (fLn (fD K dN))) (a := s2) rfl)))) (tt_test (tr_op (o_neD (d := (dL dN))) (tr_lnD (tr_lc (vs := [5]) (Rd := (fD K dN)) (ti_tupD (tr_op o_ixT (tr_var (R := (fD K (dT (dT dN)))) (a := v__law_rows_here) rfl) (tr_var (R := (fD K dN)) (a := x4) rfl))) (tg_name (R := (fD K dN)) 5) rfl rfl rfl (fun _ => rfl) (fun x5 => (tt_test (tr_op o_inL (tr_var (R := (fD K dN)) (a := x5) rfl) (tr_lnD (tr_var (R := (fLn (fD K dN))) (a := s2) rfl))))) (fun x5 => (tr_var (R := (fD K dN)) (a := x5) rfl)))) (tr_lnD (tr_lst (R := (fD K dN)) (ta_lnil (R := (fD K dN))))))))) (fun x4 => (tr_var (R := (fD K dN)) (a := x4) rfl))) rfl (fun v_law_found_6 => (ts_next v_law_found_6 (leV_some (leV_some (leV_some (leV_none (leV_none (leV_none leV_nil)))))) (fun _ _ _ h => h))))))
      (fun s2 => (ts_ret (tr_cb c_tupDL (ta_one (tr_lnD (tr_var (R := (fLn (fD K dN))) (a := s2) rfl))))))))), ?_⟩
  rintro Q ⟨vs0, F0, hv⟩ hs
  try delta pur
  try dsimp only at hs hv ⊢
  obtain ⟨⟨ok, hh⟩, q⟩ := hs
  have h5 := ok.le
  refine ⟨by show 1 ≤ 100000; decide, by omega, ?_⟩
  refine forW_at (f := fun k => fromL v__law_rows_here v__law_house k) (fun i x _ P hP => ?_) (by show Q (fromL _ _ (List.range _).length); rw [List.length_range, from_reach hh]; exact q)
  refine ⟨by omega, by rw [List.length_range]; omega, lcW_of (f := fun y => decide (y ∈ fromL v__law_rows_here v__law_house i) || !decide ((row v__law_rows_here y).filter (fun x => decide (x ∈ fromL v__law_rows_here v__law_house i)) = [])) (h := fun x => x) (fun y hy Q hQ => ?_) (fun _ _ _ Q hQ => hQ) ?_⟩
  · have hy' := List.mem_range.mp hy
    have hl : (row v__law_rows_here y).length ≤ 5 := Nat.le_trans (nodup_len _ _ (asc_nodup (ok.row_asc y)) fun z hz => ok.row_lt hz) ok.le
    exact orW_of (decide (y ∈ fromL v__law_rows_here v__law_house i)) (!decide ((row v__law_rows_here y).filter (fun x => decide (x ∈ fromL v__law_rows_here v__law_house i)) = [])) (fun P hP => hP) (fun _ P hP => ⟨_, get_row hy', by omega, lcW_of (f := fun x => decide (x ∈ fromL v__law_rows_here v__law_house i)) (h := fun x => x) (fun _ _ Q hQ => hQ) (fun _ _ _ Q hQ => hQ) ⟨by decide, by rw [List.map_id']; exact hP⟩⟩) hQ
  · rw [List.map_id']; exact hP
abbrev s__law_roots : Stmt := topS 36
abbrev N__law_roots : List Str := ["_law_rows_here", "_law_house"]
theorem sc__law_roots : FnScope N__law_roots ["_law_rows_here"] (defScope s__law_roots) := ⟨rfl, rfl, rfl, by decide +kernel, rfl, by decide +kernel, by decide +kernel⟩
theorem ok__law_roots {f : Addr} {fd : FuncData} (B : Bf mg) (c_law_from : Gf P w K mg base 1 "_law_from" (SpN (fun g : (List (List Nat)) × Nat => [(fD K (dT (dT dN))) g.1, (fD K dN) g.2]) (fun (g : Rows × Nat) (Q : List Nat → Prop) => (Ok g.1 ∧ g.2 < g.1.length) ∧ Q (reachL g.1 g.2)) (fD K (dT dN)))) (F : Fun K "_law_roots" "_law_roots" s__law_roots f fd) (hm : mg "_law_roots" = some (.ref f)) (b : Binds K fd ["_law_rows_here"] []) : Gf P w K mg base 2 "_law_roots" (SpN (fun g : (List (List Nat)) => [(fD K (dT (dT dN))) g]) (fun (g : Rows) (Q : List Nat → Prop) => Ok g ∧ Q (rootsN g)) (fD K (dT dN))) := by
  refine gw_mk F hm b sc__law_roots (fun _ => rfl) (fun _ => inferInstance) fun cdv A outer s H E g hr => ?_
  obtain ⟨v__law_rows_here, hgen⟩ : ∃ x, x = g := ⟨g, rfl⟩
  subst hgen
  refine ⟨_, (pss_one (ps_ret (p_tuple B (pa_cons (pe_lc (own := [("_law_house", 1)]) (g := gName 1) rfl sc__law_roots.nd (pi_range1 (by rfl) B.range (pa_cons (p_len B (pa_cons (pv 0) pa_nil)) pa_nil)) (blkOk_by (N := N__law_roots) (sc := defScope s__law_roots) (by decide +kernel)) (fun _ _ _ _ _ => (pg_name (i := 1) sc__law_roots.nd rfl (by first | exact Or.inl rfl | exact Or.inr rfl))) (fun _ _ _ _ _ => (pts_one (pt_cmpR op_eq (p_lenK K B (pa_cons (p_call c_law_from hr (by decide) (pa_cons (pv 0) (pa_cons (pv 1) pa_nil))) pa_nil)) (p_lenK K B (pa_cons (pv 0) pa_nil)) (nomark _)))) (fun _ _ _ _ _ => by exact (pv 1))) pa_nil)))), _,
    (ts_ret (tr_cb c_tupDL (ta_one (tr_lnD (tr_lc (vs := [1]) (Rd := (fD K dN)) (ti_rangeN (tr_cb c_lenDT (ta_one (tr_var (R := (fD K (dT (dT dN)))) (a := v__law_rows_here) rfl)))) (tg_name (R := (fD K dN)) 1) rfl rfl rfl (fun _ => rfl) (fun x1 => (tt_test (tr_op o_eqN (tr_cb c_lenDT (ta_one (tr_call (ta_cons (tr_var (R := (fD K (dT (dT dN)))) (a := v__law_rows_here) rfl) (ta_one (tr_var (R := (fD K dN)) (a := x1) rfl)))))) (tr_cb c_lenDT (ta_one (tr_var (R := (fD K (dT (dT dN)))) (a := v__law_rows_here) rfl)))))) (fun x1 => (tr_var (R := (fD K dN)) (a := x1) rfl))))))), ?_⟩
  rintro Q ⟨vs0, F0, hv⟩ hs
  try delta pur
  try dsimp only at hs hv ⊢
  obtain ⟨ok, q⟩ := hs
  have h5 := ok.le
  refine ⟨by omega, by rw [List.length_range]; omega, lcW_of (f := fun x => decide ((reachL v__law_rows_here x).length = v__law_rows_here.length)) (h := fun x => x) (fun x hx Q hQ => ⟨⟨ok, List.mem_range.mp hx⟩, hQ⟩) (fun _ _ _ Q hQ => hQ) ?_⟩
  rw [List.map_id']
  exact q
abbrev s__law_pool_of : Stmt := topS 34
abbrev N__law_pool_of : List Str := ["_law_rows_here", "_law_row"]
theorem sc__law_pool_of : FnScope N__law_pool_of ["_law_rows_here"] (defScope s__law_pool_of) := ⟨rfl, rfl, rfl, by decide +kernel, rfl, by decide +kernel, by decide +kernel⟩
theorem ok__law_pool_of {f : Addr} {fd : FuncData} (B : Bf mg) (c_Pool : MkF P w K mg base 9 "Pool" C_Pool (spPoolInit C_Pool C_Web K P w)) (c_Web : MkF P w K mg base 6 "Web" C_Web (spWebInit C_Web K)) (F : Fun K "_law_pool_of" "_law_pool_of" s__law_pool_of f fd) (hm : mg "_law_pool_of" = some (.ref f)) (b : Binds K fd ["_law_rows_here"] []) : Gf P w K mg base 11 "_law_pool_of" (SpN (fun g : (List (List (List Nat))) => [(fLn (fD K (dT (dT dN)))) g]) (fun (g : List Rows) (Q : List Rows → Prop) => POk g ∧ Q g) (poolP C_Pool C_Web K P w)) := by
  refine gw_mk F hm b sc__law_pool_of (fun _ => rfl) (fun _ => inferInstance) fun cdv A outer s H E g hr => ?_
  obtain ⟨v__law_rows_here, hgen⟩ : ∃ x, x = g := ⟨g, rfl⟩
  subst hgen
  refine ⟨_, (pss_one (ps_ret (p_mk c_Pool hr (by decide) (pa_cons (p_tuple B (pa_cons (pe_lc (own := [("_law_row", 1)]) (g := gName 1) (tt := tYes) rfl sc__law_pool_of.nd (pi_list (pv 0)) (blkOk_by (N := N__law_pool_of) (sc := defScope s__law_pool_of) (by decide +kernel)) (fun _ _ _ _ _ => (pg_name (i := 1) sc__law_pool_of.nd rfl (by first | exact Or.inl rfl | exact Or.inr rfl))) (fun _ _ _ _ _ => pts_nil) (fun _ _ _ _ _ => by exact (p_mk c_Web hr (by decide) (pa_cons (pv 1) pa_nil)))) pa_nil)) pa_nil)))), _,
    (ts_ret (tr_fact (p := POk) ok_pool (tr_mk (ta_one (tr_cb c_tupL (ta_one (tr_lc (vs := [1]) (Rd := (webP C_Web K)) (ti_lst (tr_var (R := (fLn (fD K (dT (dT dN))))) (a := v__law_rows_here) rfl)) (tg_name (R := (fD K (dT (dT dN)))) 1) rfl rfl rfl (fun _ => rfl) (fun x1 => tt_yes) (fun x1 => (tr_fact (p := Ok) ok_web (tr_mk (ta_one (tr_var (R := (fD K (dT (dT dN)))) (a := x1) rfl)))))))))))), ?_⟩
  rintro Q ⟨vs0, F0, hv⟩ hs
  try delta pur
  try dsimp only at hs hv ⊢
  obtain ⟨ok, q⟩ := hs
  exact ⟨Nat.le_trans ok.le (by decide), lcW_map (h := fun x => x) (fun x hx Q hQ => ⟨ok.ok x hx, fun _ => hQ⟩) (by rw [List.map_id']; exact ⟨ok, fun _ => q⟩)⟩
theorem pok_snocZ {rss : List Rows} {rs : Rows} {n : Nat} (h : rss = [] ∨ (POk rss ∧ psize rss = n)) (h8 : rss.length < 8) (o : Ok rs) (hl : rs.length = n) (hn : rs ∉ rss) : POk (rss ++ [rs]) ∧ psize (rss ++ [rs]) = n := by
  rcases h with rfl | ⟨ok, sz⟩
  · have e : psize ([] ++ [rs]) = n := hl
    refine ⟨⟨Nat.le_refl _, by show 1 ≤ 8; decide, List.nodup_cons.mpr ⟨fun z => (nomatch z), List.nodup_nil⟩, fun q hq => ?_, fun q hq => ?_⟩, e⟩
    · rw [List.mem_singleton.mp hq]; exact o
    · rw [List.mem_singleton.mp hq, e]; exact hl
  · have hp := ok.pos
    have e : psize (rss ++ [rs]) = n := by
      have h0 : (rss ++ [rs])[0]? = some (rss[0]'(by omega)) := by
        rw [List.getElem?_append_left (by omega), List.getElem?_eq_getElem (by omega)]
      rw [psize_head h0, ← sz]
      exact ok.sz _ (List.getElem_mem _)
    refine ⟨⟨by rw [List.length_append, List.length_singleton]; omega, by rw [List.length_append, List.length_singleton]; omega, ?_, fun q hq => ?_, fun q hq => ?_⟩, e⟩
    · exact List.nodup_append.mpr ⟨ok.nd, List.nodup_cons.mpr ⟨fun z => (nomatch z), List.nodup_nil⟩, fun a ha b hb e => hn (by rw [← List.mem_singleton.mp hb, ← e]; exact ha)⟩
    · rcases List.mem_append.mp hq with hq | hq
      · exact ok.ok q hq
      · rw [List.mem_singleton.mp hq]; exact o
    · rw [e]
      rcases List.mem_append.mp hq with hq | hq
      · rw [ok.sz q hq]; exact sz
      · rw [List.mem_singleton.mp hq]; exact hl
theorem star_list {n c : Nat} : (List.range n).map (fun x => if decide (x = c) = true then [] else [c]) = starR n c := by
  unfold starR
  refine List.map_congr_left fun x _ => ?_
  unfold starRow
  by_cases e : x = c
  · rw [if_pos e, if_pos (by simp [e])]
  · rw [if_neg e, if_neg (by simp [e])]
theorem chain_list {n c : Nat} (hc : c < n) : (List.range n).map (fun x => if decide (x = c) = true then [] else [(((x : Int) + (n : Int) - 1) % (n : Int)).toNat]) = chainR n c := by
  unfold chainR
  refine List.map_congr_left fun x _ => ?_
  unfold chainRow
  by_cases e : x = c
  · rw [if_pos e, if_pos (by simp [e])]
  · rw [if_neg e, if_neg (by simp [e])]
    have : ((x : Int) + (n : Int) - 1) = ((x + n - 1 : Nat) : Int) := by omega
    rw [this, ← Int.natCast_emod, Int.toNat_natCast]
theorem full_list {n : Nat} : (List.range n).map (fun x => (List.range n).filter fun y => !decide (y = x)) = fullR n := rfl
abbrev s__law_pool_rows : Stmt := topS 33
abbrev N__law_pool_rows : List Str := ["_law_cask_here", "_law_size", "_law_most", "_law_found", "_law_turn", "_law_rows_here", "_law_house", "_law_star", "_law_one", "_law_chain", "_law_full", "_law_far"]
theorem sc__law_pool_rows : FnScope N__law_pool_rows ["_law_cask_here", "_law_size", "_law_most"] (defScope s__law_pool_rows) := ⟨rfl, rfl, rfl, by decide +kernel, rfl, by decide +kernel, by decide +kernel⟩
theorem ok__law_pool_rows {f : Addr} {fd : FuncData} (B : Bf mg) (c_law_scoop : Gf P w K mg base 1 "_law_scoop" (SpN (fun g : Unit × Nat => [(fCk 3) g.1, (fD K dN) g.2]) (fun (g : Unit × Nat) (Q : Nat → Prop) => (1 ≤ g.2 ∧ g.2 ≤ 1000) ∧ ∀ n, n < g.2 → Q n) (fD K dN))) (c_law_rows : Gf P w K mg base 3 "_law_rows" (SpN (fun g : Unit × Nat => [(fCk 3) g.1, (fD K dN) g.2]) (fun (g : Unit × Nat) (Q : Rows → Prop) => (1 ≤ g.2 ∧ g.2 ≤ 5) ∧ ∀ rs : Rows, Ok rs → rs.length = g.2 → Q rs) (fD K (dT (dT dN))))) (c_law_any_of_1 : Gf P w K mg base 2 "_law_any_of" (SpN (fun g : Unit × (List (List (List Nat))) => [(fCk 3) g.1, (fLn (fD K (dT (dT dN)))) g.2]) spAny (fD K (dT (dT dN))))) (F : Fun K "_law_pool_rows" "_law_pool_rows" s__law_pool_rows f fd) (hm : mg "_law_pool_rows" = some (.ref f)) (b : Binds K fd ["_law_cask_here", "_law_size", "_law_most"] []) : Gf P w K mg base 4 "_law_pool_rows" (SpN (fun g : Unit × Nat × Nat => [(fCk 3) g.1, (fD K dN) g.2.1, (fD K dN) g.2.2]) (fun (g : Unit × Nat × Nat) (Q : List Rows → Prop) => ((1 ≤ g.2.1 ∧ g.2.1 ≤ 5) ∧ 1 ≤ g.2.2 ∧ g.2.2 ≤ 8) ∧ ∀ rss : List Rows, POk rss → psize rss = g.2.1 → Q rss) (fLn (fD K (dT (dT dN))))) := by
  refine gw_mk F hm b sc__law_pool_rows (fun _ => rfl) (fun _ => inferInstance) fun cdv A outer s H E g hr => ?_
  obtain ⟨v__law_cask_here, v__law_size, v__law_most⟩ := g
  refine ⟨_, (pss_cons (ps_set (i := 3) sc__law_pool_rows.nd rfl (by first | exact Or.inl rfl | exact Or.inr rfl) (pe_lst pa_nil))
    (pss_cons (ps_for PassesOwn.never rfl (pi_range1 (by rfl) B.range (pa_cons (pe_op op_add pe_int (p_call c_law_scoop hr (by decide) (pa_cons (pv 0) (pa_cons (pv 2) pa_nil)))) pa_nil)) (pg_name (i := 4) sc__law_pool_rows.nd rfl (by first | exact Or.inl rfl | exact Or.inr rfl))
      (pss_cons (ps_set (i := 5) sc__law_pool_rows.nd rfl (by first | exact Or.inl rfl | exact Or.inr rfl) (p_call c_law_rows hr (by decide) (pa_cons (pv 0) (pa_cons (pv 1) pa_nil))))
      (pss_cons (ps_if (pt_cmpR op_eq (p_call c_law_scoop hr (by decide) (pa_cons (pv 0) (pa_cons pe_int pa_nil))) pe_int (nomark _))
        (pss_cons (ps_set (i := 6) sc__law_pool_rows.nd rfl (by first | exact Or.inl rfl | exact Or.inr rfl) (p_call c_law_scoop hr (by decide) (pa_cons (pv 0) (pa_cons (pv 1) pa_nil))))
        (pss_cons (ps_set (i := 7) sc__law_pool_rows.nd rfl (by first | exact Or.inl rfl | exact Or.inr rfl) (p_tuple B (pa_cons (pe_lc (own := [("_law_one", 8)]) (g := gName 8) (tt := tYes) rfl sc__law_pool_rows.nd (pi_range1 (by rfl) B.range (pa_cons (pv 1) pa_nil)) (blkOk_by (N := N__law_pool_rows) (sc := defScope s__law_pool_rows) (by decide +kernel)) (fun _ _ _ _ _ => (pg_name (i := 8) sc__law_pool_rows.nd rfl (by first | exact Or.inl rfl | exact Or.inr rfl))) (fun _ _ _ _ _ => pts_nil) (fun _ _ _ _ _ => by exact (pe_ifExp (pt_cmpR op_eq (pv 8) (pv 6) (nomark _)) (pe_tup pa_nil) (pe_tup (pa_cons (pv 6) pa_nil))))) pa_nil)))
        (pss_cons (ps_set (i := 9) sc__law_pool_rows.nd rfl (by first | exact Or.inl rfl | exact Or.inr rfl) (p_tuple B (pa_cons (pe_lc (own := [("_law_one", 8)]) (g := gName 8) (tt := tYes) rfl sc__law_pool_rows.nd (pi_range1 (by rfl) B.range (pa_cons (pv 1) pa_nil)) (blkOk_by (N := N__law_pool_rows) (sc := defScope s__law_pool_rows) (by decide +kernel)) (fun _ _ _ _ _ => (pg_name (i := 8) sc__law_pool_rows.nd rfl (by first | exact Or.inl rfl | exact Or.inr rfl))) (fun _ _ _ _ _ => pts_nil) (fun _ _ _ _ _ => by exact (pe_ifExp (pt_cmpR op_eq (pv 8) (pv 6) (nomark _)) (pe_tup pa_nil) (pe_tup (pa_cons (pe_op op_mod (pe_op op_sub (pe_op op_add (pv 8) (pv 1)) pe_int) (pv 1)) pa_nil))))) pa_nil)))
        (pss_cons (ps_set (i := 10) sc__law_pool_rows.nd rfl (by first | exact Or.inl rfl | exact Or.inr rfl) (p_tuple B (pa_cons (pe_lc (own := [("_law_one", 8)]) (g := gName 8) (tt := tYes) rfl sc__law_pool_rows.nd (pi_range1 (by rfl) B.range (pa_cons (pv 1) pa_nil)) (blkOk_by (N := N__law_pool_rows) (sc := defScope s__law_pool_rows) (by decide +kernel)) (fun _ _ _ _ _ => (pg_name (i := 8) sc__law_pool_rows.nd rfl (by first | exact Or.inl rfl | exact Or.inr rfl))) (fun _ _ _ _ _ => pts_nil) (fun _ _ _ _ _ => by exact (p_tupleK K B (pa_cons (pe_lc (own := [("_law_far", 11)]) (g := gName 11) rfl sc__law_pool_rows.nd (pi_range1 (by rfl) B.range (pa_cons (pv 1) pa_nil)) (blkOk_by (N := N__law_pool_rows) (by first | decide +kernel | (dsimp only [Cx.blk, compEnvC]; decide +kernel) | exact rfl)) (fun _ _ _ _ _ => (pg_name (i := 11) sc__law_pool_rows.nd rfl (by first | exact Or.inl rfl | exact Or.inr rfl))) (fun _ _ _ _ _ => (pts_one (pt_cmpR op_ne (pv 11) (pv 8) (nomark _)))) (fun _ _ _ _ _ => by exact (pv 11))) pa_nil)))) pa_nil)))
        (pss_one (ps_set (i := 5) sc__law_pool_rows.nd rfl (by first | exact Or.inl rfl | exact Or.inr rfl) (p_call c_law_any_of_1 hr (by decide) (pa_cons (pv 0) (pa_cons (pe_lst (pa_cons (pv 7) (pa_cons (pv 9) (pa_cons (pv 10) pa_nil)))) pa_nil)))))))))
        pss_nil)
      (pss_one (ps_if (pt_cmpR (op_notInD (room65 hr)) (pv 5) (pv 3) rfl)
        (pss_one (ps_expr (pe_bm PySem.F.plainAttrs_list PySem.F.slot_list_append PySem.F.type_list_append mt_append (pv 3) (pa_cons (pv 5) pa_nil))))
        pss_nil)))))
    (pss_one (ps_ret (pv 3))))), _,
    (ts_newC 3 (tn_lst (R := (fD K (dT (dT dN)))) (ta_lnil (R := (fD K (dT (dT dN)))))) rfl rfl (fun l1 => (ts_for (S1 := (List (List (List Nat)))) (ρ1 := fun s2 => [some ((fCk 3) v__law_cask_here), some ((fD K dN) v__law_size), some ((fD K dN) v__law_most), none, none, none, none, none, none, none, none, none]) (κ1s := fun s2 => [.one 3 (ownL ((s2).map (fD K (dT (dT dN)))))]) l1 (leV_some (leV_some (leV_some (leV_none (leV_none (leV_none (leV_none (leV_none (leV_none (leV_none (leV_none (leV_none leV_nil)))))))))))) (fun _ _ _ h => h) (ti_rangeN (tr_op o_addN (tr_nat (K := K) 1) (tr_call (ta_cons (tr_var (R := (fCk 3)) (a := v__law_cask_here) rfl) (ta_one (tr_var (R := (fD K dN)) (a := v__law_most) rfl)))))) (tg_name (R := (fD K dN)) 4) (fun _ => rfl)
      (fun s2 x3 => (ts_set (R := (fD K (dT (dT dN)))) 5 (tr_call (ta_cons (tr_var (R := (fCk 3)) (a := v__law_cask_here) rfl) (ta_one (tr_var (R := (fD K dN)) (a := v__law_size) rfl)))) rfl (fun v_law_rows_here_4 => (ts_seq (S1 := (List (List Nat))) (ρ1 := fun s14 => [some ((fCk 3) v__law_cask_here), some ((fD K dN) v__law_size), some ((fD K dN) v__law_most), none, some ((fD K dN) x3), some ((fD K (dT (dT dN))) s14), none, none, none, none, none, none]) (κ1s := fun s14 => [.one 3 (ownL ((s2).map (fD K (dT (dT dN)))))]) (ts_if (tt_test (tr_op o_eqN (tr_call (ta_cons (tr_var (R := (fCk 3)) (a := v__law_cask_here) rfl) (ta_one (tr_nat (K := K) 3)))) (tr_nat (K := K) 0)))
      (ts_set (R := (fD K dN)) 6 (tr_call (ta_cons (tr_var (R := (fCk 3)) (a := v__law_cask_here) rfl) (ta_one (tr_var (R := (fD K dN)) (a := v__law_size) rfl)))) rfl (fun v_law_house_24 => (ts_set (R := (fD K (dT (dT dN)))) 7 (tr_cb c_tupDL (ta_one (tr_lnD (tr_lc (vs := [8]) (Rd := (fD K (dT dN))) (ti_rangeN (tr_var (R := (fD K dN)) (a := v__law_size) rfl)) (tg_name (R := (fD K dN)) 8) rfl rfl rfl (fun _ => rfl) (fun x25 => tt_yes) (fun x25 => (tr_if (tt_test (tr_op o_eqN (tr_var (R := (fD K dN)) (a := x25) rfl) (tr_var (R := (fD K dN)) (a := v_law_house_24) rfl))) (tr_tpD (tr_tup (R := (fD K dN)) (ta_lnil (R := (fD K dN))))) (tr_tpD (tr_tup (R := (fD K dN)) (ta_lcons (R := (fD K dN)) (tr_var (R := (fD K dN)) (a := v_law_house_24) rfl) (ta_lnil (R := (fD K dN)))))))))))) rfl (fun v_law_star_26 => (ts_set (R := (fD K (dT (dT dN)))) 9 (tr_cb c_tupDL (ta_one (tr_lnD (tr_lc (vs := [8]) (Rd := (fD K (dT dN))) (ti_rangeN (tr_var (R := (fD K dN)) (a := v__law_size) rfl)) (tg_name (R := (fD K dN)) 8) rfl rfl rfl (fun _ => rfl) (fun x27 => tt_yes) (fun x27 => (tr_if (tt_test (tr_op o_eqN (tr_var (R := (fD K dN)) (a := x27) rfl) (tr_var (R := (fD K dN)) (a := v_law_house_24) rfl))) (tr_tpD (tr_tup (R := (fD K dN)) (ta_lnil (R := (fD K dN))))) (tr_tpD (tr_tup (R := (fD K dN)) (ta_lcons (R := (fD K dN)) (tr_in (tr_op o_ii (tr_op o_i0i (tr_op o_i0i (tr_ni (tr_var (R := (fD K dN)) (a := x27) rfl)) (tr_ni (tr_var (R := (fD K dN)) (a := v__law_size) rfl))) (tr_int (K := K))) (tr_ni (tr_var (R := (fD K dN)) (a := v__law_size) rfl)))) (ta_lnil (R := (fD K dN)))))))))))) rfl (fun v_law_chain_28 => (ts_set (R := (fD K (dT (dT dN)))) 10 (tr_cb c_tupDL (ta_one (tr_lnD (tr_lc (vs := [8]) (Rd := (fD K (dT dN))) (ti_rangeN (tr_var (R := (fD K dN)) (a := v__law_size) rfl)) (tg_name (R := (fD K dN)) 8) rfl rfl rfl (fun _ => rfl) (fun x29 => tt_yes) (fun x29 => (tr_cb c_tupDL (ta_one (tr_lnD (tr_lc (vs := [11]) (Rd := (fD K dN)) (ti_rangeN (tr_var (R := (fD K dN)) (a := v__law_size) rfl)) (tg_name (R := (fD K dN)) 11) rfl rfl rfl (fun _ => rfl) (fun x30 => (tt_test (tr_op o_neN (tr_var (R := (fD K dN)) (a := x30) rfl) (tr_var (R := (fD K dN)) (a := x29) rfl)))) (fun x30 => (tr_var (R := (fD K dN)) (a := x30) rfl))))))))))) rfl (fun v_law_full_31 => (ts_one (ts_set (R := (fD K (dT (dT dN)))) 5 (tr_call (ta_cons (tr_var (R := (fCk 3)) (a := v__law_cask_here) rfl) (ta_one (tr_lst (R := (fD K (dT (dT dN)))) (ta_lcons (R := (fD K (dT (dT dN)))) (tr_var (R := (fD K (dT (dT dN)))) (a := v_law_star_26) rfl) (ta_lcons (R := (fD K (dT (dT dN)))) (tr_var (R := (fD K (dT (dT dN)))) (a := v_law_chain_28) rfl) (ta_lcons (R := (fD K (dT (dT dN)))) (tr_var (R := (fD K (dT (dT dN)))) (a := v_law_full_31) rfl) (ta_lnil (R := (fD K (dT (dT dN)))))))))))) rfl (fun v_law_rows_here_32 => (ts_next v_law_rows_here_32 (leV_some (leV_some (leV_some (leV_none (leV_some (leV_some (leV_none (leV_none (leV_none (leV_none (leV_none (leV_none leV_nil)))))))))))) (fun _ _ _ h => h)))))))))))))
      (ts_next v_law_rows_here_4 (leV_some (leV_some (leV_some (leV_none (leV_some (leV_some (leV_none (leV_none (leV_none (leV_none (leV_none (leV_none leV_nil)))))))))))) (fun _ _ _ h => h)))
      (fun s14 => (ts_one (ts_seq (S1 := (List (List (List Nat)))) (ρ1 := fun s34 => [some ((fCk 3) v__law_cask_here), some ((fD K dN) v__law_size), some ((fD K dN) v__law_most), none, some ((fD K dN) x3), some ((fD K (dT (dT dN))) s14), none, none, none, none, none, none]) (κ1s := fun s34 => [.one 3 (ownL ((s34).map (fD K (dT (dT dN)))))]) (ts_if (tt_test (tr_bor (i := 3) (xs := s2) (R := (fD K (dT (dT dN)))) (tr_op (o_notInDL (d := (dT (dT dN)))) (tr_var (R := (fD K (dT (dT dN)))) (a := s14) rfl) (tr_lnD (tr_var (R := (fLn (fD K (dT (dT dN))))) (a := s2) rfl))) rfl rfl (fun _ _ h => h)))
      (ts_one (ts_app (R := (fD K (dT (dT dN)))) (xs := s2) (tr_var (R := (fD K (dT (dT dN)))) (a := s14) rfl) (fun y36 => (ts_next (s2 ++ [y36]) (leV_some (leV_some (leV_some (leV_none (leV_some (leV_some (leV_none (leV_none (leV_none (leV_none (leV_none (leV_none leV_nil)))))))))))) (fun _ _ _ h => h)))))
      (ts_next s2 (leV_some (leV_some (leV_some (leV_none (leV_some (leV_some (leV_none (leV_none (leV_none (leV_none (leV_none (leV_none leV_nil)))))))))))) (fun _ _ _ h => h)))
      (fun s34 => (ts_next s34 (leV_some (leV_some (leV_some (leV_none (leV_none (leV_none (leV_none (leV_none (leV_none (leV_none (leV_none (leV_none leV_nil)))))))))))) (fun _ _ _ h => h))))))))))
      (fun s2 => (ts_retC (R := (fD K (dT (dT dN)))) (xs := s2)))))), ?_⟩
  rintro Q ⟨vs0, F0, hv⟩ hs
  try delta pur
  try dsimp only [spAny] at hs hv ⊢
  obtain ⟨⟨⟨h1, h5⟩, m1, m8⟩, q⟩ := hs
  refine ⟨by decide, ⟨m1, by omega⟩, fun n hn => ⟨by omega, ?_⟩⟩
  refine forW_inv2 (fun i s => s.length ≤ i ∧ (s = [] → i = 0) ∧ (s = [] ∨ (POk s ∧ psize s = v__law_size))) ⟨Nat.le_refl _, fun _ => rfl, .inl rfl⟩ (fun i x s P hx hg hP => ?_) (fun s hg => ?_)
  · obtain ⟨g1, g2, g3⟩ := hg
    have hi := (List.getElem?_eq_some_iff.mp hx).1
    rw [List.length_range] at hi
    have put : ∀ (rs : Rows) (inst : Decidable (rs ∈ s)), Ok rs → rs.length = v__law_size → if (!@decide (rs ∈ s) inst) = true then s.length < 100000 ∧ P (s ++ [rs]) else P s := fun rs inst o hl => by
      by_cases c : rs ∈ s
      · rw [if_neg (by simp [c])]
        exact hP _ ⟨by omega, fun e => (by rw [e] at c; cases c), g3⟩
      · rw [if_pos (by simp [c])]
        refine ⟨by omega, hP _ ⟨by rw [List.length_append, List.length_singleton]; omega, fun e => ?_, .inr (pok_snocZ g3 (by omega) o hl c)⟩⟩
        have := congrArg List.length e
        rw [List.length_append, List.length_singleton] at this
        cases this
    refine ⟨⟨h1, h5⟩, fun rs o hl => ⟨by decide, fun k hk => ?_⟩⟩
    by_cases h0 : k = 0
    · rw [if_pos (by simp [h0])]
      refine ⟨⟨h1, by omega⟩, fun c hc => ⟨by omega, by rw [List.length_range]; omega, ?_⟩⟩
      refine lcW_map (h := fun x => if decide (x = c) = true then [] else [c]) (fun x _ Q hQ => ?_) ⟨by omega, by rw [List.length_range]; omega, ?_⟩
      · by_cases e : x = c
        · simp only [e, decide_true, iteW_t, if_true] at hQ ⊢
          exact ⟨by decide, hQ⟩
        · simp only [e, decide_false, iteW_f, Bool.false_eq_true, if_false] at hQ ⊢
          exact ⟨by show 1 ≤ 100000; decide, hQ⟩
      refine lcW_map (h := fun x => if decide (x = c) = true then [] else [(((x : Int) + (v__law_size : Int) - 1) % (v__law_size : Int)).toNat]) (fun x _ Q hQ => ?_) ⟨by omega, by rw [List.length_range]; omega, ?_⟩
      · by_cases e : x = c
        · simp only [e, decide_true, iteW_t, if_true] at hQ ⊢
          exact ⟨by decide, hQ⟩
        · simp only [e, decide_false, iteW_f, Bool.false_eq_true, if_false] at hQ ⊢
          exact ⟨by omega, Int.emod_nonneg _ (by omega), by show 1 ≤ 100000; decide, hQ⟩
      refine lcW_map (h := fun x => (List.range v__law_size).filter fun y => !decide (y = x)) (fun x _ Q hQ => ⟨by omega, by rw [List.length_range]; omega, ?_⟩) ?_
      · simp only [lcW_p, List.map_id']
        exact hQ
      rw [star_list, chain_list hc, full_list]
      refine ⟨by show 3 ≤ 100000; decide, ⟨fun z => (nomatch z), by show 3 ≤ 1000; decide⟩, fun a ha => ?_⟩
      rcases List.mem_cons.mp ha with rfl | ha
      · exact put _ _ (star_ok h1 h5 hc) len_star
      rcases List.mem_cons.mp ha with rfl | ha
      · exact put _ _ (chain_ok h1 h5 hc) len_chain
      · rw [List.mem_singleton.mp ha]
        exact put _ _ (full_ok h1 h5) (by unfold fullR; rw [List.length_map, List.length_range])
    · rw [if_neg (by simp [h0])]
      exact put rs _ o hl
  · obtain ⟨g1, g2, g3⟩ := hg
    rw [List.length_range] at g1 g2
    rcases g3 with e | ⟨ok, sz⟩
    · have := g2 e
      omega
    · exact q s ok sz
abbrev s_Pool_webs : Stmt := inClass (topS 24) 2
abbrev N_Pool_webs : List Str := ["self"]
theorem sc_Pool_webs : FnScope N_Pool_webs ["self"] (defScope s_Pool_webs) := ⟨rfl, rfl, rfl, by decide +kernel, rfl, by decide +kernel, by decide +kernel⟩
theorem ok_Pool_webs {f : Addr} {fd : FuncData} (B : Bf mg) (W_pool : PoolK K C_Pool) (F : Fun K "webs" "Pool.webs" s_Pool_webs f fd) : FnOk P w K mg base CX0 1 f fd ["self"] (SpN (fun g : (List Rows) => [(poolP C_Pool C_Web K P w) g]) (fun (g : List Rows) (Q : List Rows → Prop) => Q g) (fTp K (webP C_Web K))) := by
  refine gw_met F sc_Pool_webs (fun _ => rfl) (fun _ => inferInstance) fun cdv A outer s H E g hr => ?_
  obtain ⟨v_self, hgen⟩ : ∃ x, x = g := ⟨g, rfl⟩
  subst hgen
  refine ⟨_, (pss_one (ps_ret (pe_sl (pv 0)))), _,
    (ts_ret (tr_fld (fl_pool_own_webs W_pool) (tr_var (R := (poolP C_Pool C_Web K P w)) (a := v_self) rfl))), ?_⟩
  rintro Q ⟨vs0, F0, hv⟩ hs
  try delta pur
  try dsimp only at hs hv ⊢
  exact hs
abbrev s_Poolu__equ_ : Stmt := inClass (topS 24) 17
abbrev N_Poolu__equ_ : List Str := ["self", "other"]
theorem sc_Poolu__equ_ : FnScope N_Poolu__equ_ ["self", "other"] (defScope s_Poolu__equ_) := ⟨rfl, rfl, rfl, by decide +kernel, rfl, by decide +kernel, by decide +kernel⟩
theorem ok_Poolu__equ_ {f : Addr} {fd : FuncData} (B : Bf mg) (m_Pool : mg "Pool" = some (.ref C_Pool)) (W_pool : PoolK K C_Pool) (nf_web : PySem.W.notFirst K C_Web (.ref C_Web) = true) (c_web_eq0 : EqS P w K mg base 1 C_Web (@SpN Tz0 _ _ (fun g : Rows × Rows => [(webP C_Web K) g.1, (webP C_Web K) g.2]) (fun (g : Rows × Rows) (Q : Bool → Prop) => True ∧ Q (decide (g.1 = g.2))) (fD K dB))) (F : Fun K "__eq__" "Pool.__eq__" s_Poolu__equ_ f fd) : FnOk P w K mg base CX0 3 f fd ["self", "other"] (SpN (fun g : (List Rows) × (List Rows) => [(poolP C_Pool C_Web K P w) g.1, (poolP C_Pool C_Web K P w) g.2]) (fun (g : List Rows × List Rows) (Q : Bool → Prop) => Q (decide (g.1 = g.2))) (fD K dB)) := by
  refine gw_met F sc_Poolu__equ_ (fun _ => rfl) (fun _ => inferInstance) fun cdv A outer s H E g hr => ?_
  obtain ⟨v_self, v_other⟩ := g
  refine ⟨_, (pss_one (ps_ret (pe_and (p_isiS (.ref C_Pool) B (pa_cons (pv 1) (pa_cons (p_cls (by rfl) m_Pool) pa_nil))) (pe_one (pe_cmpR (op_eqB0 c_web_eq0 nf_web is_web (fun _ _ _ q => ⟨True.intro, q⟩) web_tells hr (by decide)) (pe_sl (pv 0)) (pe_sl (pv 1)) (nomark _)))))), _,
    (ts_ret (tr_and (tr_cb (c_isiOwn W_pool.sc W_pool.si W_pool.kit is_pool) (ta_cons (tr_var (R := (poolP C_Pool C_Web K P w)) (a := v_other) rfl) (ta_one tr_clsV))) (tr_op o_eqOwns (tr_fld (fl_pool_own_webs W_pool) (tr_var (R := (poolP C_Pool C_Web K P w)) (a := v_self) rfl)) (tr_fld (fl_pool_own_webs W_pool) (tr_var (R := (poolP C_Pool C_Web K P w)) (a := v_other) rfl))))), ?_⟩
  rintro Q ⟨vs0, F0, hv⟩ hs
  try delta pur
  try dsimp only at hs hv ⊢
  unfold andW
  exact hs
abbrev s_Poolu__containsu_ : Stmt := inClass (topS 24) 14
abbrev N_Poolu__containsu_ : List Str := ["self", "value"]
theorem sc_Poolu__containsu_ : FnScope N_Poolu__containsu_ ["self", "value"] (defScope s_Poolu__containsu_) := ⟨rfl, rfl, rfl, by decide +kernel, rfl, by decide +kernel, by decide +kernel⟩
theorem ok_Poolu__containsu_ {f : Addr} {fd : FuncData} (B : Bf mg) (m_Web : mg "Web" = some (.ref C_Web)) (okY : WxOk (YY K C_Web C_Pool P w)) (W_web : WebK K C_Web) (W_pool : PoolK K C_Pool) (F : Fun K "__contains__" "Pool.__contains__" s_Poolu__containsu_ f fd) : FnOk P w K mg base CX0 1 f fd ["self", "value"] (SpN (fun g : (List Rows) × Wv => [(poolP C_Pool C_Web K P w) g.1, (fW (YY K C_Web C_Pool P w)) g.2]) (fun (g : List Rows × Wv) (Q : Bool → Prop) => Q (inW g.1 g.2)) (fD K dB)) := by
  refine gw_met F sc_Poolu__containsu_ (fun _ => rfl) (fun _ => inferInstance) fun cdv A outer s H E g hr => ?_
  obtain ⟨v_self, v_value⟩ := g
  refine ⟨_, (pss_one (ps_ret (pe_and (p_isiS (.ref C_Web) B (pa_cons (pv 1) (pa_cons (p_cls (by rfl) m_Web) pa_nil))) (pe_one (pe_cmpR (op_inK hr.units) (pe_sl (pv 1)) (pe_sl (pv 0)) rfl))))), _,
    (ts_ret (tr_and (tr_cb (c_isiWeb okY) (ta_cons (tr_var (R := (fW (YY K C_Web C_Pool P w))) (a := v_value) rfl) (ta_one tr_clsV))) (tr_op (o_inDK (d := (dT dN))) (tr_fld (fl_web_own_heard W_web) (tr_Wweb (X := YY K C_Web C_Pool P w) (tr_var (R := (fW (YY K C_Web C_Pool P w))) (a := v_value) rfl))) (tr_fld (fl_pool_own_places W_pool) (tr_var (R := (poolP C_Pool C_Web K P w)) (a := v_self) rfl))))), ?_⟩
  rintro Q ⟨vs0, F0, hv⟩ hs
  try delta pur
  try dsimp only at hs hv ⊢
  refine andW_of v_value.isWeb (inW v_self v_value) (fun P hP => hP) (fun h P hP => ?_) ?_
  · obtain ⟨rs, rfl⟩ := isWeb_of h
    exact ⟨rs, rfl, by rw [places_some]; exact hP⟩
  · cases v_value <;> exact hs
abbrev s_Pool_index_of : Stmt := inClass (topS 24) 6
abbrev N_Pool_index_of : List Str := ["self", "web"]
theorem sc_Pool_index_of : FnScope N_Pool_index_of ["self", "web"] (defScope s_Pool_index_of) := ⟨rfl, rfl, rfl, by decide +kernel, rfl, by decide +kernel, by decide +kernel⟩
theorem ok_Pool_index_of {f : Addr} {fd : FuncData} (B : Bf mg) (m_Web : mg "Web" = some (.ref C_Web)) (W_web : WebK K C_Web) (W_pool : PoolK K C_Pool) (F : Fun K "index_of" "Pool.index_of" s_Pool_index_of f fd) : FnOk P w K mg base CX0 1 f fd ["self", "web"] (SpN (fun g : (List Rows) × Rows => [(poolP C_Pool C_Web K P w) g.1, (webP C_Web K) g.2]) (fun (g : List Rows × Rows) (Q : Nat → Prop) => ∃ i, (POk g.1 ∧ g.1[i]? = some g.2) ∧ Q i) (fD K dN)) := by
  refine gw_met F sc_Pool_index_of (fun _ => rfl) (fun _ => inferInstance) fun cdv A outer s H E g hr => ?_
  obtain ⟨v_self, v_web⟩ := g
  refine ⟨_, (pss_cons (ps_if (pt_not (pt_val (p_isiS (.ref C_Web) B (pa_cons (pv 1) (pa_cons (p_cls (by rfl) m_Web) pa_nil)))))
      (pss_one ps_never)
      pss_nil)
    (pss_cons (ps_if (pt_cmpR (op_notInK hr.units) (pe_sl (pv 1)) (pe_sl (pv 0)) rfl)
      (pss_one ps_never)
      pss_nil)
    (pss_one (ps_ret (p_ixNK K P w hr.units (pe_sl (pv 0)) (pe_sl (pv 1)) (fun _ _ => rfl)))))), _,
    (ts_ifq (tt_not (tt_B (tr_cb (c_isiOwn W_web.sc W_web.si W_web.kit is_web) (ta_cons (tr_var (R := (webP C_Web K)) (a := v_web) rfl) (ta_one tr_clsV)))))
      ts_neverq
      (ts_nextq (ts_ifq (tt_test (tr_op (o_notInDK (d := (dT dN))) (tr_fld (fl_web_own_heard W_web) (tr_var (R := (webP C_Web K)) (a := v_web) rfl)) (tr_fld (fl_pool_own_places W_pool) (tr_var (R := (poolP C_Pool C_Web K P w)) (a := v_self) rfl))))
      ts_neverq
      (ts_nextq (ts_ret (tr_op (o_ixDK (d := (dT dN))) (tr_fld (fl_pool_own_places W_pool) (tr_var (R := (poolP C_Pool C_Web K P w)) (a := v_self) rfl)) (tr_fld (fl_web_own_heard W_web) (tr_var (R := (webP C_Web K)) (a := v_web) rfl)))))))), ?_⟩
  rintro Q ⟨vs0, F0, hv⟩ hs
  try delta pur
  try dsimp only at hs hv ⊢
  obtain ⟨i, ⟨ok, hi⟩, q⟩ := hs
  rw [if_neg (by decide), places_at ok.nd hi, if_neg (by simp)]
  exact ⟨i, rfl, q⟩
abbrev s_Poolu__stru_ : Stmt := inClass (topS 24) 18
abbrev N_Poolu__stru_ : List Str := ["self"]
theorem sc_Poolu__stru_ : FnScope N_Poolu__stru_ ["self"] (defScope s_Poolu__stru_) := ⟨rfl, rfl, rfl, by decide +kernel, rfl, by decide +kernel, by decide +kernel⟩
theorem ok_Poolu__stru_ {f : Addr} {fd : FuncData} (B : Bf mg) (W_pool : PoolK K C_Pool) (F : Fun K "__str__" "Pool.__str__" s_Poolu__stru_ f fd) : FnOk P w K mg base CX0 1 f fd ["self"] (SpN (fun g : (List Rows) => [(poolP C_Pool C_Web K P w) g]) (fun (g : List Rows) (Q : PySem.Str → Prop) => POk g ∧ Q (textP g.length (psize g))) (fD K dS)) := by
  refine gw_met F sc_Poolu__stru_ (fun _ => rfl) (fun _ => inferInstance) fun cdv A outer s H E g hr => ?_
  obtain ⟨v_self, hgen⟩ : ∃ x, x = g := ⟨g, rfl⟩
  subst hgen
  refine ⟨_, (pss_one (ps_ret (pe_joined (PJ.cons pe_str (PJ.cons (pe_fmt (p_len B (pa_cons (pe_sl (pv 0)) pa_nil))) (PJ.cons pe_str (PJ.cons (pe_fmt (pe_sl (pv 0))) (PJ.cons pe_str PJ.nil)))))))), _,
    (ts_ret (tr_js (tj_cons (K := K) (tr_str (K := K)) (tj_cons (K := K) (tr_fmtN (tr_cb c_lenT (ta_one (tr_fld (fl_pool_own_webs W_pool) (tr_var (R := (poolP C_Pool C_Web K P w)) (a := v_self) rfl))))) (tj_cons (K := K) (tr_str (K := K)) (tj_cons (K := K) (tr_fmtN (tr_fld (fl_pool_own_size W_pool) (tr_var (R := (poolP C_Pool C_Web K P w)) (a := v_self) rfl))) (tj_cons (K := K) (tr_str (K := K)) tj_nil))))))), ?_⟩
  rintro Q ⟨vs0, F0, hv⟩ hs
  try delta pur
  try dsimp only at hs hv ⊢
  obtain ⟨ok, q⟩ := hs
  have l1 := ok.le
  have l2 := psize_le ok
  have s1 := strN_le v_self.length (by omega)
  have s2 := strN_le (psize v_self) (by omega)
  have k1 : (Str.ofString "pool of ").length = 8 := rfl
  have k2 : (Str.ofString " webs on ").length = 9 := rfl
  have k3 : (Str.ofString " houses").length = 7 := rfl
  rw [emp_app]
  simp only [str_app_len, k1, k2, k3]
  exact ⟨by omega, by omega, by omega, by omega, by omega, by omega, by omega, q⟩
end
end Wb

/-! k05: groups of a pool, judged at values of many kinds -/
namespace Wb
open PySem PySem.Spec PyProof.Rows L2 SlX StX Rs Ma Sn Tw
variable [Rs.Tabz]
def intW : Wv → Bool
  | .dat d => isInt d
  | _ => false
def btW (w : Wv) (lo hi : Int) : Bool := match w with
  | .dat d => isBt d lo hi
  | _ => false
def risW (w : Wv) (lo hi : Int) : Bool := match w with
  | .dat d => isRising d lo hi
  | _ => false
/-- no tuple of things that nothing is told of, none that is too long -/
def flatW : Wv → Prop
  | .dat d => few d
  | .opT => False
  | .tp _ => False
  | _ => True
def grpW (n : Nat) (w : Wv) : Bool := risW w 0 ((n : Int) - 1) && match w with
  | .dat (.tuple ds) => decide (0 < ds.length)
  | _ => false
theorem isT_tuple {w : Wv} : w.isT "tuple" = true → flatW w → ∃ ds, w = .dat (.tuple ds) := fun h f => by
  cases w with
  | dat d =>
    cases d with
    | tuple ds => exact ⟨ds, rfl⟩
    | none => exact absurd h (by decide +kernel)
    | bool b => exact absurd h (show ¬ (kitB "bool" "tuple").getD false = true by decide +kernel)
    | int i => exact absurd h (show ¬ (kitB "int" "tuple").getD false = true by decide +kernel)
    | str x => exact absurd h (show ¬ (kitB "str" "tuple").getD false = true by decide +kernel)
    | list x => exact absurd h (show ¬ (kitB "list" "tuple").getD false = true by decide +kernel)
    | dict x => exact absurd h (show ¬ (kitB "dict" "tuple").getD false = true by decide +kernel)
  | dct => exact absurd h (by decide)
  | opL => exact absurd h (by decide)
  | opT => exact f.elim
  | tp ws => exact f.elim
  | web rs => cases h
  | pool rss => cases h
theorem isT_tup {ds : List PyData} : (Wv.dat (.tuple ds)).isT "tuple" = true := show (kitB "tuple" "tuple").getD false = true by decide +kernel
theorem isT_int {d : PyData} : (Wv.dat d).isT "int" = (match d with | .int _ => true | .bool _ => true | _ => false) := by
  cases d with
  | none => show (kitB "NoneType" "int").getD false = false; decide +kernel
  | bool b => show (kitB "bool" "int").getD false = true; decide +kernel
  | int i => show (kitB "int" "int").getD false = true; decide +kernel
  | str x => show (kitB "str" "int").getD false = false; decide +kernel
  | list xs => show (kitB "list" "int").getD false = false; decide +kernel
  | tuple xs => show (kitB "tuple" "int").getD false = false; decide +kernel
  | dict xs => show (kitB "dict" "int").getD false = false; decide +kernel
theorem isT_bool {d : PyData} : (Wv.dat d).isT "bool" = (match d with | .bool _ => true | _ => false) := by
  cases d with
  | none => show (kitB "NoneType" "bool").getD false = false; decide +kernel
  | bool b => show (kitB "bool" "bool").getD false = true; decide +kernel
  | int i => show (kitB "int" "bool").getD false = false; decide +kernel
  | str x => show (kitB "str" "bool").getD false = false; decide +kernel
  | list xs => show (kitB "list" "bool").getD false = false; decide +kernel
  | tuple xs => show (kitB "tuple" "bool").getD false = false; decide +kernel
  | dict xs => show (kitB "dict" "bool").getD false = false; decide +kernel
theorem risW_tuple {w : Wv} {lo hi : Int} (h : risW w lo hi = true) : ∃ ds, w = .dat (.tuple ds) := by
  cases w with
  | dat d => cases d <;> first | exact ⟨_, rfl⟩ | cases h
  | _ => cases h
/-- whole numbers from some number on, none below 0 -/
theorem nat_ds {lo hi : Int} (h0 : 0 ≤ lo) : ∀ {ds : List PyData}, ds.all (fun x => isBt x lo hi) = true → ds = (ds.map fun d => (toI d).toNat).map dN ∧ ∀ x ∈ ds.map fun d => (toI d).toNat, lo ≤ (x : Int) ∧ (x : Int) ≤ hi
  | [], _ => ⟨rfl, fun x hx => by cases hx⟩
  | d :: ds, h => by
    rw [List.all_cons, Bool.and_eq_true] at h
    obtain ⟨e, q⟩ := nat_ds h0 h.2
    have h1 := h.1
    unfold isBt at h1
    rw [Bool.and_eq_true] at h1
    obtain ⟨i, rfl, _⟩ := isInt_shape h1.1
    have h2 := h1.2
    rw [Bool.and_eq_true] at h2
    have l1 := of_decide_eq_true h2.1
    have l2 := of_decide_eq_true h2.2
    have ei : ((i.toNat : Nat) : Int) = i := Int.toNat_of_nonneg (by omega)
    refine ⟨?_, fun x hx => ?_⟩
    · rw [List.map_cons, List.map_cons, ← e]
      show PyData.int i :: ds = PyData.int ((i.toNat : Nat) : Int) :: ds
      rw [ei]
    · rw [List.map_cons] at hx
      rcases List.mem_cons.mp hx with rfl | hx
      · show lo ≤ ((i.toNat : Nat) : Int) ∧ ((i.toNat : Nat) : Int) ≤ hi
        rw [ei]; exact ⟨l1, l2⟩
      · exact q x hx
theorem asc_ints {ns : List Nat} : ((ns.map dN).map toI).Pairwise (· < ·) ↔ Asc ns := by
  unfold Asc
  rw [List.map_map, List.pairwise_map]
  constructor <;> intro h <;> refine h.imp fun {a b} hab => ?_
  · have hab : ((a : Nat) : Int) < ((b : Nat) : Int) := hab
    omega
  · show ((a : Nat) : Int) < ((b : Nat) : Int)
    omega
def shapeW (w : Wv) : Prop := ∀ d, w = .dat d → SeqAt.shaped d = true
theorem abs_lt {i : Int} : decide ((if i < 0 then -i else i) < 10 ^ Int.toNat 60) = (decide (-(10 ^ 60) < i) && decide (i < 10 ^ 60)) := by
  have e : (10 : Int) ^ Int.toNat 60 = 10 ^ 60 := rfl
  rw [e]
  generalize (10 : Int) ^ 60 = N
  rw [Bool.eq_iff_iff, Bool.and_eq_true, decide_eq_true_eq, decide_eq_true_eq, decide_eq_true_eq]
  by_cases h : i < 0
  · rw [if_pos h]; omega
  · rw [if_neg h]; omega
theorem none_left {ds : List PyData} : (!decide (((ds.map Wv.dat).filter fun x => !intW x).length = 0)) = !ds.all isInt := by
  congr 1
  rw [Bool.eq_iff_iff, decide_eq_true_eq, List.length_eq_zero_iff, List.filter_eq_nil_iff, List.all_eq_true]
  constructor
  · intro h d hd
    have := h (.dat d) (List.mem_map.mpr ⟨d, hd, rfl⟩)
    have t : intW (.dat d) = true := by simpa using this
    exact t
  · intro h x hx
    obtain ⟨d, hd, rfl⟩ := List.mem_map.mp hx
    have := h d hd
    show ¬ (!isInt d) = true
    rw [this]; decide
theorem grp_not {n : Nat} {ds : List PyData} (h : (decide (ds = []) || !ds.all isInt) = true) : grpW n (.dat (.tuple ds)) = false := by
  cases hg : grpW n (.dat (.tuple ds)) with
  | false => rfl
  | true =>
    have hg : ((ds.all (fun x => isBt x 0 ((n : Int) - 1)) && decide ((ds.map toI).Pairwise (· < ·))) && decide (0 < ds.length)) = true := hg
    rw [Bool.and_eq_true, Bool.and_eq_true] at hg
    have l := of_decide_eq_true hg.2
    rw [Bool.or_eq_true, decide_eq_true_eq, Bool.not_eq_true'] at h
    rcases h with rfl | h
    · cases l
    · have : ds.all isInt = true := List.all_eq_true.mpr fun d hd => by
        have := List.all_eq_true.mp hg.1.1 d hd
        unfold isBt at this
        rw [Bool.and_eq_true] at this
        exact this.1
      rw [this] at h; cases h
theorem ints_at : ∀ {ds : List PyData}, ds.all isInt = true → ∃ ns : List Int, ds = ns.map .int
  | [], _ => ⟨[], rfl⟩
  | d :: ds, h => by
    rw [List.all_cons, Bool.and_eq_true] at h
    obtain ⟨i, rfl, _⟩ := isInt_shape h.1
    obtain ⟨ns, rfl⟩ := ints_at h.2
    exact ⟨i :: ns, rfl⟩
theorem asc_bounds {N : Int} : ∀ {ns : List Int} (ne : ns ≠ []), ns.Pairwise (· < ·) → ((∀ x ∈ ns, 0 ≤ x ∧ x < N) ↔ 0 ≤ ns.head ne ∧ ns.getLast ne < N) := by
  intro ns ne h
  constructor
  · intro a
    exact ⟨(a _ (List.head_mem ne)).1, (a _ (List.getLast_mem ne)).2⟩
  · rintro ⟨h1, h2⟩ x hx
    constructor
    · cases ns with
      | nil => exact absurd rfl ne
      | cons y ys =>
        have h1 : 0 ≤ y := h1
        rcases List.mem_cons.mp hx with rfl | hx
        · exact h1
        · have := (List.pairwise_cons.mp h).1 x hx
          omega
    · have e := List.dropLast_concat_getLast ne
      rw [← e] at hx h
      rcases List.mem_append.mp hx with hx | hx
      · have := (List.pairwise_append.mp h).2.2 x hx _ (List.mem_singleton.mpr rfl)
        omega
      · rw [List.mem_singleton.mp hx]; exact h2
theorem grp_ints {n : Nat} {ns : List Int} (h : (ns.map PyData.int).all isInt = true) (ne : ns ≠ []) : grpW n (.dat (.tuple (ns.map .int))) = (decide (ns = ssetI ns) && (decide (0 ≤ ns.head ne) && decide (ns.getLast ne < (n : Int)))) := by
  show (((ns.map PyData.int).all (fun x => isBt x 0 ((n : Int) - 1)) && decide (((ns.map PyData.int).map toI).Pairwise (· < ·))) && decide (0 < (ns.map PyData.int).length)) = _
  have e : (ns.map PyData.int).map toI = ns := by
    rw [List.map_map]
    exact List.map_id' _
  rw [e, decide_eq_true (by rw [List.length_map]; exact List.length_pos_iff.mpr ne : 0 < (ns.map PyData.int).length), Bool.and_true, Bool.eq_iff_iff]
  simp only [Bool.and_eq_true, decide_eq_true_eq]
  rw [ssetI_iff]
  have key : (ns.map PyData.int).all (fun x => isBt x 0 ((n : Int) - 1)) = true ↔ ∀ x ∈ ns, 0 ≤ x ∧ x < (n : Int) := by
    rw [List.all_map, List.all_eq_true]
    rw [List.all_map, List.all_eq_true] at h
    refine forall_congr' fun x => forall_congr' fun hx => ?_
    have hi : isInt (.int x) = true := h x hx
    show (isInt (.int x) && (decide (0 ≤ x) && decide (x ≤ (n : Int) - 1))) = true ↔ _
    rw [hi, Bool.true_and, Bool.and_eq_true, decide_eq_true_eq, decide_eq_true_eq]
    omega
  rw [key]
  constructor
  · rintro ⟨h1, h2⟩
    exact ⟨h2, (asc_bounds ne h2).mp h1⟩
  · rintro ⟨h1, h2⟩
    exact ⟨(asc_bounds ne h1).mpr h2, h1⟩
section
variable {P : Program} {w : World} {K : PySem.W.Frag} {mg : Str → Option Value} {base : Heap} {C_Web C_Pool : Addr}
theorem ok_is_integer_v1 {f : Addr} {fd : FuncData} (B : Bf mg) (g_GREATEST : GInt mg "GREATEST" (10 ^ 60)) (okY : WxOk (YY K C_Web C_Pool P w)) (F : Fun K "is_integer" "is_integer" s_is_integer f fd) (hm : mg "is_integer" = some (.ref f)) (b : Binds K fd ["value"] []) : Gf P w K mg base 1 "is_integer" (SpN (fun g : Wv => [(fW (YY K C_Web C_Pool P w)) g]) (fun (g : Wv) (Q : Bool → Prop) => Q (intW g)) (fD K dB)) := by
  refine gw_mk F hm b sc_is_integer (fun _ => rfl) (fun _ => inferInstance) fun cdv A outer s H E g hr => ?_
  obtain ⟨v_value, hgen⟩ : ∃ x, x = g := ⟨g, rfl⟩
  subst hgen
  refine ⟨_, (pss_one (ps_ret (pe_and (p_isiS (.type "int") B (pa_cons (pv 0) (pa_cons (p_ty (by rfl) B.int boot_int) pa_nil))) (pe_and (pe_not (p_isiS (.type "bool") B (pa_cons (pv 0) (pa_cons (p_ty (by rfl) B.bool boot_bool) pa_nil)))) (pe_one (pe_chain op_lt op_lt (pe_un un_neg (p_gint g_GREATEST)) (pv 0) (p_gint g_GREATEST))))))), _,
    (ts_ret (tr_and (tr_cb (c_isiT okY "int") (ta_cons (tr_var (R := (fW (YY K C_Web C_Pool P w))) (a := v_value) rfl) (ta_one tr_ty))) (tr_and (tr_not (tr_cb (c_isiT okY "bool") (ta_cons (tr_var (R := (fW (YY K C_Web C_Pool P w))) (a := v_value) rfl) (ta_one tr_ty)))) (tr_chain (tr_un (tr_int (K := K))) (tr_Wi (X := YY K C_Web C_Pool P w) (tr_var (R := (fW (YY K C_Web C_Pool P w))) (a := v_value) rfl)) (tr_int (K := K)))))), ?_⟩
  rintro Q ⟨vs0, F0, hv⟩ hs
  try delta pur
  try dsimp only at hs hv ⊢
  refine andW_of (v_value.isT "int") (!v_value.isT "bool" && intW v_value) (fun P hP => hP) (fun h P hP => andW_of (!v_value.isT "bool") (intW v_value) (fun P hP => hP) (fun h2 P hP => ?_) hP) ?_
  · cases v_value with
    | dat d =>
      rw [isT_int] at h
      rw [isT_bool] at h2
      cases d with
      | int i =>
        show chW (fun Q X => Q (-10 ^ 60)) (fun Q E => ∃ j, Wv.dat (PyData.int i) = Wv.dat (PyData.int j) ∧ Q j) (fun Q x => Q (10 ^ 60)) (fun i j => decide (i < j)) (fun i j => decide (i < j)) P X0
        refine ⟨i, rfl, ?_⟩
        have hP : P (decide (-(10 ^ 60) < i) && decide (i < 10 ^ 60)) := hP
        show (if decide ((-10 ^ 60 : Int) < i) = true then P (decide (i < 10 ^ 60)) else P false)
        have hP : P (decide ((-10 ^ 60 : Int) < i) && decide (i < 10 ^ 60)) := hP
        cases e : decide ((-10 ^ 60 : Int) < i) with
        | true => rw [e] at hP; exact hP
        | false => rw [e] at hP; exact hP
      | bool b => cases h2
      | _ => cases h
    | _ => cases h
  · have e : (v_value.isT "int" && (!v_value.isT "bool" && intW v_value)) = intW v_value := by
      cases v_value with
      | dat d =>
        rw [isT_int, isT_bool]
        cases d <;> first | rfl | simp [intW, isInt]
      | _ => rfl
    rw [e]; exact hs
theorem ok_is_between_v1 {f : Addr} {fd : FuncData} (B : Bf mg) (c_is_integer_1 : Gf P w K mg base 1 "is_integer" (SpN (fun g : Wv => [(fW (YY K C_Web C_Pool P w)) g]) (fun (g : Wv) (Q : Bool → Prop) => Q (intW g)) (fD K dB))) (F : Fun K "is_between" "is_between" s_is_between f fd) (hm : mg "is_between" = some (.ref f)) (b : Binds K fd ["value", "low", "high"] []) : Gf P w K mg base 2 "is_between" (SpN (fun g : Wv × Int × Int => [(fW (YY K C_Web C_Pool P w)) g.1, (fD K dInt) g.2.1, (fD K dInt) g.2.2]) (fun (g : Wv × Int × Int) (Q : Bool → Prop) => Q (btW g.1 g.2.1 g.2.2)) (fD K dB)) := by
  refine gw_mk F hm b sc_is_between (fun _ => rfl) (fun _ => inferInstance) fun cdv A outer s H E g hr => ?_
  obtain ⟨v_value, v_low, v_high⟩ := g
  refine ⟨_, (pss_one (ps_ret (pe_and (p_call c_is_integer_1 hr (by decide) (pa_cons (pv 0) pa_nil)) (pe_one (pe_chain op_le op_le (pv 1) (pv 0) (pv 2)))))), _,
    (ts_ret (tr_and (tr_call (ta_one (tr_var (R := (fW (YY K C_Web C_Pool P w))) (a := v_value) rfl))) (tr_chain (tr_var (R := (fD K dInt)) (a := v_low) rfl) (tr_Wi (X := YY K C_Web C_Pool P w) (tr_var (R := (fW (YY K C_Web C_Pool P w))) (a := v_value) rfl)) (tr_var (R := (fD K dInt)) (a := v_high) rfl)))), ?_⟩
  rintro Q ⟨vs0, F0, hv⟩ hs
  try delta pur
  try dsimp only at hs hv ⊢
  refine andW_of (intW v_value) (btW v_value v_low v_high) (fun P hP => hP) (fun h P hP => ?_) ?_
  · cases v_value with
    | dat d =>
      have h : isInt d = true := h
      obtain ⟨i, rfl, _⟩ := isInt_shape h
      refine ⟨i, rfl, ?_⟩
      have hP : P (isInt (.int i) && (decide (v_low ≤ i) && decide (i ≤ v_high))) := hP
      rw [h, Bool.true_and] at hP
      show (if decide (v_low ≤ i) = true then _ else _)
      by_cases e : v_low ≤ i
      · rw [decide_eq_true e] at hP ⊢
        exact hP
      · rw [decide_eq_false e] at hP ⊢
        exact hP
    | _ => cases h
  · have e : (intW v_value && btW v_value v_low v_high) = btW v_value v_low v_high := by
      cases v_value with
      | dat d =>
        show (isInt d && (isInt d && _)) = (isInt d && _)
        cases isInt d <;> rfl
      | _ => rfl
    rw [e]; exact hs
theorem ok_is_rising_v1 {f : Addr} {fd : FuncData} (B : Bf mg) (c_is_between_1 : Gf P w K mg base 2 "is_between" (SpN (fun g : Wv × Int × Int => [(fW (YY K C_Web C_Pool P w)) g.1, (fD K dInt) g.2.1, (fD K dInt) g.2.2]) (fun (g : Wv × Int × Int) (Q : Bool → Prop) => Q (btW g.1 g.2.1 g.2.2)) (fD K dB))) (okY : WxOk (YY K C_Web C_Pool P w)) (F : Fun K "is_rising" "is_rising" s_is_rising f fd) (hm : mg "is_rising" = some (.ref f)) (b : Binds K fd ["value", "low", "high"] []) : Gf P w K mg base 3 "is_rising" (SpN (fun g : Wv × Int × Int => [(fW (YY K C_Web C_Pool P w)) g.1, (fD K dInt) g.2.1, (fD K dInt) g.2.2]) (fun (g : Wv × Int × Int) (Q : Bool → Prop) => (flatW g.1 ∧ 0 ≤ g.2.1) ∧ Q (risW g.1 g.2.1 g.2.2)) (fD K dB)) := by
  refine gw_mk F hm b sc_is_rising (fun _ => rfl) (fun _ => inferInstance) fun cdv A outer s H E g hr => ?_
  obtain ⟨v_value, v_low, v_high⟩ := g
  refine ⟨_, (pss_cons (ps_if (PW.pt (pw_or (pt_not (pt_val (p_isiS (.type "tuple") B (pa_cons (pv 0) (pa_cons (p_ty (by rfl) B.tuple boot_tuple) pa_nil))))) (pw_or1 (pt_not (pt_val (p_all rfl B (pa_cons (pe_lc (own := [("number", 3)]) (g := gName 3) (tt := tYes) rfl sc_is_rising.nd (pi_tup (pv 0)) (blkOk_by (N := N_is_rising) (sc := defScope s_is_rising) (by decide +kernel)) (fun _ _ _ _ _ => (pg_name (i := 3) sc_is_rising.nd rfl (by first | exact Or.inl rfl | exact Or.inr rfl))) (fun _ _ _ _ _ => pts_nil) (fun _ _ _ _ _ => by exact (p_call c_is_between_1 hr (by decide) (pa_cons (pv 3) (pa_cons (pv 1) (pa_cons (pv 2) pa_nil)))))) pa_nil)))))))
      (pss_one (ps_ret pe_bl))
      pss_nil)
    (pss_one (ps_ret (pe_cmpR (op_eqD hr.units) (p_list B (pa_cons (pv 0) pa_nil)) (p_sortedSet rfl B (pa_cons (p_set rfl B (pa_cons (pv 0) pa_nil)) pa_nil)) (nomark _))))), _,
    (ts_ifq (tt_or (tt_not (tt_B (tr_cb (c_isiT okY "tuple") (ta_cons (tr_var (R := (fW (YY K C_Web C_Pool P w))) (a := v_value) rfl) (ta_one tr_ty))))) (tt_not (tt_B (tr_cb c_all (ta_one (tr_lc (vs := [3]) (Rd := (fD K dB)) (ti_tup (tr_Wt (X := YY K C_Web C_Pool P w) (tr_var (R := (fW (YY K C_Web C_Pool P w))) (a := v_value) rfl))) (tg_name (R := (fW (YY K C_Web C_Pool P w))) 3) rfl rfl rfl (fun _ => rfl) (fun x1 => tt_yes) (fun x1 => (tr_call (ta_cons (tr_var (R := (fW (YY K C_Web C_Pool P w))) (a := x1) rfl) (ta_cons (tr_var (R := (fD K dInt)) (a := v_low) rfl) (ta_one (tr_var (R := (fD K dInt)) (a := v_high) rfl))))))))))))
      (ts_retq (tr_bl (K := K)))
      (ts_nextq (ts_ret (tr_op (o_eqD (d := (dL dN))) (tr_lnD (tr_cb (c_listT (R := (fD K dN))) (ta_one (tr_dTp (tr_WtN (X := YY K C_Web C_Pool P w) (tr_var (R := (fW (YY K C_Web C_Pool P w))) (a := v_value) rfl)))))) (tr_cb c_sortedSet (ta_one (tr_cb c_setT (ta_one (tr_WtN (X := YY K C_Web C_Pool P w) (tr_var (R := (fW (YY K C_Web C_Pool P w))) (a := v_value) rfl)))))))))), ?_⟩
  rintro Q ⟨vs0, F0, hv⟩ hs
  try delta pur
  try dsimp only at hs hv ⊢
  obtain ⟨⟨hf, h0⟩, q⟩ := hs
  by_cases ht : v_value.isT "tuple" = true
  · obtain ⟨ds, rfl⟩ := isT_tuple ht hf
    have hf : ds.length ≤ 60 := hf
    have em : ((ds.map Wv.dat).map fun x => btW x v_low v_high).all id = ds.all fun x => isBt x v_low v_high := by
      rw [List.map_map, List.all_map]; rfl
    refine orW_of false (!ds.all fun x => isBt x v_low v_high) (fun P hP => by rw [ht]; exact hP) (fun _ P hP => ⟨ds, rfl, by rw [List.length_map]; omega, lcW_map (h := fun x => btW x v_low v_high) (fun _ _ Q hQ => hQ) (by rw [em]; exact hP)⟩) ?_
    rw [Bool.false_or]
    replace q : Q ((ds.all fun x => isBt x v_low v_high) && decide ((ds.map toI).Pairwise (· < ·))) := q
    cases ha : ds.all fun x => isBt x v_low v_high with
    | false =>
      rw [ha] at q
      exact q
    | true =>
      rw [ha, Bool.true_and] at q
      obtain ⟨e, _⟩ := nat_ds h0 ha
      generalize (ds.map fun d => (toI d).toNat) = ns at e
      subst e
      rw [List.length_map] at hf
      refine ⟨ns, rfl, ns, rfl, by omega, by omega, ?_⟩
      have eq : decide (((ns.map dN).map toI).Pairwise (· < ·)) = decide (ns = sset ns) := decide_eq_decide.mpr ⟨fun h => (sset_eq (asc_ints.mp h) fun _ => Iff.rfl).symm, fun h => asc_ints.mpr (by rw [h]; exact asc_sset)⟩
      rw [← eq]; exact q
  · have ht : v_value.isT "tuple" = false := by simpa using ht
    refine orW_of true true (fun P hP => by rw [ht]; exact hP) (fun z => by cases z) ?_
    have e : risW v_value v_low v_high = false := by
      cases h : risW v_value v_low v_high with
      | false => rfl
      | true =>
        obtain ⟨ds, rfl⟩ := risW_tuple h
        rw [isT_tup] at ht; cases ht
    rw [e] at q
    exact q
abbrev s_is_group_of : Stmt := topS 26
abbrev N_is_group_of : List Str := ["pool", "value"]
theorem sc_is_group_of : FnScope N_is_group_of ["pool", "value"] (defScope s_is_group_of) := ⟨rfl, rfl, rfl, by decide +kernel, rfl, by decide +kernel, by decide +kernel⟩
theorem ok_is_group_of {f : Addr} {fd : FuncData} (B : Bf mg) (W_pool : PoolK K C_Pool) (c_is_rising_1 : Gf P w K mg base 3 "is_rising" (SpN (fun g : Wv × Int × Int => [(fW (YY K C_Web C_Pool P w)) g.1, (fD K dInt) g.2.1, (fD K dInt) g.2.2]) (fun (g : Wv × Int × Int) (Q : Bool → Prop) => (flatW g.1 ∧ 0 ≤ g.2.1) ∧ Q (risW g.1 g.2.1 g.2.2)) (fD K dB))) (F : Fun K "is_group_of" "is_group_of" s_is_group_of f fd) (hm : mg "is_group_of" = some (.ref f)) (b : Binds K fd ["pool", "value"] []) : Gf P w K mg base 4 "is_group_of" (SpN (fun g : (List Rows) × Wv => [(poolP C_Pool C_Web K P w) g.1, (fW (YY K C_Web C_Pool P w)) g.2]) (fun (g : List Rows × Wv) (Q : Bool → Prop) => (POk g.1 ∧ flatW g.2) ∧ Q (grpW g.1.length g.2)) (fD K dB)) := by
  refine gw_mk F hm b sc_is_group_of (fun _ => rfl) (fun _ => inferInstance) fun cdv A outer s H E g hr => ?_
  obtain ⟨v_pool, v_value⟩ := g
  refine ⟨_, (pss_one (ps_ret (pe_and (p_call c_is_rising_1 hr (by decide) (pa_cons (pv 1) (pa_cons pe_int (pa_cons (pe_op op_sub (p_len B (pa_cons (pe_sl (pv 0)) pa_nil)) pe_int) pa_nil)))) (pe_one (pe_cmpR op_gt (p_len B (pa_cons (pv 1) pa_nil)) pe_int (nomark _)))))), _,
    (ts_ret (tr_and (tr_call (ta_cons (tr_var (R := (fW (YY K C_Web C_Pool P w))) (a := v_value) rfl) (ta_cons (tr_int (K := K)) (ta_one (tr_op o_i0i (tr_ni (tr_cb c_lenT (ta_one (tr_fld (fl_pool_own_webs W_pool) (tr_var (R := (poolP C_Pool C_Web K P w)) (a := v_pool) rfl))))) (tr_int (K := K))))))) (tr_op o_gtN (tr_cb c_lenT (ta_one (tr_Wt (X := YY K C_Web C_Pool P w) (tr_var (R := (fW (YY K C_Web C_Pool P w))) (a := v_value) rfl)))) (tr_nat (K := K) 0)))), ?_⟩
  rintro Q ⟨vs0, F0, hv⟩ hs
  try delta pur
  try dsimp only at hs hv ⊢
  obtain ⟨⟨ok, hf⟩, q⟩ := hs
  refine andW_of (risW v_value 0 ((v_pool.length : Int) - 1)) (grpW v_pool.length v_value) (fun P hP => ⟨⟨hf, by decide⟩, hP⟩) (fun h P hP => ?_) ?_
  · obtain ⟨ds, rfl⟩ := risW_tuple h
    refine ⟨ds, rfl, ?_⟩
    unfold grpW at hP
    rw [h, Bool.true_and] at hP
    rw [List.length_map]
    exact hP
  · have e : (risW v_value 0 ((v_pool.length : Int) - 1) && grpW v_pool.length v_value) = grpW v_pool.length v_value := by
      unfold grpW
      rw [← Bool.and_assoc, Bool.and_self]
    rw [e]; exact q
abbrev s_Pool_is_group : Stmt := inClass (topS 24) 7
abbrev N_Pool_is_group : List Str := ["self", "value"]
theorem sc_Pool_is_group : FnScope N_Pool_is_group ["self", "value"] (defScope s_Pool_is_group) := ⟨rfl, rfl, rfl, by decide +kernel, rfl, by decide +kernel, by decide +kernel⟩
theorem ok_Pool_is_group {f : Addr} {fd : FuncData} (B : Bf mg) (c_is_group_of : Gf P w K mg base 4 "is_group_of" (SpN (fun g : (List Rows) × Wv => [(poolP C_Pool C_Web K P w) g.1, (fW (YY K C_Web C_Pool P w)) g.2]) (fun (g : List Rows × Wv) (Q : Bool → Prop) => (POk g.1 ∧ flatW g.2) ∧ Q (grpW g.1.length g.2)) (fD K dB))) (F : Fun K "is_group" "Pool.is_group" s_Pool_is_group f fd) : FnOk P w K mg base CX0 5 f fd ["self", "value"] (SpN (fun g : (List Rows) × Wv => [(poolP C_Pool C_Web K P w) g.1, (fW (YY K C_Web C_Pool P w)) g.2]) (fun (g : List Rows × Wv) (Q : Bool → Prop) => (POk g.1 ∧ flatW g.2) ∧ Q (grpW g.1.length g.2)) (fD K dB)) := by
  refine gw_met F sc_Pool_is_group (fun _ => rfl) (fun _ => inferInstance) fun cdv A outer s H E g hr => ?_
  obtain ⟨v_self, v_value⟩ := g
  refine ⟨_, (pss_one (ps_ret (p_call c_is_group_of hr (by decide) (pa_cons (pv 0) (pa_cons (pv 1) pa_nil))))), _,
    (ts_ret (tr_call (ta_cons (tr_var (R := (poolP C_Pool C_Web K P w)) (a := v_self) rfl) (ta_one (tr_var (R := (fW (YY K C_Web C_Pool P w))) (a := v_value) rfl))))), ?_⟩
  rintro Q ⟨vs0, F0, hv⟩ hs
  try delta pur
  try dsimp only at hs hv ⊢
  exact hs
abbrev s__law_is_whole : Stmt := topS 38
abbrev N__law_is_whole : List Str := ["_law_value"]
theorem sc__law_is_whole : FnScope N__law_is_whole ["_law_value"] (defScope s__law_is_whole) := ⟨rfl, rfl, rfl, by decide +kernel, rfl, by decide +kernel, by decide +kernel⟩
theorem ok__law_is_whole {f : Addr} {fd : FuncData} (B : Bf mg) (okY : WxOk (YY K C_Web C_Pool P w)) (F : Fun K "_law_is_whole" "_law_is_whole" s__law_is_whole f fd) (hm : mg "_law_is_whole" = some (.ref f)) (b : Binds K fd ["_law_value"] []) : Gf P w K mg base 1 "_law_is_whole" (SpN (fun g : Wv => [(fW (YY K C_Web C_Pool P w)) g]) (fun (g : Wv) (Q : Bool → Prop) => Q (intW g)) (fD K dB)) := by
  refine gw_mk F hm b sc__law_is_whole (fun _ => rfl) (fun _ => inferInstance) fun cdv A outer s H E g hr => ?_
  obtain ⟨v__law_value, hgen⟩ : ∃ x, x = g := ⟨g, rfl⟩
  subst hgen
  refine ⟨_, (pss_one (ps_ret (pe_and (p_isiS (.type "int") B (pa_cons (pv 0) (pa_cons (p_ty (by rfl) B.int boot_int) pa_nil))) (pe_and (pe_not (p_isiS (.type "bool") B (pa_cons (pv 0) (pa_cons (p_ty (by rfl) B.bool boot_bool) pa_nil)))) (pe_one (pe_cmpR op_lt (p_abs B (pa_cons (pv 0) pa_nil)) (pe_op Nq.op_powX pe_int pe_int) (nomark _))))))), _,
    (ts_ret (tr_and (tr_cb (c_isiT okY "int") (ta_cons (tr_var (R := (fW (YY K C_Web C_Pool P w))) (a := v__law_value) rfl) (ta_one tr_ty))) (tr_and (tr_not (tr_cb (c_isiT okY "bool") (ta_cons (tr_var (R := (fW (YY K C_Web C_Pool P w))) (a := v__law_value) rfl) (ta_one tr_ty)))) (tr_op o_i0b (tr_cb c_absI (ta_one (tr_Wi (X := YY K C_Web C_Pool P w) (tr_var (R := (fW (YY K C_Web C_Pool P w))) (a := v__law_value) rfl)))) (tr_op o_ii (tr_int (K := K)) (tr_int (K := K))))))), ?_⟩
  rintro Q ⟨vs0, F0, hv⟩ hs
  try delta pur
  try dsimp only at hs hv ⊢
  refine andW_of (v__law_value.isT "int") (!v__law_value.isT "bool" && intW v__law_value) (fun P hP => hP) (fun h P hP => andW_of (!v__law_value.isT "bool") (intW v__law_value) (fun P hP => hP) (fun h2 P hP => ?_) hP) ?_
  · cases v__law_value with
    | dat d =>
      rw [isT_int] at h
      rw [isT_bool] at h2
      cases d with
      | int i =>
        refine ⟨i, rfl, ⟨by decide, by decide +kernel⟩, ?_⟩
        have hP : P (decide (-(10 ^ 60) < i) && decide (i < 10 ^ 60)) := hP
        rw [abs_lt]
        exact hP
      | bool b => cases h2
      | _ => cases h
    | _ => cases h
  · have e : (v__law_value.isT "int" && (!v__law_value.isT "bool" && intW v__law_value)) = intW v__law_value := by
      cases v__law_value with
      | dat d =>
        rw [isT_int, isT_bool]
        cases d <;> first | rfl | simp [intW, isInt]
      | _ => rfl
    rw [e]; exact hs
abbrev s__law_is_group : Stmt := topS 39
abbrev N__law_is_group : List Str := ["_law_value", "_law_count", "_law_one"]
theorem sc__law_is_group : FnScope N__law_is_group ["_law_value", "_law_count"] (defScope s__law_is_group) := ⟨rfl, rfl, rfl, by decide +kernel, rfl, by decide +kernel, by decide +kernel⟩
theorem ok__law_is_group {f : Addr} {fd : FuncData} (B : Bf mg) (c_law_is_whole : Gf P w K mg base 1 "_law_is_whole" (SpN (fun g : Wv => [(fW (YY K C_Web C_Pool P w)) g]) (fun (g : Wv) (Q : Bool → Prop) => Q (intW g)) (fD K dB))) (okY : WxOk (YY K C_Web C_Pool P w)) (F : Fun K "_law_is_group" "_law_is_group" s__law_is_group f fd) (hm : mg "_law_is_group" = some (.ref f)) (b : Binds K fd ["_law_value", "_law_count"] []) : Gf P w K mg base 2 "_law_is_group" (SpN (fun g : Wv × Nat => [(fW (YY K C_Web C_Pool P w)) g.1, (fD K dN) g.2]) (fun (g : Wv × Nat) (Q : Bool → Prop) => (flatW g.1 ∧ shapeW g.1 ∧ g.2 ≤ 8) ∧ Q (grpW g.2 g.1)) (fD K dB)) := by
  refine gw_mk F hm b sc__law_is_group (fun _ => rfl) (fun _ => inferInstance) fun cdv A outer s H E g hr => ?_
  obtain ⟨v__law_value, v__law_count⟩ := g
  refine ⟨_, (pss_cons (ps_if (PW.pt (pw_or (pt_not (pt_val (p_isiS (.type "tuple") B (pa_cons (pv 0) (pa_cons (p_ty (by rfl) B.tuple boot_tuple) pa_nil))))) (pw_or (pt_cmpR (op_eqD hr.units) (pv 0) (pe_tup pa_nil) (nomark _)) (pw_or1 (pt_cmpR (op_neNil hr.units0) (pe_lc (own := [("_law_one", 2)]) (g := gName 2) rfl sc__law_is_group.nd (pi_tup (pv 0)) (blkOk_by (N := N__law_is_group) (sc := defScope s__law_is_group) (by decide +kernel)) (fun _ _ _ _ _ => (pg_name (i := 2) sc__law_is_group.nd rfl (by first | exact Or.inl rfl | exact Or.inr rfl))) (fun _ _ _ _ _ => (pts_one (pt_not (pt_val (p_call c_law_is_whole hr (by decide) (pa_cons (pv 2) pa_nil)))))) (fun _ _ _ _ _ => by exact (pv 2))) (pe_lst pa_nil) (nomark _))))))
      (pss_one (ps_ret pe_bl))
      pss_nil)
    (pss_one (ps_ret (pe_and (pe_cmpR (op_eqD hr.units) (p_list B (pa_cons (pv 0) pa_nil)) (p_sortedSet rfl B (pa_cons (p_set rfl B (pa_cons (pv 0) pa_nil)) pa_nil)) (nomark _)) (pe_and (pe_cmpR op_ge (pe_ix ix_tup (pv 0) pe_int (fun _ _ => rfl)) pe_int (nomark _)) (pe_one (pe_cmpR op_lt (pe_ix ix_tup (pv 0) (pe_un un_neg pe_int) (fun _ _ => rfl)) (pv 1) (nomark _)))))))), _,
    (ts_ifq (tt_or (tt_not (tt_B (tr_cb (c_isiT okY "tuple") (ta_cons (tr_var (R := (fW (YY K C_Web C_Pool P w))) (a := v__law_value) rfl) (ta_one tr_ty))))) (tt_or (tt_test (tr_op (o_eqA (d := dA) (e := (dT dN))) (tr_Wd (X := YY K C_Web C_Pool P w) (tr_var (R := (fW (YY K C_Web C_Pool P w))) (a := v__law_value) rfl)) (tr_tpD (tr_tup (R := (fD K dN)) (ta_lnil (R := (fD K dN))))))) (tt_test (tr_op (o_neNil (Rb := (fD K dN))) (tr_lc (vs := [2]) (Rd := (fW (YY K C_Web C_Pool P w))) (ti_tup (tr_Wt (X := YY K C_Web C_Pool P w) (tr_var (R := (fW (YY K C_Web C_Pool P w))) (a := v__law_value) rfl))) (tg_name (R := (fW (YY K C_Web C_Pool P w))) 2) rfl rfl rfl (fun _ => rfl) (fun x1 => (tt_not (tt_B (tr_call (ta_one (tr_var (R := (fW (YY K C_Web C_Pool P w))) (a := x1) rfl)))))) (fun x1 => (tr_var (R := (fW (YY K C_Web C_Pool P w))) (a := x1) rfl))) (tr_lst (R := (fD K dN)) (ta_lnil (R := (fD K dN))))))))
      (ts_retq (tr_bl (K := K)))
      (ts_nextq (ts_ret (tr_and (tr_op (o_eqD (d := (dL dInt))) (tr_lnD (tr_cb (c_listT (R := (fD K dInt))) (ta_one (tr_dTp (tr_WtI (X := YY K C_Web C_Pool P w) (tr_var (R := (fW (YY K C_Web C_Pool P w))) (a := v__law_value) rfl)))))) (tr_cb c_sortedSetI (ta_one (tr_cb c_setTI (ta_one (tr_WtI (X := YY K C_Web C_Pool P w) (tr_var (R := (fW (YY K C_Web C_Pool P w))) (a := v__law_value) rfl))))))) (tr_and (tr_op o_i0b (tr_Wi (X := YY K C_Web C_Pool P w) (tr_op o_ixTp (tr_Wt (X := YY K C_Web C_Pool P w) (tr_var (R := (fW (YY K C_Web C_Pool P w))) (a := v__law_value) rfl)) (tr_nat (K := K) 0))) (tr_int (K := K))) (tr_op o_i0b (tr_Wi (X := YY K C_Web C_Pool P w) (tr_op o_ixTpI (tr_Wt (X := YY K C_Web C_Pool P w) (tr_var (R := (fW (YY K C_Web C_Pool P w))) (a := v__law_value) rfl)) (tr_un (tr_int (K := K))))) (tr_ni (tr_var (R := (fD K dN)) (a := v__law_count) rfl)))))))), ?_⟩
  rintro Q ⟨vs0, F0, hv⟩ hs
  try delta pur
  try dsimp only at hs hv ⊢
  obtain ⟨⟨hf, hsh, h8⟩, q⟩ := hs
  by_cases ht : v__law_value.isT "tuple" = true
  · obtain ⟨ds, rfl⟩ := isT_tuple ht hf
    have hf : ds.length ≤ 60 := hf
    have hsh : SeqAt.shaped (.tuple ds) = true := hsh _ rfl
    refine orW_of false (decide (ds = []) || !ds.all isInt) (fun P hP => by rw [ht]; exact hP) (fun _ P hP => ?_) ?_
    · refine orW_of (decide (ds = [])) (!ds.all isInt) (fun P hP => ⟨.tuple ds, rfl, by decide, ⟨hsh, rfl⟩, by cases ds <;> exact hP⟩) (fun _ P hP => ?_) hP
      refine ⟨ds, rfl, by rw [List.length_map]; omega, lcW_of (f := fun x => !intW x) (h := fun x => x) (fun _ _ Q hQ => hQ) (fun _ _ _ Q hQ => hQ) ⟨by decide, rfl, ?_⟩⟩
      rw [List.map_id', none_left]
      exact hP
    · rw [Bool.false_or]
      cases hc : (decide (ds = []) || !ds.all isInt) with
      | true =>
        rw [grp_not hc] at q
        exact q
      | false =>
        rw [Bool.or_eq_false_iff, decide_eq_false_iff_not, Bool.not_eq_false'] at hc
        obtain ⟨ns, rfl⟩ := ints_at hc.2
        rw [if_neg Bool.false_ne_true]
        have ne : ns ≠ [] := fun z => hc.1 (by rw [z]; rfl)
        rw [List.length_map] at hf
        rw [grp_ints hc.2 ne] at q
        refine andW_of (decide (ns = ssetI ns)) (decide (0 ≤ ns.head ne) && decide (ns.getLast ne < (v__law_count : Int))) (fun P hP => ⟨ns, rfl, ns, rfl, by omega, by omega, hP⟩) (fun _ P hP => andW_of (decide (0 ≤ ns.head ne)) (decide (ns.getLast ne < (v__law_count : Int))) (fun P hP => ⟨_, rfl, Wv.dat (.int (ns.head ne)), ?_, _, rfl, hP⟩) (fun _ P hP => ⟨_, rfl, Wv.dat (.int (ns.getLast ne)), ?_, _, rfl, hP⟩) hP) q
        · rw [List.map_map, List.getElem?_map]
          cases ns with
          | nil => exact absurd rfl ne
          | cons x xs => rfl
        · have ne2 : (ns.map PyData.int).map Wv.dat ≠ [] := fun z => ne (List.map_eq_nil_iff.mp (List.map_eq_nil_iff.mp z))
          rw [atI_last ne2]
          simp only [List.getLast_map]
  · have ht : v__law_value.isT "tuple" = false := by simpa using ht
    refine orW_of true true (fun P hP => by rw [ht]; exact hP) (fun z => by cases z) ?_
    have e : grpW v__law_count v__law_value = false := by
      cases h : grpW v__law_count v__law_value with
      | false => rfl
      | true =>
        unfold grpW at h
        rw [Bool.and_eq_true] at h
        obtain ⟨ds, rfl⟩ := risW_tuple h.1
        rw [isT_tup] at ht; cases ht
    rw [e] at q
    exact q
end
end Wb

namespace Wb
open PySem PySem.Spec PyProof.Rows L2 SlX StX Rs Ma Sn Tw
variable [Rs.Tabz]
def PartOk (d : PyData) : Prop := d.canLay0 = true ∧ d.depth ≤ 3
theorem layAll : ∀ {ds : List PyData}, (∀ d ∈ ds, PartOk d) → PyData.canLayAll0 ds = true ∧ PyData.depthAll ds ≤ 3
  | [], _ => ⟨rfl, Nat.zero_le _⟩
  | d :: ds, h => by
    obtain ⟨h1, h2⟩ := layAll (fun x hx => h x (List.mem_cons_of_mem _ hx))
    have h3 := h d List.mem_cons_self
    exact ⟨by rw [PyData.canLayAll0, h1, h3.1]; rfl, by rw [PyData.depthAll]; exact Nat.max_le.mpr ⟨h3.2, h2⟩⟩
theorem shape_dat {d : PyData} (h : SeqAt.shaped d = true) : shapeW (.dat d) := fun d' z => by
  injection z with z
  subst z; exact h
theorem tup_ok {ds : List PyData} (h : ds.length ≤ 60) (hd : ∀ d ∈ ds, PartOk d) : flatW (.dat (.tuple ds)) ∧ shapeW (.dat (.tuple ds)) := ⟨h, shape_dat (shaped_of (by rw [PyData.canLay0]; exact (layAll hd).1) (by rw [PyData.depth]; have := (layAll hd).2; omega))⟩
theorem part_N {n : Nat} : PartOk (dN n) := ⟨by simp only [dN, PyData.canLay0], by simp only [dN, PyData.depth]; omega⟩
theorem part_b {b : Bool} : PartOk (dB b) := ⟨by simp only [dB, PyData.canLay0], by simp only [dB, PyData.depth]; omega⟩
theorem part_row {l : List Nat} : PartOk (dT dN l) := ⟨by
  unfold dT
  rw [PyData.canLay0]
  exact (layAll fun d hd => by obtain ⟨n, _, rfl⟩ := List.mem_map.mp hd; exact part_N).1, by
  unfold dT
  rw [PyData.depth]
  have := dep_all (f := dN) (k := 0) (fun _ => by simp only [dN, PyData.depth]; exact Nat.le_refl _) (xs := l)
  omega⟩
theorem row_ok {l : List Nat} (h : l.length ≤ 60) : flatW (.dat (dT dN l)) ∧ shapeW (.dat (dT dN l)) := tup_ok (by rw [List.length_map]; exact h) fun d hd => by
  obtain ⟨n, _, rfl⟩ := List.mem_map.mp hd
  exact part_N
theorem other_ok {d : PyData} (h : ∀ ds, d ≠ .tuple ds) (p : PartOk d) : flatW (.dat d) ∧ shapeW (.dat d) := ⟨by cases d <;> first | exact True.intro | exact absurd rfl (h _), shape_dat (shaped_of p.1 (by have := p.2; omega))⟩
theorem odd_ok {n : Nat} {l : List Nat} {a : Wv} (h : l.length ≤ 8) (ha : a ∈ [Wv.dat (dT dN l.reverse), Wv.dat (dT dN (l ++ [n])), Wv.dat (dT dA ([dInt (-1)] ++ List.map dN l)), Wv.dat (dT dN (l ++ l)), Wv.dat (dL dN l), Wv.dat (dT dN []), Wv.dat (dU ()), Wv.dat (dN 0), Wv.dct, Wv.dat (dS (Str.ofString "01"))] ++ [Wv.dat (dT dB (l.map fun x => decide (x = 1))), Wv.dat (dT (dT dN) [l]), Wv.dat (dT dA (List.map dN l ++ [dU ()])), Wv.dat (dT dInt [10 ^ Int.toNat 60]), Wv.dat (dT dS [Str.ofString "0"]), Wv.dat (dT dN l), Wv.dat (dT dN l)]) : flatW a ∧ shapeW a := by
  simp only [List.cons_append, List.nil_append, List.mem_cons, List.not_mem_nil, or_false] at ha
  rcases ha with rfl | rfl | rfl | rfl | rfl | rfl | rfl | rfl | rfl | rfl | rfl | rfl | rfl | rfl | rfl | rfl | rfl
  · exact row_ok (by rw [List.length_reverse]; omega)
  · exact row_ok (by rw [List.length_append, List.length_singleton]; omega)
  · refine tup_ok (ds := (PyData.int (-1) :: l.map dN).map dA) (by rw [List.length_map, List.length_cons, List.length_map]; omega) fun d hd => ?_
    obtain ⟨e, he, rfl⟩ := List.mem_map.mp hd
    rcases List.mem_cons.mp he with rfl | he
    · exact ⟨by decide, by decide⟩
    · obtain ⟨k, _, rfl⟩ := List.mem_map.mp he
      exact part_N
  · exact row_ok (by rw [List.length_append]; omega)
  · refine other_ok (fun ds z => nomatch z) ⟨?_, ?_⟩
    · unfold dL
      rw [PyData.canLay0]
      exact (layAll fun d hd => by obtain ⟨n, _, rfl⟩ := List.mem_map.mp hd; exact part_N).1
    · unfold dL
      rw [PyData.depth]
      have := dep_all (f := dN) (k := 0) (fun _ => by simp only [dN, PyData.depth]; exact Nat.le_refl _) (xs := l)
      omega
  · exact row_ok (by decide)
  · exact other_ok (fun ds z => nomatch z) ⟨by decide, by decide⟩
  · exact other_ok (fun ds z => nomatch z) part_N
  · exact ⟨True.intro, fun d z => nomatch z⟩
  · exact other_ok (fun ds z => nomatch z) ⟨by decide +kernel, by decide +kernel⟩
  · refine tup_ok (ds := (l.map fun x => decide (x = 1)).map dB) (by rw [List.length_map, List.length_map]; omega) fun d hd => ?_
    obtain ⟨b, _, rfl⟩ := List.mem_map.mp hd
    exact part_b
  · refine tup_ok (ds := [dT dN l]) (by show 1 ≤ 60; decide) fun d hd => ?_
    rw [List.mem_singleton.mp hd]; exact part_row
  · refine tup_ok (ds := (l.map dN ++ [dU ()]).map dA) (by rw [List.length_map, List.length_append, List.length_map, List.length_singleton]; omega) fun d hd => ?_
    obtain ⟨e, he, rfl⟩ := List.mem_map.mp hd
    rcases List.mem_append.mp he with he | he
    · obtain ⟨k, _, rfl⟩ := List.mem_map.mp he
      exact part_N
    · rw [List.mem_singleton.mp he]; exact ⟨by decide, by decide⟩
  · refine tup_ok (ds := [dInt (10 ^ Int.toNat 60)]) (by decide) fun d hd => ?_
    rw [List.mem_singleton.mp hd]; exact ⟨by decide +kernel, by decide +kernel⟩
  · refine tup_ok (ds := [dS (Str.ofString "0")]) (by decide) fun d hd => ?_
    rw [List.mem_singleton.mp hd]; exact ⟨by decide +kernel, by decide +kernel⟩
  · exact row_ok (by omega)
  · exact row_ok (by omega)
section
variable {P : Program} {w : World} {K : PySem.W.Frag} {mg : Str → Option Value} {base : Heap} {C_Web C_Pool : Addr}
abbrev s__law_groups_right : Stmt := topS 40
abbrev N__law_groups_right : List Str := ["_law_cask_here", "_law_pool", "_law_turn", "_law_value", "_law_odd", "_law_one"]
theorem sc__law_groups_right : FnScope N__law_groups_right ["_law_cask_here", "_law_pool"] (defScope s__law_groups_right) := ⟨rfl, rfl, rfl, by decide +kernel, rfl, by decide +kernel, by decide +kernel⟩
theorem ok__law_groups_right {f : Addr} {fd : FuncData} (B : Bf mg) (c_law_few_of : Gf P w K mg base 2 "_law_few_of" (SpN (fun g : Unit × (List Nat) × Nat => [(fCk 3) g.1, (fLn (fD K dN)) g.2.1, (fD K dN) g.2.2]) spFew (fLn (fD K dN)))) (c_pool_len : OwnS P w K mg base "__len__" 1 C_Pool (SpN (fun g : (List Rows) => [(poolP C_Pool C_Web K P w) g]) (fun (g : List Rows) (Q : Nat → Prop) => Q g.length) (fD K dN))) (c_law_scoop : Gf P w K mg base 1 "_law_scoop" (SpN (fun g : Unit × Nat => [(fCk 3) g.1, (fD K dN) g.2]) (fun (g : Unit × Nat) (Q : Nat → Prop) => (1 ≤ g.2 ∧ g.2 ≤ 1000) ∧ ∀ n, n < g.2 → Q n) (fD K dN))) (c_law_any_of_3 : Gf P w K mg base 2 "_law_any_of" (SpN (fun g : Unit × (List Wv) => [(fCk 3) g.1, (fLn (fW (YY K C_Web C_Pool P w))) g.2]) spAny (fW (YY K C_Web C_Pool P w)))) (c_pool_is_group : MetS P w K mg base 5 C_Pool "is_group" (SpN (fun g : (List Rows) × Wv => [(poolP C_Pool C_Web K P w) g.1, (fW (YY K C_Web C_Pool P w)) g.2]) (fun (g : List Rows × Wv) (Q : Bool → Prop) => (POk g.1 ∧ flatW g.2) ∧ Q (grpW g.1.length g.2)) (fD K dB))) (c_law_is_group : Gf P w K mg base 2 "_law_is_group" (SpN (fun g : Wv × Nat => [(fW (YY K C_Web C_Pool P w)) g.1, (fD K dN) g.2]) (fun (g : Wv × Nat) (Q : Bool → Prop) => (flatW g.1 ∧ shapeW g.1 ∧ g.2 ≤ 8) ∧ Q (grpW g.2 g.1)) (fD K dB))) (F : Fun K "_law_groups_right" "_law_groups_right" s__law_groups_right f fd) (hm : mg "_law_groups_right" = some (.ref f)) (b : Binds K fd ["_law_cask_here", "_law_pool"] []) : Gf P w K mg base 8 "_law_groups_right" (SpN (fun g : Unit × (List Rows) => [(fCk 3) g.1, (poolP C_Pool C_Web K P w) g.2]) (fun (g : Unit × List Rows) (Q : Bool → Prop) => POk g.2 ∧ Q true) (fD K dB)) := by
  refine gw_mk F hm b sc__law_groups_right (fun _ => rfl) (fun _ => inferInstance) fun cdv A outer s H E g hr => ?_
  obtain ⟨v__law_cask_here, v__law_pool⟩ := g
  refine ⟨_, (pss_cons (ps_for PassesOwn.never rfl (pi_range1 (by rfl) B.range (pa_cons pe_int pa_nil)) (pg_name (i := 2) sc__law_groups_right.nd rfl (by first | exact Or.inl rfl | exact Or.inr rfl))
      (pss_cons (ps_set (i := 3) sc__law_groups_right.nd rfl (by first | exact Or.inl rfl | exact Or.inr rfl) (p_tuple B (pa_cons (p_sortedL B (pa_cons (p_call c_law_few_of hr (by decide) (pa_cons (pv 0) (pa_cons (p_listRg rfl B (p_lenO B c_pool_len hr (by decide) (pa_cons (pv 1) pa_nil))) (pa_cons (pe_op op_add pe_int (p_call c_law_scoop hr (by decide) (pa_cons (pv 0) (pa_cons (p_lenO B c_pool_len hr (by decide) (pa_cons (pv 1) pa_nil)) pa_nil)))) pa_nil)))) pa_nil)) pa_nil)))
      (pss_cons (ps_set (i := 4) sc__law_groups_right.nd rfl (by first | exact Or.inl rfl | exact Or.inr rfl) (pe_lst (pa_cons (pe_revT K (pv 3)) (pa_cons (pe_op op_catA (pv 3) (pe_tup (pa_cons (p_lenO B c_pool_len hr (by decide) (pa_cons (pv 1) pa_nil)) pa_nil))) (pa_cons (pe_op op_catA (pe_tup (pa_cons (pe_un un_neg pe_int) pa_nil)) (pv 3)) (pa_cons (pe_op op_catA (pv 3) (pv 3)) (pa_cons (p_list B (pa_cons (pv 3) pa_nil)) (pa_cons (pe_tup pa_nil) (pa_cons pe_non (pa_cons pe_int (pa_cons pe_dnewK (pa_cons pe_str pa_nil))))))))))))
      (pss_cons (ps_set (i := 4) sc__law_groups_right.nd rfl (by first | exact Or.inl rfl | exact Or.inr rfl) (pe_op op_cat (pv 4) (pe_lst (pa_cons (p_tuple B (pa_cons (pe_lc (own := [("_law_one", 5)]) (g := gName 5) (tt := tYes) rfl sc__law_groups_right.nd (pi_tup (pv 3)) (blkOk_by (N := N__law_groups_right) (sc := defScope s__law_groups_right) (by decide +kernel)) (fun _ _ _ _ _ => (pg_name (i := 5) sc__law_groups_right.nd rfl (by first | exact Or.inl rfl | exact Or.inr rfl))) (fun _ _ _ _ _ => pts_nil) (fun _ _ _ _ _ => by exact (pe_cmpR op_eq (pv 5) pe_int (nomark _)))) pa_nil)) (pa_cons (pe_tup (pa_cons (pv 3) pa_nil)) (pa_cons (pe_op op_catA (pv 3) (pe_tup (pa_cons pe_non pa_nil))) (pa_cons (pe_tup (pa_cons (pe_op Nq.op_powX pe_int pe_int) pa_nil)) (pa_cons (pe_tup (pa_cons pe_str pa_nil)) (pa_cons (pv 3) (pa_cons (pv 3) pa_nil))))))))))
      (pss_one (ps_for PassesOwn.never rfl (pi_tup (pe_tup (pa_cons (pv 3) (pa_cons (p_call c_law_any_of_3 hr (by decide) (pa_cons (pv 0) (pa_cons (pv 4) pa_nil))) pa_nil)))) (pg_name (i := 5) sc__law_groups_right.nd rfl (by first | exact Or.inl rfl | exact Or.inr rfl))
        (pss_one (ps_if (pt_cmpR op_ne (p_reprB B (pa_cons (p_met c_pool_is_group hr (by decide) (pv 1) (pa_cons (pv 5) pa_nil)) pa_nil)) (p_reprB B (pa_cons (p_call c_law_is_group hr (by decide) (pa_cons (pv 5) (pa_cons (p_lenO B c_pool_len hr (by decide) (pa_cons (pv 1) pa_nil)) pa_nil))) pa_nil)) (nomark _))
          (pss_one (ps_ret pe_bl))
          pss_nil))))))))
    (pss_one (ps_ret pe_bl))), _,
    (ts_for (S1 := Unit) (ρ1 := fun s1 => [some ((fCk 3) v__law_cask_here), some ((poolP C_Pool C_Web K P w) v__law_pool), none, none, none, none]) (κ1s := fun s1 => []) () (leV_some (leV_some (leV_none (leV_none (leV_none (leV_none leV_nil)))))) (fun _ _ _ h => h) (ti_rangeN (tr_nat (K := K) 8)) (tg_name (R := (fD K dN)) 2) (fun _ => rfl)
      (fun s1 x2 => (ts_set (R := (fD K (dT dN))) 3 (tr_cb c_tupDL (ta_one (tr_lnD (tr_cb c_sortedLn (ta_one (tr_call (ta_cons (tr_var (R := (fCk 3)) (a := v__law_cask_here) rfl) (ta_cons (tn_listRg (tr_cb (c_lenOwn is_pool) (ta_one (tr_var (R := (poolP C_Pool C_Web K P w)) (a := v__law_pool) rfl)))).e (ta_one (tr_op o_addN (tr_nat (K := K) 1) (tr_call (ta_cons (tr_var (R := (fCk 3)) (a := v__law_cask_here) rfl) (ta_one (tr_cb (c_lenOwn is_pool) (ta_one (tr_var (R := (poolP C_Pool C_Web K P w)) (a := v__law_pool) rfl)))))))))))))))) rfl (fun v_law_value_3 => (ts_set (R := (fLn (fW (YY K C_Web C_Pool P w)))) 4 (tr_lst (R := (fW (YY K C_Web C_Pool P w))) (ta_lcons (R := (fW (YY K C_Web C_Pool P w))) (tr_dW (X := YY K C_Web C_Pool P w) (d := (dT dN)) (tr_tpD (tr_revT (tr_dTp (tr_var (R := (fD K (dT dN))) (a := v_law_value_3) rfl))))) (ta_lcons (R := (fW (YY K C_Web C_Pool P w))) (tr_dW (X := YY K C_Web C_Pool P w) (d := (dT dN)) (tr_op o_catDT (tr_var (R := (fD K (dT dN))) (a := v_law_value_3) rfl) (tr_tpD (tr_tup (R := (fD K dN)) (ta_lcons (R := (fD K dN)) (tr_cb (c_lenOwn is_pool) (ta_one (tr_var (R := (poolP C_Pool C_Web K P w)) (a := v__law_pool) rfl))) (ta_lnil (R := (fD K dN)))))))) (ta_lcons (R := (fW (YY K C_Web C_Pool P w))) (tr_dW (X := YY K C_Web C_Pool P w) (d := (dT dA)) (tr_op o_catDT (tr_tpD (tr_tup (R := (fD K dA)) (ta_lcons (R := (fD K dA)) (tr_any (tr_un (tr_int (K := K)))) (ta_lnil (R := (fD K dA)))))) (tr_tAny (tr_var (R := (fD K (dT dN))) (a := v_law_value_3) rfl)))) (ta_lcons (R := (fW (YY K C_Web C_Pool P w))) (tr_dW (X := YY K C_Web C_Pool P w) (d := (dT dN)) (tr_op o_catDT (tr_var (R := (fD K (dT dN))) (a := v_law_value_3) rfl) (tr_var (R := (fD K (dT dN))) (a := v_law_value_3) rfl))) (ta_lcons (R := (fW (YY K C_Web C_Pool P w))) (tr_dW (X := YY K C_Web C_Pool P w) (d := (dL dN)) (tr_lnD (tr_cb (c_listT (R := (fD K dN))) (ta_one (tr_dTp (tr_var (R := (fD K (dT dN))) (a := v_law_value_3) rfl)))))) (ta_lcons (R := (fW (YY K C_Web C_Pool P w))) (tr_dW (X := YY K C_Web C_Pool P w) (d := (dT dN)) (tr_tpD (tr_tup (R := (fD K dN)) (ta_lnil (R := (fD K dN)))))) (ta_lcons (R := (fW (YY K C_Web C_Pool P w))) (tr_dW (X := YY K C_Web C_Pool P w) (d := dU) (tr_non (K := K))) (ta_lcons (R := (fW (YY K C_Web C_Pool P w))) (tr_dW (X := YY K C_Web C_Pool P w) (d := dN) (tr_nat (K := K) 0)) (ta_lcons (R := (fW (YY K C_Web C_Pool P w))) (tr_dct (X := YY K C_Web C_Pool P w)) (ta_lcons (R := (fW (YY K C_Web C_Pool P w))) (tr_dW (X := YY K C_Web C_Pool P w) (d := dS) (tr_str (K := K))) (ta_lnil (R := (fW (YY K C_Web C_Pool P w))))))))))))))) rfl (fun v_law_odd_4 => (ts_set (R := (fLn (fW (YY K C_Web C_Pool P w)))) 4 (tr_op (o_cat (R := (fW (YY K C_Web C_Pool P w)))) (tr_var (R := (fLn (fW (YY K C_Web C_Pool P w)))) (a := v_law_odd_4) rfl) (tr_lst (R := (fW (YY K C_Web C_Pool P w))) (ta_lcons (R := (fW (YY K C_Web C_Pool P w))) (tr_dW (X := YY K C_Web C_Pool P w) (d := (dT dB)) (tr_cb c_tupDL (ta_one (tr_lnD (tr_lc (vs := [5]) (Rd := (fD K dB)) (ti_tupD (tr_var (R := (fD K (dT dN))) (a := v_law_value_3) rfl)) (tg_name (R := (fD K dN)) 5) rfl rfl rfl (fun _ => rfl) (fun x5 => tt_yes) (fun x5 => (tr_op o_eqN (tr_var (R := (fD K dN)) (a := x5) rfl) (tr_nat (K := K) 1)))))))) (ta_lcons (R := (fW (YY K C_Web C_Pool P w))) (tr_dW (X := YY K C_Web C_Pool P w) (d := (dT (dT dN))) (tr_tpD (tr_tup (R := (fD K (dT dN))) (ta_lcons (R := (fD K (dT dN))) (tr_var (R := (fD K (dT dN))) (a := v_law_value_3) rfl) (ta_lnil (R := (fD K (dT dN)))))))) (ta_lcons (R := (fW (YY K C_Web C_Pool P w))) (tr_dW (X := YY K C_Web C_Pool P w) (d := (dT dA)) (tr_op o_catDT (tr_tAny (tr_var (R := (fD K (dT dN))) (a := v_law_value_3) rfl)) (tr_tpD (tr_tup (R := (fD K dA)) (ta_lcons (R := (fD K dA)) (tr_any (tr_non (K := K))) (ta_lnil (R := (fD K dA)))))))) (ta_lcons (R := (fW (YY K C_Web C_Pool P w))) (tr_dW (X := YY K C_Web C_Pool P w) (d := (dT dInt)) (tr_tpD (tr_tup (R := (fD K dInt)) (ta_lcons (R := (fD K dInt)) (tr_op o_ii (tr_int (K := K)) (tr_int (K := K))) (ta_lnil (R := (fD K dInt))))))) (ta_lcons (R := (fW (YY K C_Web C_Pool P w))) (tr_dW (X := YY K C_Web C_Pool P w) (d := (dT dS)) (tr_tpD (tr_tup (R := (fD K dS)) (ta_lcons (R := (fD K dS)) (tr_str (K := K)) (ta_lnil (R := (fD K dS))))))) (ta_lcons (R := (fW (YY K C_Web C_Pool P w))) (tr_dW (X := YY K C_Web C_Pool P w) (d := (dT dN)) (tr_var (R := (fD K (dT dN))) (a := v_law_value_3) rfl)) (ta_lcons (R := (fW (YY K C_Web C_Pool P w))) (tr_dW (X := YY K C_Web C_Pool P w) (d := (dT dN)) (tr_var (R := (fD K (dT dN))) (a := v_law_value_3) rfl)) (ta_lnil (R := (fW (YY K C_Web C_Pool P w))))))))))))) rfl (fun v_law_odd_6 => (ts_one (ts_for (S1 := Unit) (ρ1 := fun s7 => [some ((fCk 3) v__law_cask_here), some ((poolP C_Pool C_Web K P w) v__law_pool), some ((fD K dN) x2), some ((fD K (dT dN)) v_law_value_3), some ((fLn (fW (YY K C_Web C_Pool P w))) v_law_odd_6), none]) (κ1s := fun s7 => []) () (leV_some (leV_some (leV_some (leV_some (leV_some (leV_none leV_nil)))))) (fun _ _ _ h => h) (ti_tup (tr_tup (R := (fW (YY K C_Web C_Pool P w))) (ta_lcons (R := (fW (YY K C_Web C_Pool P w))) (tr_dW (X := YY K C_Web C_Pool P w) (d := (dT dN)) (tr_var (R := (fD K (dT dN))) (a := v_law_value_3) rfl)) (ta_lcons (R := (fW (YY K C_Web C_Pool P w))) (tr_call (ta_cons (tr_var (R := (fCk 3)) (a := v__law_cask_here) rfl) (ta_one (tr_var (R := (fLn (fW (YY K C_Web C_Pool P w)))) (a := v_law_odd_6) rfl)))) (ta_lnil (R := (fW (YY K C_Web C_Pool P w)))))))) (tg_name (R := (fW (YY K C_Web C_Pool P w))) 5) (fun _ => rfl)
      (fun s7 x8 => (ts_one (ts_ifq (tt_test (tr_op o_neS (tr_cb c_reprB (ta_one (tr_met (tr_var (R := (poolP C_Pool C_Web K P w)) (a := v__law_pool) rfl) is_pool (ta_one (tr_var (R := (fW (YY K C_Web C_Pool P w))) (a := x8) rfl))))) (tr_cb c_reprB (ta_one (tr_call (ta_cons (tr_var (R := (fW (YY K C_Web C_Pool P w))) (a := x8) rfl) (ta_one (tr_cb (c_lenOwn is_pool) (ta_one (tr_var (R := (poolP C_Pool C_Web K P w)) (a := v__law_pool) rfl))))))))))
      (ts_retq (tr_bl (K := K)))
      (ts_nextq (ts_next () (leV_some (leV_some (leV_some (leV_some (leV_some (leV_none leV_nil)))))) (fun _ _ _ h => h))))))
      (fun s7 => (ts_next () (leV_some (leV_some (leV_none (leV_none (leV_none (leV_none leV_nil)))))) (fun _ _ _ h => h))))))))))))
      (fun s1 => (ts_ret (tr_bl (K := K))))), ?_⟩
  rintro Q ⟨vs0, F0, hv⟩ hs
  try delta pur
  try dsimp only [spAny, spFew] at hs hv ⊢
  obtain ⟨ok, q⟩ := hs
  have n8 := ok.le
  have n1 := ok.pos
  refine ⟨by decide, forW_fold (f := fun _ _ => ()) (fun x _ s P hP => ⟨by omega, by omega, by omega, ⟨n1, by omega⟩, fun n hn => ⟨by rw [List.length_range]; omega, fun ys zs pm hl => ?_⟩⟩) q⟩
  rw [List.length_range] at hl
  have l8 : ys.length ≤ 8 := by omega
  have sl : (sortN ys).length ≤ 8 := by rw [sortN_perm.length_eq]; exact l8
  refine ⟨by omega, by omega, by show 1 ≤ 100000; decide, ?_⟩
  generalize sortN ys = l at sl ⊢
  refine ⟨by show l.length + 1 ≤ 10000; omega, by show 1 ≤ 100000; decide, by show 1 + (l.map dN).length ≤ 10000; rw [List.length_map]; omega, by omega, by decide, by show 10 ≤ 100000; decide, by omega, lcW_map (h := fun x => decide (x = 1)) (fun _ _ Q hQ => hQ) ?_⟩
  refine ⟨by show 1 ≤ 100000; decide, by show 1 ≤ 100000; decide, by show (l.map dN).length + 1 ≤ 10000; rw [List.length_map]; omega, ⟨by decide, by decide +kernel⟩, by decide, by decide, by show 7 ≤ 100000; decide, by show 10 + 7 ≤ 10000; decide, ⟨by simp, by show 17 ≤ 1000; decide⟩, fun a ha => ⟨by show 2 ≤ 100000; decide, ?_⟩⟩
  have ha := odd_ok sl ha
  refine forW_fold (f := fun _ _ => ()) (fun y hy s2 P2 hP2 => ?_) hP
  have hy : flatW y ∧ shapeW y := by
    rcases List.mem_cons.mp hy with rfl | hy
    · exact row_ok (by omega)
    · rw [List.mem_singleton.mp hy]; exact ha
  refine ⟨⟨ok, hy.1⟩, by omega, ⟨hy.1, hy.2, n8⟩, ?_⟩
  rw [decide_eq_true rfl]; exact hP2
end
end Wb

namespace Wb
open PySem PySem.Spec PyProof.Rows L2 SlX StX Rs Ma Sn Tw
variable [Rs.Tabz]
/-- a value that is no tuple of webs, or the empty one -/
def badV (w : Wv) : Prop := w.isT "tuple" = false ∨ ∃ ws, w.items = some ws ∧ ws.length ≤ 60 ∧ (ws = [] ∨ ∃ x ∈ ws, x.isWeb = false)
noncomputable def poB (rss : List Rows) : Bool := @decide (POk rss) (Classical.propDecidable _)
theorem items_tup {w : Wv} {ws : List Wv} (h : w.items = some ws) : w.isT "tuple" = true := by
  cases w with
  | dat d =>
    cases d with
    | tuple ds => exact isT_tup
    | _ => cases h
  | tp us => rfl
  | _ => cases h
theorem part_rows {r : Rows} : PartOk (dT (dT dN) r) := ⟨by
  unfold dT
  rw [PyData.canLay0]
  exact (layAll fun d hd => by obtain ⟨n, _, rfl⟩ := List.mem_map.mp hd; exact part_row).1, by
  unfold dT
  rw [PyData.depth]
  have := dep_all (f := fun xs : List Nat => PyData.tuple (xs.map dN)) (k := 1) (fun l => by
    rw [PyData.depth]
    have := dep_all (f := dN) (k := 0) (fun _ => by simp only [dN, PyData.depth]; exact Nat.le_refl _) (xs := l)
    omega) (xs := r)
  omega⟩
theorem sh_rows {r : Rows} : SeqAt.shaped (dT (dT dN) r) = true := shaped_of part_rows.1 (by have := (part_rows (r := r)).2; omega)
theorem sh_pool {rss : List Rows} : SeqAt.shaped (dL (dT (dT dN)) rss) = true := shaped_of (by
  unfold dL
  rw [PyData.canLay0]
  exact (layAll fun d hd => by obtain ⟨n, _, rfl⟩ := List.mem_map.mp hd; exact part_rows).1) (by
  unfold dL
  rw [PyData.depth]
  have := dep_all (f := dT (dT dN)) (k := 3) (fun r => (part_rows (r := r)).2) (xs := rss)
  omega)
theorem eqv_nilP {a : List Rows} : (dL (dT (dT dN)) a).eqv (dL dN []) = decide (a = []) := by cases a <;> rfl
def rowsOf : Wv → Rows
  | .web rs => rs
  | _ => []
theorem map_rows {rss : List Rows} : (rss.map Wv.web).map rowsOf = rss := by
  rw [List.map_map]
  exact List.map_id' _
/-- what the law asks of rows -/
def oddRow (rss : List Rows) (r : Rows) : Bool := decide (1 < rss.countP fun z => (dT (dT dN) z).eqv (dT (dT dN) r)) || !decide (r.length = (rss.headD []).length)
theorem po_iff {rss : List Rows} (ok : ∀ rs ∈ rss, Ok rs) (h1 : 1 ≤ rss.length) (h8 : rss.length ≤ 8) : decide (rss.filter (oddRow rss) = []) = poB rss := by
  unfold poB
  refine decide_eq_decide.mpr ?_
  rw [List.filter_eq_nil_iff]
  have hc : ∀ r : Rows, (rss.countP fun z => (dT (dT dN) z).eqv (dT (dT dN) r)) = rss.count r := fun r => by
    unfold List.count
    congr 1
    funext z
    rw [show (dT (dT dN) z).eqv (dT (dT dN) r) = decide (z = r) from eqv_rows, Bool.eq_iff_iff]
    simp
  have hp : psize rss = (rss.headD []).length := by
    cases rss with
    | nil => cases h1
    | cons r rs => rfl
  constructor
  · intro h
    have key : ∀ r ∈ rss, rss.count r ≤ 1 ∧ r.length = (rss.headD []).length := fun r hr => by
      have := h r hr
      unfold oddRow at this
      rw [Bool.or_eq_true, decide_eq_true_eq, Bool.not_eq_true', decide_eq_false_iff_not, hc, not_or] at this
      exact ⟨Nat.le_of_not_lt this.1, Classical.not_not.mp this.2⟩
    exact ⟨h1, h8, List.nodup_iff_count.mpr fun a => by
      by_cases ha : a ∈ rss
      · exact (key a ha).1
      · rw [List.count_eq_zero_of_not_mem ha]; exact Nat.zero_le _, ok, fun r hr => by rw [hp]; exact (key r hr).2⟩
  · intro p r hr
    unfold oddRow
    rw [Bool.or_eq_true, decide_eq_true_eq, Bool.not_eq_true', decide_eq_false_iff_not, hc, not_or]
    exact ⟨Nat.not_lt.mpr (List.nodup_iff_count.mp p.nd r), Classical.not_not.mpr (by rw [← hp]; exact p.sz r hr)⟩
theorem no_odd {ws : List Wv} (h : ∃ x ∈ ws, x.isWeb = false) : ¬ (ws.filter fun x => !x.isWeb).length = 0 := fun z => by
  obtain ⟨x, hx, hw⟩ := h
  have := List.filter_eq_nil_iff.mp (List.length_eq_zero_iff.mp z) x hx
  rw [hw] at this
  exact this rfl
theorem all_webs {rss : List Rows} : ((rss.map Wv.web).filter fun x => !x.isWeb) = [] := List.filter_eq_nil_iff.mpr fun x hx => by
  obtain ⟨r, _, rfl⟩ := List.mem_map.mp hx
  show ¬ (!true) = true
  decide
section
variable {P : Program} {w : World} {K : PySem.W.Frag} {mg : Str → Option Value} {base : Heap} {C_Web C_Pool : Addr}
abbrev s__law_is_pool : Stmt := topS 42
abbrev N__law_is_pool : List Str := ["_law_value", "_law_web", "_law_rows_here", "_law_row"]
theorem sc__law_is_pool : FnScope N__law_is_pool ["_law_value"] (defScope s__law_is_pool) := ⟨rfl, rfl, rfl, by decide +kernel, rfl, by decide +kernel, by decide +kernel⟩
theorem ok__law_is_pool {f : Addr} {fd : FuncData} (B : Bf mg) (m_Web : mg "Web" = some (.ref C_Web)) (okY : WxOk (YY K C_Web C_Pool P w)) (c_web_heard : PrpS P w K mg base 1 C_Web "heard" (SpN (fun g : Rows => [(webP C_Web K) g]) (fun (g : Rows) (Q : Rows → Prop) => True ∧ Q g) (fD K (dT (dT dN))))) (F : Fun K "_law_is_pool" "_law_is_pool" s__law_is_pool f fd) (hm : mg "_law_is_pool" = some (.ref f)) (b : Binds K fd ["_law_value"] []) : Gf P w K mg base 3 "_law_is_pool" (SpN (fun g : Wv => [(fW (YY K C_Web C_Pool P w)) g]) (fun (g : Wv) (Q : Bool → Prop) => (badV g ∧ Q false) ∨ ∃ rss : List Rows, g = .tp (rss.map .web) ∧ (rss.length ≤ 16 ∧ ∀ rs ∈ rss, Ok rs) ∧ Q (poB rss)) (fD K dB)) := by
  refine gw_mk F hm b sc__law_is_pool (fun _ => rfl) (fun _ => inferInstance) fun cdv A outer s H E g hr => ?_
  obtain ⟨v__law_value, hgen⟩ : ∃ x, x = g := ⟨g, rfl⟩
  subst hgen
  refine ⟨_, (pss_cons (ps_if (PW.pt (pw_or (pt_not (pt_val (p_isiS (.type "tuple") B (pa_cons (pv 0) (pa_cons (p_ty (by rfl) B.tuple boot_tuple) pa_nil))))) (pw_or (pt_cmpR op_lt (p_len B (pa_cons (pv 0) pa_nil)) pe_int (nomark _)) (pw_or1 (pt_cmpR op_gt (p_len B (pa_cons (pv 0) pa_nil)) pe_int (nomark _))))))
      (pss_one (ps_ret pe_bl))
      pss_nil)
    (pss_cons (ps_if (pt_cmpR (op_neNil hr.units0) (pe_lc (own := [("_law_web", 1)]) (g := gName 1) rfl sc__law_is_pool.nd (pi_tup (pv 0)) (blkOk_by (N := N__law_is_pool) (sc := defScope s__law_is_pool) (by decide +kernel)) (fun _ _ _ _ _ => (pg_name (i := 1) sc__law_is_pool.nd rfl (by first | exact Or.inl rfl | exact Or.inr rfl))) (fun _ _ _ _ _ => (pts_one (pt_not (pt_val (p_isiSK K (.ref C_Web) B (pa_cons (pv 1) (pa_cons (p_cls (by rfl) m_Web) pa_nil))))))) (fun _ _ _ _ _ => by exact (pv 1))) (pe_lst pa_nil) (nomark _))
      (pss_one (ps_ret pe_bl))
      pss_nil)
    (pss_cons (ps_set (i := 2) sc__law_is_pool.nd rfl (by first | exact Or.inl rfl | exact Or.inr rfl) (pe_lc (own := [("_law_web", 1)]) (g := gName 1) (tt := tYes) rfl sc__law_is_pool.nd (pi_tup (pv 0)) (blkOk_by (N := N__law_is_pool) (sc := defScope s__law_is_pool) (by decide +kernel)) (fun _ _ _ _ _ => (pg_name (i := 1) sc__law_is_pool.nd rfl (by first | exact Or.inl rfl | exact Or.inr rfl))) (fun _ _ _ _ _ => pts_nil) (fun _ _ _ _ _ => by exact (p_prp c_web_heard hr (by decide) (pv 1)))))
    (pss_one (ps_ret (pe_cmpR (op_eqD hr.units) (pe_lc (own := [("_law_row", 3)]) (g := gName 3) rfl sc__law_is_pool.nd (pi_list (pv 2)) (blkOk_by (N := N__law_is_pool) (sc := defScope s__law_is_pool) (by decide +kernel)) (fun _ _ _ _ _ => (pg_name (i := 3) sc__law_is_pool.nd rfl (by first | exact Or.inl rfl | exact Or.inr rfl))) (fun _ _ _ _ _ => (pts_one (PW.pt (pw_or (pt_cmpR op_gt (pe_bmK K PySem.F.plainAttrs_list PySem.F.slot_list_count PySem.F.type_list_count (Tw.mt_countD (room65 hr)) (pv 2) (pa_cons (pv 3) pa_nil)) pe_int (nomark _)) (pw_or1 (pt_cmpR op_ne (p_lenK K B (pa_cons (pv 3) pa_nil)) (p_lenK K B (pa_cons (pe_ix (ix_listK K) (pv 2) pe_int (fun _ _ => rfl)) pa_nil)) (nomark _))))))) (fun _ _ _ _ _ => by exact (pv 3))) (pe_lst pa_nil) (nomark _))))))), _,
    (ts_ifq (tt_or (tt_not (tt_B (tr_cb (c_isiT okY "tuple") (ta_cons (tr_var (R := (fW (YY K C_Web C_Pool P w))) (a := v__law_value) rfl) (ta_one tr_ty))))) (tt_or (tt_test (tr_op o_ltN (tr_cb c_lenT (ta_one (tr_Wt2 (X := YY K C_Web C_Pool P w) (tr_var (R := (fW (YY K C_Web C_Pool P w))) (a := v__law_value) rfl)))) (tr_nat (K := K) 1))) (tt_test (tr_op o_gtN (tr_cb c_lenT (ta_one (tr_Wt2 (X := YY K C_Web C_Pool P w) (tr_var (R := (fW (YY K C_Web C_Pool P w))) (a := v__law_value) rfl)))) (tr_nat (K := K) 8)))))
      (ts_retq (tr_bl (K := K)))
      (ts_nextq (ts_ifq (tt_test (tr_op (o_neNil (Rb := (fD K dN))) (tr_lc (vs := [1]) (Rd := (fW (YY K C_Web C_Pool P w))) (ti_tup (tr_Wt2 (X := YY K C_Web C_Pool P w) (tr_var (R := (fW (YY K C_Web C_Pool P w))) (a := v__law_value) rfl))) (tg_name (R := (fW (YY K C_Web C_Pool P w))) 1) rfl rfl rfl (fun _ => rfl) (fun x1 => (tt_not (tt_B (tr_cb (c_isiWeb okY) (ta_cons (tr_var (R := (fW (YY K C_Web C_Pool P w))) (a := x1) rfl) (ta_one tr_clsV)))))) (fun x1 => (tr_var (R := (fW (YY K C_Web C_Pool P w))) (a := x1) rfl))) (tr_lst (R := (fD K dN)) (ta_lnil (R := (fD K dN))))))
      (ts_retq (tr_bl (K := K)))
      (ts_nextq (ts_set (R := (fLn (fD K (dT (dT dN))))) 2 (tr_lc (vs := [1]) (Rd := (fD K (dT (dT dN)))) (ti_tup (tr_Wt2 (X := YY K C_Web C_Pool P w) (tr_var (R := (fW (YY K C_Web C_Pool P w))) (a := v__law_value) rfl))) (tg_name (R := (fW (YY K C_Web C_Pool P w))) 1) rfl rfl rfl (fun _ => rfl) (fun x2 => tt_yes) (fun x2 => (tr_prp (Ra := (webP C_Web K)) (hS := is_web) (tr_Wweb (X := YY K C_Web C_Pool P w) (tr_var (R := (fW (YY K C_Web C_Pool P w))) (a := x2) rfl))))) rfl (fun v_law_rows_here_3 => (ts_ret (tr_op (o_eqA (d := (dL (dT (dT dN)))) (e := (dL dN))) (tr_lnD (tr_lc (vs := [3]) (Rd := (fD K (dT (dT dN)))) (ti_lst (tr_var (R := (fLn (fD K (dT (dT dN))))) (a := v_law_rows_here_3) rfl)) (tg_name (R := (fD K (dT (dT dN)))) 3) rfl rfl rfl (fun _ => rfl) (fun x4 => (tt_or (tt_test (tr_op o_gtN (tr_countD (d := (dT (dT dN))) (tr_lnD (tr_var (R := (fLn (fD K (dT (dT dN))))) (a := v_law_rows_here_3) rfl)) (tr_var (R := (fD K (dT (dT dN)))) (a := x4) rfl)) (tr_nat (K := K) 1))) (tt_test (tr_op o_neN (tr_cb c_lenDT (ta_one (tr_var (R := (fD K (dT (dT dN)))) (a := x4) rfl))) (tr_cb c_lenDT (ta_one (tr_op o_ixLn (tr_var (R := (fLn (fD K (dT (dT dN))))) (a := v_law_rows_here_3) rfl) (tr_nat (K := K) 0)))))))) (fun x4 => (tr_var (R := (fD K (dT (dT dN)))) (a := x4) rfl)))) (tr_lnD (tr_lst (R := (fD K dN)) (ta_lnil (R := (fD K dN))))))))))))), ?_⟩
  rintro Q ⟨vs0, F0, hv⟩ hs
  try delta pur
  try dsimp only at hs hv ⊢
  have go : ∀ ws : List Wv, v__law_value.items = some ws → ∀ P : Bool → Prop, P (decide (ws.length < 1) || decide (8 < ws.length)) → orW (fun Q X => Q !v__law_value.isT "tuple") (orW (fun Q X => ∃ ws, v__law_value.items = some ws ∧ Q (decide (ws.length < 1))) fun Q X => ∃ ws, v__law_value.items = some ws ∧ Q (decide (8 < ws.length))) P (X0 : Empty → Prop) := fun ws hw P hP =>
    orW_of false (decide (ws.length < 1) || decide (8 < ws.length)) (fun P hP => by rw [items_tup hw]; exact hP) (fun _ P hP => orW_of (decide (ws.length < 1)) (decide (8 < ws.length)) (fun P hP => ⟨ws, hw, hP⟩) (fun _ P hP => ⟨ws, hw, hP⟩) hP) (by rw [Bool.false_or]; exact hP)
  rcases hs with ⟨hb, q⟩ | ⟨rss, e, ⟨h16, ok⟩, q⟩
  · rcases hb with hb | ⟨ws, hw, h60, hb⟩
    · exact orW_of true true (fun P hP => by rw [hb]; exact hP) (fun z => by cases z) (by exact q)
    · refine go ws hw _ ?_
      by_cases hc : (decide (ws.length < 1) || decide (8 < ws.length)) = true
      · rw [if_pos hc]; exact q
      · rw [if_neg hc]
        have hx : ∃ x ∈ ws, x.isWeb = false := by
          rcases hb with rfl | hb
          · exact absurd rfl hc
          · exact hb
        refine ⟨ws, hw, by omega, lcW_of (f := fun x => !x.isWeb) (h := fun x => x) (fun _ _ Q hQ => hQ) (fun _ _ _ Q hQ => hQ) ⟨by decide, rfl, ?_⟩⟩
        rw [List.map_id', if_pos (by rw [decide_eq_false (no_odd hx)]; rfl)]
        exact q
  · have hw : v__law_value.items = some (rss.map .web) := by rw [e]; rfl
    refine go _ hw _ ?_
    rw [List.length_map]
    by_cases hc : (decide (rss.length < 1) || decide (8 < rss.length)) = true
    · rw [if_pos hc]
      have : poB rss = false := by
        unfold poB
        refine @decide_eq_false (POk rss) (Classical.propDecidable _) fun p => ?_
        rw [Bool.or_eq_true, decide_eq_true_eq, decide_eq_true_eq] at hc
        have := p.pos
        have := p.le
        omega
      rw [this] at q
      exact q
    · rw [if_neg hc]
      rw [Bool.or_eq_true, decide_eq_true_eq, decide_eq_true_eq, not_or] at hc
      refine ⟨_, hw, by rw [List.length_map]; omega, lcW_of (f := fun x => !x.isWeb) (h := fun x => x) (fun _ _ Q hQ => hQ) (fun _ _ _ Q hQ => hQ) ⟨by decide, rfl, ?_⟩⟩
      rw [List.map_id', all_webs, if_neg (by decide)]
      refine ⟨_, hw, by rw [List.length_map]; omega, lcW_map (h := rowsOf) (fun x hx Q hQ => ?_) ?_⟩
      · obtain ⟨r, _, rfl⟩ := List.mem_map.mp hx
        exact ⟨r, rfl, True.intro, hQ⟩
      rw [map_rows]
      have h0 : rss[0]? = some (rss.headD []) := by
        cases rss with
        | nil => exact absurd (by decide) hc.1
        | cons r rs => rfl
      refine ⟨by omega, lcW_of (f := oddRow rss) (h := fun x => x) (fun x hx Q hQ => orW_of (decide (1 < rss.countP fun z => (dT (dT dN) z).eqv (dT (dT dN) x))) (!decide (x.length = (rss.headD []).length)) (fun P hP => ⟨sh_pool, sh_rows, hP⟩) (fun _ P hP => ⟨_, h0, hP⟩) hQ) (fun _ _ _ Q hQ => hQ) ⟨by decide, ⟨sh_pool, by decide +kernel⟩, ?_⟩⟩
      rw [List.map_id', eqv_nilP, po_iff ok (by omega) (by omega)]
      exact q
end
end Wb

namespace Wb
open PySem PySem.Spec PyProof.Rows L2 SlX StX Rs Ma Sn Tw
variable [Rs.Tabz]
theorem cut_take {α : Type} {xs : List α} {i : Nat} : cutL xs none (some i) = xs.take i := by
  unfold cutL
  simp
theorem cut_drop {α : Type} {xs : List α} {i : Nat} : cutL xs (some i) none = xs.drop i := by
  unfold cutL
  simp
def NearOk (w : Wv) : Prop := badV w ∨ ∃ rss : List Rows, w = .tp (rss.map .web) ∧ (rss.length ≤ 16 ∧ ∀ rs ∈ rss, Ok rs)
theorem near_webs {l : List Rows} (h : l.length ≤ 16) (ok : ∀ r ∈ l, Ok r) : NearOk (.tp (l.map .web)) := .inr ⟨l, rfl, h, ok⟩
theorem near_no {w : Wv} (h : w.isT "tuple" = false) : NearOk w := .inl (.inl h)
theorem near_odd {rs : Rows} {a : Wv} (o : Ok rs) (ha : a ∈ [Wv.dat (dU ()), Wv.dat (dN 0), Wv.dat (dS (Str.ofString "web")), Wv.dat (dT dN []), Wv.dat (dL dN []), Wv.dct, Wv.dat (dT (dT dN) rs), Wv.tp (List.map Wv.web [rs]), Wv.dat (dB true)]) : NearOk a ∧ a.isWeb = false := by
  simp only [List.mem_cons, List.not_mem_nil, or_false] at ha
  rcases ha with rfl | rfl | rfl | rfl | rfl | rfl | rfl | rfl | rfl
  · exact ⟨near_no (show (kitB "NoneType" "tuple").getD false = false by decide +kernel), rfl⟩
  · exact ⟨near_no (show (kitB "int" "tuple").getD false = false by decide +kernel), rfl⟩
  · exact ⟨near_no (show (kitB "str" "tuple").getD false = false by decide +kernel), rfl⟩
  · exact ⟨.inl (.inr ⟨[], rfl, by decide, .inl rfl⟩), rfl⟩
  · exact ⟨near_no (show (kitB "list" "tuple").getD false = false by decide +kernel), rfl⟩
  · exact ⟨near_no (by decide), rfl⟩
  · refine ⟨.inl (.inr ⟨(rs.map (dT dN)).map Wv.dat, rfl, by rw [List.length_map, List.length_map]; have := o.le; omega, ?_⟩), rfl⟩
    cases rs with
    | nil => exact .inl rfl
    | cons r rs => exact .inr ⟨_, List.mem_cons_self, rfl⟩
  · exact ⟨near_webs (by show 1 ≤ 16; decide) fun r hr => by rw [List.mem_singleton.mp hr]; exact o, rfl⟩
  · exact ⟨near_no (show (kitB "bool" "tuple").getD false = false by decide +kernel), rfl⟩
section
variable {P : Program} {w : World} {K : PySem.W.Frag} {mg : Str → Option Value} {base : Heap} {C_Web C_Pool : Addr}
abbrev s__law_near : Stmt := topS 41
abbrev N__law_near : List Str := ["_law_cask_here", "_law_webs", "_law_at", "_law_size", "_law_web", "_law_odd", "_law_some"]
theorem sc__law_near : FnScope N__law_near ["_law_cask_here", "_law_webs"] (defScope s__law_near) := ⟨rfl, rfl, rfl, by decide +kernel, rfl, by decide +kernel, by decide +kernel⟩
theorem ok__law_near {f : Addr} {fd : FuncData} (B : Bf mg) (c_law_scoop : Gf P w K mg base 1 "_law_scoop" (SpN (fun g : Unit × Nat => [(fCk 3) g.1, (fD K dN) g.2]) (fun (g : Unit × Nat) (Q : Nat → Prop) => (1 ≤ g.2 ∧ g.2 ≤ 1000) ∧ ∀ n, n < g.2 → Q n) (fD K dN))) (c_web_size : PrpS P w K mg base 1 C_Web "size" (SpN (fun g : Rows => [(webP C_Web K) g]) (fun (g : Rows) (Q : Nat → Prop) => True ∧ Q g.length) (fD K dN))) (c_Web : MkF P w K mg base 6 "Web" C_Web (spWebInit C_Web K)) (c_law_rows : Gf P w K mg base 3 "_law_rows" (SpN (fun g : Unit × Nat => [(fCk 3) g.1, (fD K dN) g.2]) (fun (g : Unit × Nat) (Q : Rows → Prop) => (1 ≤ g.2 ∧ g.2 ≤ 5) ∧ ∀ rs : Rows, Ok rs → rs.length = g.2 → Q rs) (fD K (dT (dT dN))))) (c_law_any_of : Gf P w K mg base 2 "_law_any_of" (SpN (fun g : Unit × (List Nat) => [(fCk 3) g.1, (fLn (fD K dN)) g.2]) spAny (fD K dN))) (c_web_heard : PrpS P w K mg base 1 C_Web "heard" (SpN (fun g : Rows => [(webP C_Web K) g]) (fun (g : Rows) (Q : Rows → Prop) => True ∧ Q g) (fD K (dT (dT dN))))) (c_law_any_of_3 : Gf P w K mg base 2 "_law_any_of" (SpN (fun g : Unit × (List Wv) => [(fCk 3) g.1, (fLn (fW (YY K C_Web C_Pool P w))) g.2]) spAny (fW (YY K C_Web C_Pool P w)))) (c_Pool : MkF P w K mg base 9 "Pool" C_Pool (spPoolInit C_Pool C_Web K P w)) (F : Fun K "_law_near" "_law_near" s__law_near f fd) (hm : mg "_law_near" = some (.ref f)) (b : Binds K fd ["_law_cask_here", "_law_webs"] []) : Gf P w K mg base 12 "_law_near" (SpN (fun g : Unit × (List Rows) => [(fCk 3) g.1, (fTp K (webP C_Web K)) g.2]) (fun (g : Unit × List Rows) (Q : Wv → Prop) => POk g.2 ∧ ∀ w, (badV w ∨ ∃ rss : List Rows, w = .tp (rss.map .web) ∧ (rss.length ≤ 16 ∧ ∀ rs ∈ rss, Ok rs)) → Q w) (fW (YY K C_Web C_Pool P w))) := by
  refine gw_mk F hm b sc__law_near (fun _ => rfl) (fun _ => inferInstance) fun cdv A outer s H E g hr => ?_
  obtain ⟨v__law_cask_here, v__law_webs⟩ := g
  refine ⟨_, (pss_cons (ps_par (i := 2) (j := 3) rfl sc__law_near.nd rfl rfl (by decide) rfl rfl (pa_cons (p_call c_law_scoop hr (by decide) (pa_cons (pv 0) (pa_cons (p_len B (pa_cons (pv 1) pa_nil)) pa_nil))) (pa_cons (p_prp c_web_size hr (by decide) (pe_ix ix_tup (pv 1) pe_int (fun _ _ => rfl))) pa_nil)) (by rfl))
    (pss_cons (ps_set (i := 4) sc__law_near.nd rfl (by first | exact Or.inl rfl | exact Or.inr rfl) (p_mk c_Web hr (by decide) (pa_cons (p_call c_law_rows hr (by decide) (pa_cons (pv 0) (pa_cons (p_call c_law_any_of hr (by decide) (pa_cons (pv 0) (pa_cons (pe_lst (pa_cons (pv 3) (pa_cons (pv 3) (pa_cons (pe_op op_add (pe_op op_mod (pv 3) pe_int) pe_int) pa_nil)))) pa_nil))) pa_nil))) pa_nil)))
    (pss_cons (ps_set (i := 5) sc__law_near.nd rfl (by first | exact Or.inl rfl | exact Or.inr rfl) (p_call c_law_any_of_3 hr (by decide) (pa_cons (pv 0) (pa_cons (pe_lst (pa_cons pe_non (pa_cons pe_int (pa_cons pe_str (pa_cons (pe_tup pa_nil) (pa_cons (pe_lst pa_nil) (pa_cons pe_dnewK (pa_cons (p_prp c_web_heard hr (by decide) (pv 4)) (pa_cons (pe_tup (pa_cons (pv 4) pa_nil)) (pa_cons pe_bl pa_nil)))))))))) pa_nil))))
    (pss_cons (ps_set (i := 6) sc__law_near.nd rfl (by first | exact Or.inl rfl | exact Or.inr rfl) (pe_lst (pa_cons (pe_op op_catA (pe_slice sl_tupA (pv 1) po_none (po_some (pv 2))) (pe_slice sl_tupA (pv 1) (po_some (pe_op op_add (pv 2) pe_int)) po_none)) (pa_cons (pe_op op_catA (pv 1) (pe_tup (pa_cons (pv 4) pa_nil))) (pa_cons (pe_op op_catA (pv 1) (pe_slice sl_tupA (pv 1) po_none (po_some pe_int))) (pa_cons (pe_op op_catA (pe_op op_catA (pe_slice sl_tupA (pv 1) po_none (po_some (pv 2))) (pe_tup (pa_cons (pv 4) pa_nil))) (pe_slice sl_tupA (pv 1) (po_some (pe_op op_add (pv 2) pe_int)) po_none)) (pa_cons (pe_revT K (pv 1)) pa_nil)))))))
    (pss_cons (ps_set (i := 6) sc__law_near.nd rfl (by first | exact Or.inl rfl | exact Or.inr rfl) (pe_op op_cat (pv 6) (pe_lst (pa_cons (pe_op op_catA (pe_op op_catA (pe_slice sl_tupA (pv 1) po_none (po_some (pv 2))) (pe_tup (pa_cons (pv 5) pa_nil))) (pe_slice sl_tupA (pv 1) (po_some (pe_op op_add (pv 2) pe_int)) po_none)) (pa_cons (p_list B (pa_cons (pv 1) pa_nil)) (pa_cons (pv 5) (pa_cons (pe_op op_catA (pv 1) (pe_op op_repTA (pe_tup (pa_cons (pv 4) pa_nil)) pe_int)) (pa_cons (pe_op op_repTA (pe_tup (pa_cons (pv 4) pa_nil)) pe_int) (pa_cons (p_mk c_Pool hr (by decide) (pa_cons (pv 1) pa_nil)) pa_nil)))))))))
    (pss_one (ps_ret (p_call c_law_any_of_3 hr (by decide) (pa_cons (pv 0) (pa_cons (pv 6) pa_nil)))))))))), _,
    (ts_par (Ra := (fD K dN)) (Rb := (fD K dN)) (tr_call (ta_cons (tr_var (R := (fCk 3)) (a := v__law_cask_here) rfl) (ta_one (tr_cb c_lenT (ta_one (tr_var (R := (fTp K (webP C_Web K))) (a := v__law_webs) rfl)))))) (tr_prp (Ra := (webP C_Web K)) (hS := is_web) (tr_op o_ixTp (tr_var (R := (fTp K (webP C_Web K))) (a := v__law_webs) rfl) (tr_nat (K := K) 0))) rfl (fun p1 => (ts_set (R := (webP C_Web K)) 4 (tr_fact (p := Ok) ok_web (tr_mk (ta_one (tr_call (ta_cons (tr_var (R := (fCk 3)) (a := v__law_cask_here) rfl) (ta_one (tr_call (ta_cons (tr_var (R := (fCk 3)) (a := v__law_cask_here) rfl) (ta_one (tr_lst (R := (fD K dN)) (ta_lcons (R := (fD K dN)) (tr_var (R := (fD K dN)) (a := p1.2) rfl) (ta_lcons (R := (fD K dN)) (tr_var (R := (fD K dN)) (a := p1.2) rfl) (ta_lcons (R := (fD K dN)) (tr_op o_addN (tr_op o_modN (tr_var (R := (fD K dN)) (a := p1.2) rfl) (tr_nat (K := K) 5)) (tr_nat (K := K) 1)) (ta_lnil (R := (fD K dN)))))))))))))))) rfl (fun v_law_web_2 => (ts_set (R := (fW (YY K C_Web C_Pool P w))) 5 (tr_call (ta_cons (tr_var (R := (fCk 3)) (a := v__law_cask_here) rfl) (ta_one (tr_lst (R := (fW (YY K C_Web C_Pool P w))) (ta_lcons (R := (fW (YY K C_Web C_Pool P w))) (tr_dW (X := YY K C_Web C_Pool P w) (d := dU) (tr_non (K := K))) (ta_lcons (R := (fW (YY K C_Web C_Pool P w))) (tr_dW (X := YY K C_Web C_Pool P w) (d := dN) (tr_nat (K := K) 0)) (ta_lcons (R := (fW (YY K C_Web C_Pool P w))) (tr_dW (X := YY K C_Web C_Pool P w) (d := dS) (tr_str (K := K))) (ta_lcons (R := (fW (YY K C_Web C_Pool P w))) (tr_dW (X := YY K C_Web C_Pool P w) (d := (dT dN)) (tr_tpD (tr_tup (R := (fD K dN)) (ta_lnil (R := (fD K dN)))))) (ta_lcons (R := (fW (YY K C_Web C_Pool P w))) (tr_dW (X := YY K C_Web C_Pool P w) (d := (dL dN)) (tr_lnD (tr_lst (R := (fD K dN)) (ta_lnil (R := (fD K dN)))))) (ta_lcons (R := (fW (YY K C_Web C_Pool P w))) (tr_dct (X := YY K C_Web C_Pool P w)) (ta_lcons (R := (fW (YY K C_Web C_Pool P w))) (tr_dW (X := YY K C_Web C_Pool P w) (d := (dT (dT dN))) (tr_prp (Ra := (webP C_Web K)) (hS := is_web) (tr_var (R := (webP C_Web K)) (a := v_law_web_2) rfl))) (ta_lcons (R := (fW (YY K C_Web C_Pool P w))) (tr_tpW (X := YY K C_Web C_Pool P w) (tr_twebW (X := YY K C_Web C_Pool P w) (tr_tup (R := (webP C_Web K)) (ta_lcons (R := (webP C_Web K)) (tr_var (R := (webP C_Web K)) (a := v_law_web_2) rfl) (ta_lnil (R := (webP C_Web K))))))) (ta_lcons (R := (fW (YY K C_Web C_Pool P w))) (tr_dW (X := YY K C_Web C_Pool P w) (d := dB) (tr_bl (K := K))) (ta_lnil (R := (fW (YY K C_Web C_Pool P w))))))))))))))))) rfl (fun v_law_odd_3 => (ts_set (R := (fLn (fW (YY K C_Web C_Pool P w)))) 6 (tr_lst (R := (fW (YY K C_Web C_Pool P w))) (ta_lcons (R := (fW (YY K C_Web C_Pool P w))) (tr_tpW (X := YY K C_Web C_Pool P w) (tr_twebW (X := YY K C_Web C_Pool P w) (tr_op o_catA (tr_slT (tr_var (R := (fTp K (webP C_Web K))) (a := v__law_webs) rfl) to_no (to_some (tr_var (R := (fD K dN)) (a := p1.1) rfl))) (tr_slT (tr_var (R := (fTp K (webP C_Web K))) (a := v__law_webs) rfl) (to_some (tr_op o_addN (tr_var (R := (fD K dN)) (a := p1.1) rfl) (tr_nat (K := K) 1))) to_no)))) (ta_lcons (R := (fW (YY K C_Web C_Pool P w))) (tr_tpW (X := YY K C_Web C_Pool P w) (tr_twebW (X := YY K C_Web C_Pool P w) (tr_op o_catA (tr_var (R := (fTp K (webP C_Web K))) (a := v__law_webs) rfl) (tr_tup (R := (webP C_Web K)) (ta_lcons (R := (webP C_Web K)) (tr_var (R := (webP C_Web K)) (a := v_law_web_2) rfl) (ta_lnil (R := (webP C_Web K)))))))) (ta_lcons (R := (fW (YY K C_Web C_Pool P w))) (tr_tpW (X := YY K C_Web C_Pool P w) (tr_twebW (X := YY K C_Web C_Pool P w) (tr_op o_catA (tr_var (R := (fTp K (webP C_Web K))) (a := v__law_webs) rfl) (tr_slT (tr_var (R := (fTp K (webP C_Web K))) (a := v__law_webs) rfl) to_no (to_some (tr_nat (K := K) 1)))))) (ta_lcons (R := (fW (YY K C_Web C_Pool P w))) (tr_tpW (X := YY K C_Web C_Pool P w) (tr_twebW (X := YY K C_Web C_Pool P w) (tr_op o_catA (tr_op o_catA (tr_slT (tr_var (R := (fTp K (webP C_Web K))) (a := v__law_webs) rfl) to_no (to_some (tr_var (R := (fD K dN)) (a := p1.1) rfl))) (tr_tup (R := (webP C_Web K)) (ta_lcons (R := (webP C_Web K)) (tr_var (R := (webP C_Web K)) (a := v_law_web_2) rfl) (ta_lnil (R := (webP C_Web K)))))) (tr_slT (tr_var (R := (fTp K (webP C_Web K))) (a := v__law_webs) rfl) (to_some (tr_op o_addN (tr_var (R := (fD K dN)) (a := p1.1) rfl) (tr_nat (K := K) 1))) to_no)))) (ta_lcons (R := (fW (YY K C_Web C_Pool P w))) (tr_tpW (X := YY K C_Web C_Pool P w) (tr_twebW (X := YY K C_Web C_Pool P w) (tr_revT (tr_var (R := (fTp K (webP C_Web K))) (a := v__law_webs) rfl)))) (ta_lnil (R := (fW (YY K C_Web C_Pool P w)))))))))) rfl (fun v_law_some_4 => (ts_set (R := (fLn (fW (YY K C_Web C_Pool P w)))) 6 (tr_op (o_cat (R := (fW (YY K C_Web C_Pool P w)))) (tr_var (R := (fLn (fW (YY K C_Web C_Pool P w)))) (a := v_law_some_4) rfl) (tr_lst (R := (fW (YY K C_Web C_Pool P w))) (ta_lcons (R := (fW (YY K C_Web C_Pool P w))) (tr_tpW (X := YY K C_Web C_Pool P w) (tr_op o_catA (tr_op o_catA (tr_twebW (X := YY K C_Web C_Pool P w) (tr_slT (tr_var (R := (fTp K (webP C_Web K))) (a := v__law_webs) rfl) to_no (to_some (tr_var (R := (fD K dN)) (a := p1.1) rfl)))) (tr_tup (R := (fW (YY K C_Web C_Pool P w))) (ta_lcons (R := (fW (YY K C_Web C_Pool P w))) (tr_var (R := (fW (YY K C_Web C_Pool P w))) (a := v_law_odd_3) rfl) (ta_lnil (R := (fW (YY K C_Web C_Pool P w))))))) (tr_twebW (X := YY K C_Web C_Pool P w) (tr_slT (tr_var (R := (fTp K (webP C_Web K))) (a := v__law_webs) rfl) (to_some (tr_op o_addN (tr_var (R := (fD K dN)) (a := p1.1) rfl) (tr_nat (K := K) 1))) to_no)))) (ta_lcons (R := (fW (YY K C_Web C_Pool P w))) (tr_lW (X := YY K C_Web C_Pool P w) (tr_cb (c_listT (R := (webP C_Web K))) (ta_one (tr_var (R := (fTp K (webP C_Web K))) (a := v__law_webs) rfl)))) (ta_lcons (R := (fW (YY K C_Web C_Pool P w))) (tr_var (R := (fW (YY K C_Web C_Pool P w))) (a := v_law_odd_3) rfl) (ta_lcons (R := (fW (YY K C_Web C_Pool P w))) (tr_tpW (X := YY K C_Web C_Pool P w) (tr_twebW (X := YY K C_Web C_Pool P w) (tr_op o_catA (tr_var (R := (fTp K (webP C_Web K))) (a := v__law_webs) rfl) (tr_op o_repTp (tr_tup (R := (webP C_Web K)) (ta_lcons (R := (webP C_Web K)) (tr_var (R := (webP C_Web K)) (a := v_law_web_2) rfl) (ta_lnil (R := (webP C_Web K))))) (tr_nat (K := K) 8))))) (ta_lcons (R := (fW (YY K C_Web C_Pool P w))) (tr_tpW (X := YY K C_Web C_Pool P w) (tr_twebW (X := YY K C_Web C_Pool P w) (tr_op o_repTp (tr_tup (R := (webP C_Web K)) (ta_lcons (R := (webP C_Web K)) (tr_var (R := (webP C_Web K)) (a := v_law_web_2) rfl) (ta_lnil (R := (webP C_Web K))))) (tr_nat (K := K) 2)))) (ta_lcons (R := (fW (YY K C_Web C_Pool P w))) (tr_poolW (X := YY K C_Web C_Pool P w) (tr_fact (p := POk) ok_pool (tr_mk (ta_one (tr_var (R := (fTp K (webP C_Web K))) (a := v__law_webs) rfl))))) (ta_lnil (R := (fW (YY K C_Web C_Pool P w)))))))))))) rfl (fun v_law_some_5 => (ts_ret (tr_call (ta_cons (tr_var (R := (fCk 3)) (a := v__law_cask_here) rfl) (ta_one (tr_var (R := (fLn (fW (YY K C_Web C_Pool P w)))) (a := v_law_some_5) rfl))))))))))))))), ?_⟩
  rintro Q ⟨vs0, F0, hv⟩ hs
  try delta pur
  try dsimp only [spAny] at hs hv ⊢
  obtain ⟨ok, q⟩ := hs
  have q : ∀ w, NearOk w → Q w := q
  generalize v__law_webs = p at ok ⊢
  have n1 := ok.pos
  have n8 := ok.le
  have mem : ∀ l : List Rows, (∀ r ∈ l, r ∈ p) → ∀ r ∈ l, Ok r := fun l h r hr => ok.ok r (h r hr)
  obtain ⟨r0, h0⟩ : ∃ r, p[0]? = some r := ⟨_, List.getElem?_eq_getElem ok.pos⟩
  have o0 := ok.ok _ (List.mem_of_getElem? h0)
  have l0 := o0.le
  have l1 := o0.pos
  refine ⟨⟨n1, by omega⟩, fun n hn => ⟨r0, h0, True.intro, by decide, by show 3 ≤ 100000; decide, ⟨by simp, by show 3 ≤ 1000; decide⟩, fun k hk => ?_⟩⟩
  have hk : 1 ≤ k ∧ k ≤ 5 := by
    simp only [List.mem_cons, List.not_mem_nil, or_false] at hk
    rcases hk with rfl | rfl | rfl
    · exact ⟨l1, l0⟩
    · exact ⟨l1, l0⟩
    · omega
  refine ⟨hk, fun rs o hl => ⟨o, fun _ => ⟨by decide, by decide, True.intro, by show 1 ≤ 100000; decide, by show 9 ≤ 100000; decide, ⟨by simp, by show 9 ≤ 1000; decide⟩, fun a ha => ?_⟩⟩⟩
  obtain ⟨na, wa⟩ := near_odd o ha
  simp only [cut_take, cut_drop]
  have t1 : (p.take n).length ≤ n := by rw [List.length_take]; omega
  have t2 : (p.drop (n + 1)).length = p.length - (n + 1) := by rw [List.length_drop]
  have t3 : (p.take 1).length ≤ 8 := by rw [List.length_take]; omega
  have m1 : ∀ r ∈ p.take n, Ok r := mem _ fun r hr => List.mem_of_mem_take hr
  have m2 : ∀ r ∈ p.drop (n + 1), Ok r := mem _ fun r hr => List.mem_of_mem_drop hr
  have m3 : ∀ r ∈ p.take 1, Ok r := mem _ fun r hr => List.mem_of_mem_take hr
  have ap : ∀ l1 l2 : List Rows, (∀ r ∈ l1, Ok r) → (∀ r ∈ l2, Ok r) → ∀ r ∈ l1 ++ l2, Ok r := fun l1 l2 h1 h2 r hr => (List.mem_append.mp hr).elim (h1 r) (h2 r)
  have one : ∀ r ∈ [rs], Ok r := fun r hr => by rw [List.mem_singleton.mp hr]; exact o
  have rep : ∀ k : Nat, (∀ r ∈ (List.replicate k [rs]).flatten, Ok r) ∧ (List.replicate k [rs]).flatten.length = k := fun k => by
    induction k with
    | zero => exact ⟨(fun r hr => nomatch hr), rfl⟩
    | succ k ih =>
      rw [List.replicate_succ, List.flatten_cons]
      exact ⟨ap _ _ one ih.1, by rw [List.length_append, ih.2, List.length_singleton]; omega⟩
  refine ⟨by omega, by show 1 ≤ 100000; decide, by rw [List.length_singleton]; omega, by omega, by show 1 ≤ 100000; decide, by rw [List.length_singleton]; omega, by rw [List.length_append, List.length_singleton]; omega, by show 5 ≤ 100000; decide, by show 1 ≤ 100000; decide, by rw [List.length_map, List.length_singleton]; omega, by rw [List.length_append, List.length_map, List.length_map, List.length_singleton]; omega, by show 1 ≤ 100000; decide, by simp, by show 1 ≤ 1000; decide, by decide, by rw [(rep 8).2]; omega, by show 1 ≤ 100000; decide, by simp, by show 1 ≤ 1000; decide, by decide, ok, fun _ => ⟨by show 6 ≤ 100000; decide, by show 5 + 6 ≤ 10000; decide, ⟨by simp, by show 11 ≤ 1000; decide⟩, fun b hb => q b ?_⟩⟩
  simp only [List.cons_append, List.nil_append, List.mem_cons, List.not_mem_nil, or_false] at hb
  rcases hb with rfl | rfl | rfl | rfl | rfl | rfl | rfl | rfl | rfl | rfl | rfl
  · exact near_webs (by rw [List.length_append]; omega) (ap _ _ m1 m2)
  · exact near_webs (by rw [List.length_append, List.length_singleton]; omega) (ap _ _ ok.ok one)
  · exact near_webs (by rw [List.length_append]; omega) (ap _ _ ok.ok m3)
  · exact near_webs (by rw [List.length_append, List.length_append, List.length_singleton]; omega) (ap _ _ (ap _ _ m1 one) m2)
  · exact near_webs (by rw [List.length_reverse]; omega) fun r hr => ok.ok r (List.mem_reverse.mp hr)
  · exact .inl (.inr ⟨_, rfl, by simp only [List.length_append, List.length_map, List.length_singleton]; omega, .inr ⟨a, by simp, wa⟩⟩)
  · exact near_no (by decide)
  · exact na
  · exact near_webs (by rw [List.length_append, (rep 8).2]; omega) (ap _ _ ok.ok (rep 8).1)
  · exact near_webs (by rw [(rep 2).2]; decide) (rep 2).1
  · exact near_no rfl
end
end Wb

namespace Wb
open PySem PySem.Spec PyProof.Rows L2 SlX StX Rs Ma Sn Tw
variable [Rs.Tabz]
def notP (w : Wv) : Prop := badV w ∨ ∃ rss : List Rows, w = .tp (rss.map .web) ∧ (rss.length ≤ 16 ∧ ∀ rs ∈ rss, Ok rs) ∧ ¬ POk rss
theorem all_not {ws : List Wv} (h : ∃ x ∈ ws, x.isWeb = false) : ((ws.map fun x => x.isWeb).all id) = false := by
  cases e : (ws.map fun x => x.isWeb).all id with
  | false => rfl
  | true =>
    obtain ⟨x, hx, hw⟩ := h
    have := List.all_eq_true.mp e x.isWeb (List.mem_map.mpr ⟨x, hx, rfl⟩)
    rw [hw] at this; cases this
theorem all_yes {rss : List Rows} : (((rss.map Wv.web).map fun x => x.isWeb).all id) = true := List.all_eq_true.mpr fun b hb => by
  obtain ⟨x, hx, rfl⟩ := List.mem_map.mp hb
  obtain ⟨r, _, rfl⟩ := List.mem_map.mp hx
  rfl
theorem not_po {rss : List Rows} (ok : ∀ rs ∈ rss, Ok rs) (h1 : 1 ≤ rss.length) (h8 : rss.length ≤ 8) (n : ¬ POk rss) : (decide ((dd rss).length = (rss.map Wv.web).length) && (((rss.map Wv.web).map fun x => decide ((rowsOf x).length = (rss.headD []).length)).all id)) = false := by
  rw [List.length_map]
  cases e : (decide ((dd rss).length = rss.length) && (((rss.map Wv.web).map fun x => decide ((rowsOf x).length = (rss.headD []).length)).all id)) with
  | false => rfl
  | true =>
    rw [Bool.and_eq_true] at e
    refine absurd ⟨h1, h8, dd_len.mp (of_decide_eq_true e.1), ok, fun r hr => ?_⟩ n
    have := List.all_eq_true.mp e.2 (decide (r.length = (rss.headD []).length)) (List.mem_map.mpr ⟨.web r, List.mem_map.mpr ⟨r, hr, rfl⟩, rfl⟩)
    have hp : psize rss = (rss.headD []).length := by
      cases rss with
      | nil => cases h1
      | cons r rs => rfl
    rw [hp]
    exact of_decide_eq_true this
section
variable {P : Program} {w : World} {K : PySem.W.Frag} {mg : Str → Option Value} {base : Heap} {C_Web C_Pool : Addr}
theorem ok_are_webs_v1 {f : Addr} {fd : FuncData} (B : Bf mg) (g_MAX_WEBS : GInt mg "MAX_WEBS" 8) (m_Web : mg "Web" = some (.ref C_Web)) (okY : WxOk (YY K C_Web C_Pool P w)) (W_web : WebK K C_Web) (F : Fun K "are_webs" "are_webs" s_are_webs f fd) (hm : mg "are_webs" = some (.ref f)) (b : Binds K fd ["value"] []) : Gf P w K mg base 3 "are_webs" (SpN (fun g : Wv => [(fW (YY K C_Web C_Pool P w)) g]) (fun (g : Wv) (Q : Bool → Prop) => notP g ∧ Q false) (fD K dB)) := by
  refine gw_mk F hm b sc_are_webs (fun _ => rfl) (fun _ => inferInstance) fun cdv A outer s H E g hr => ?_
  obtain ⟨v_value, hgen⟩ : ∃ x, x = g := ⟨g, rfl⟩
  subst hgen
  refine ⟨_, (pss_cons (ps_if (PW.pt (pw_or (pt_not (pt_val (p_isiS (.type "tuple") B (pa_cons (pv 0) (pa_cons (p_ty (by rfl) B.tuple boot_tuple) pa_nil))))) (pw_or1 (pt_not (pt_chain op_le op_le pe_int (p_len B (pa_cons (pv 0) pa_nil)) (p_gint g_MAX_WEBS))))))
      (pss_one (ps_ret pe_bl))
      pss_nil)
    (pss_cons (ps_if (pt_not (pt_val (p_all rfl B (pa_cons (pe_lc (own := [("web", 1)]) (g := gName 1) (tt := tYes) rfl sc_are_webs.nd (pi_tup (pv 0)) (blkOk_by (N := N_are_webs) (sc := defScope s_are_webs) (by decide +kernel)) (fun _ _ _ _ _ => (pg_name (i := 1) sc_are_webs.nd rfl (by first | exact Or.inl rfl | exact Or.inr rfl))) (fun _ _ _ _ _ => pts_nil) (fun _ _ _ _ _ => by exact (p_isiSK K (.ref C_Web) B (pa_cons (pv 1) (pa_cons (p_cls (by rfl) m_Web) pa_nil))))) pa_nil))))
      (pss_one (ps_ret pe_bl))
      pss_nil)
    (pss_cons (ps_set (i := 2) sc_are_webs.nd rfl (by first | exact Or.inl rfl | exact Or.inr rfl) (p_setNK K P w rfl hr.units B (pa_cons (pe_lc (own := [("web", 1)]) (g := gName 1) (tt := tYes) rfl sc_are_webs.nd (pi_tup (pv 0)) (blkOk_by (N := N_are_webs) (sc := defScope s_are_webs) (by decide +kernel)) (fun _ _ _ _ _ => (pg_name (i := 1) sc_are_webs.nd rfl (by first | exact Or.inl rfl | exact Or.inr rfl))) (fun _ _ _ _ _ => pts_nil) (fun _ _ _ _ _ => by exact (pe_slK K (pv 1)))) pa_nil)))
    (pss_one (ps_ret (pe_and (pe_cmpR op_eq (p_lenNK P w B (pa_cons (pv 2) pa_nil)) (p_len B (pa_cons (pv 0) pa_nil)) (nomark _)) (pe_one (p_all rfl B (pa_cons (pe_lc (own := [("web", 1)]) (g := gName 1) (tt := tYes) rfl sc_are_webs.nd (pi_tup (pv 0)) (blkOk_by (N := N_are_webs) (sc := defScope s_are_webs) (by decide +kernel)) (fun _ _ _ _ _ => (pg_name (i := 1) sc_are_webs.nd rfl (by first | exact Or.inl rfl | exact Or.inr rfl))) (fun _ _ _ _ _ => pts_nil) (fun _ _ _ _ _ => by exact (pe_cmpR op_eq (pe_slK K (pv 1)) (pe_slK K (pe_ix (ix_tupK K) (pv 0) pe_int (fun _ _ => rfl))) (nomark _)))) pa_nil))))))))), _,
    (ts_ifq (tt_or (tt_not (tt_B (tr_cb (c_isiT okY "tuple") (ta_cons (tr_var (R := (fW (YY K C_Web C_Pool P w))) (a := v_value) rfl) (ta_one tr_ty))))) (tt_not (tt_test (tr_chain (tr_int (K := K)) (tr_ni (tr_cb c_lenT (ta_one (tr_Wt2 (X := YY K C_Web C_Pool P w) (tr_var (R := (fW (YY K C_Web C_Pool P w))) (a := v_value) rfl))))) (tr_ni (tr_nat (K := K) 8))))))
      (ts_retq (tr_bl (K := K)))
      (ts_nextq (ts_ifq (tt_not (tt_B (tr_cb c_all (ta_one (tr_lc (vs := [1]) (Rd := (fD K dB)) (ti_tup (tr_Wt2 (X := YY K C_Web C_Pool P w) (tr_var (R := (fW (YY K C_Web C_Pool P w))) (a := v_value) rfl))) (tg_name (R := (fW (YY K C_Web C_Pool P w))) 1) rfl rfl rfl (fun _ => rfl) (fun x1 => tt_yes) (fun x1 => (tr_cb (c_isiWeb okY) (ta_cons (tr_var (R := (fW (YY K C_Web C_Pool P w))) (a := x1) rfl) (ta_one tr_clsV)))))))))
      (ts_retq (tr_bl (K := K)))
      (ts_nextq (ts_set (R := (fSK K P w (dT (dT dN)))) 2 (tr_cb c_setK (ta_one (tr_lnD (tr_lc (vs := [1]) (Rd := (fD K (dT (dT dN)))) (ti_tup (tr_Wt2 (X := YY K C_Web C_Pool P w) (tr_var (R := (fW (YY K C_Web C_Pool P w))) (a := v_value) rfl))) (tg_name (R := (fW (YY K C_Web C_Pool P w))) 1) rfl rfl rfl (fun _ => rfl) (fun x2 => tt_yes) (fun x2 => (tr_fld (fl_web_own_heard W_web) (tr_Wweb (X := YY K C_Web C_Pool P w) (tr_var (R := (fW (YY K C_Web C_Pool P w))) (a := x2) rfl)))))))) rfl (fun v_rows_3 => (ts_ret (tr_and (tr_op o_eqN (tr_cb c_lenK (ta_one (tr_var (R := (fSK K P w (dT (dT dN)))) (a := v_rows_3) rfl))) (tr_cb c_lenT (ta_one (tr_Wt2 (X := YY K C_Web C_Pool P w) (tr_var (R := (fW (YY K C_Web C_Pool P w))) (a := v_value) rfl))))) (tr_cb c_all (ta_one (tr_lc (vs := [1]) (Rd := (fD K dB)) (ti_tup (tr_Wt2 (X := YY K C_Web C_Pool P w) (tr_var (R := (fW (YY K C_Web C_Pool P w))) (a := v_value) rfl))) (tg_name (R := (fW (YY K C_Web C_Pool P w))) 1) rfl rfl rfl (fun _ => rfl) (fun x4 => tt_yes) (fun x4 => (tr_op o_eqN (tr_fld (fl_web_own_size W_web) (tr_Wweb (X := YY K C_Web C_Pool P w) (tr_var (R := (fW (YY K C_Web C_Pool P w))) (a := x4) rfl))) (tr_fld (fl_web_own_size W_web) (tr_Wweb (X := YY K C_Web C_Pool P w) (tr_op o_ixTp (tr_Wt2 (X := YY K C_Web C_Pool P w) (tr_var (R := (fW (YY K C_Web C_Pool P w))) (a := v_value) rfl)) (tr_nat (K := K) 0))))))))))))))))), ?_⟩
  rintro Q ⟨vs0, F0, hv⟩ hs
  try delta pur
  try dsimp only at hs hv ⊢
  obtain ⟨hn, q⟩ := hs
  have go : ∀ ws : List Wv, v_value.items = some ws → ∀ P : Bool → Prop, P (!(decide ((1 : Int) ≤ (ws.length : Int)) && decide ((ws.length : Int) ≤ ((8 : Nat) : Int)))) → orW (fun Q X => Q !v_value.isT "tuple") (fun Q X => chW (fun Q x => Q 1) (fun Q X => ∃ ws, v_value.items = some ws ∧ Q (ws.length : Int)) (fun Q X => Q ((8 : Nat) : Int)) (fun i j => decide (i ≤ j)) (fun i j => decide (i ≤ j)) (fun a => Q !a) X) P (X0 : Empty → Prop) := fun ws hw P hP =>
    orW_of false (!(decide ((1 : Int) ≤ (ws.length : Int)) && decide ((ws.length : Int) ≤ ((8 : Nat) : Int)))) (fun P hP => by rw [items_tup hw]; exact hP) (fun _ P hP => by
      refine ⟨ws, hw, ?_⟩
      show (if decide ((1 : Int) ≤ (ws.length : Int)) = true then _ else _)
      cases e : decide ((1 : Int) ≤ (ws.length : Int)) with
      | true => rw [e] at hP; exact hP
      | false => rw [e] at hP; exact hP) (by rw [Bool.false_or]; exact hP)
  rcases hn with hb | ⟨rss, e, ⟨h16, ok⟩, np⟩
  · rcases hb with hb | ⟨ws, hw, h60, hb⟩
    · exact orW_of true true (fun P hP => by rw [hb]; exact hP) (fun z => by cases z) (by exact q)
    · refine go ws hw _ ?_
      by_cases hc : (!(decide ((1 : Int) ≤ (ws.length : Int)) && decide ((ws.length : Int) ≤ ((8 : Nat) : Int)))) = true
      · rw [if_pos hc]; exact q
      · rw [if_neg hc]
        have hx : ∃ x ∈ ws, x.isWeb = false := by
          rcases hb with rfl | hb
          · exact absurd rfl hc
          · exact hb
        refine ⟨ws, hw, by omega, lcW_map (h := fun x => x.isWeb) (fun _ _ Q hQ => hQ) ?_⟩
        rw [all_not hx]
        exact q
  · have hw : v_value.items = some (rss.map .web) := by rw [e]; rfl
    refine go _ hw _ ?_
    rw [List.length_map]
    by_cases hc : (!(decide ((1 : Int) ≤ (rss.length : Int)) && decide ((rss.length : Int) ≤ ((8 : Nat) : Int)))) = true
    · rw [if_pos hc]; exact q
    · rw [if_neg hc]
      have hl : 1 ≤ rss.length ∧ rss.length ≤ 8 := by
        rw [Bool.not_eq_true', Bool.not_eq_false, Bool.and_eq_true, decide_eq_true_eq, decide_eq_true_eq] at hc
        omega
      have h0 : (rss.map Wv.web)[0]? = some (.web (rss.headD [])) := by
        cases rss with
        | nil => exact absurd hl.1 (by decide)
        | cons r rs => rfl
      refine ⟨_, hw, by rw [List.length_map]; omega, lcW_map (h := fun x => x.isWeb) (fun _ _ Q hQ => hQ) ?_⟩
      rw [all_yes, if_neg (by decide)]
      refine ⟨_, hw, by rw [List.length_map]; omega, lcW_map (h := rowsOf) (fun x hx Q hQ => ?_) ?_⟩
      · obtain ⟨r, _, rfl⟩ := List.mem_map.mp hx
        exact ⟨r, rfl, hQ⟩
      rw [map_rows]
      refine ⟨by omega, andW_of (decide ((dd rss).length = (rss.map Wv.web).length)) (((rss.map Wv.web).map fun x => decide ((rowsOf x).length = (rss.headD []).length)).all id) (fun P hP => ⟨_, hw, hP⟩) (fun _ P hP => ⟨_, hw, by rw [List.length_map]; omega, lcW_map (h := fun x => decide ((rowsOf x).length = (rss.headD []).length)) (fun x hx Q hQ => ?_) hP⟩) (by rw [not_po ok hl.1 hl.2 np]; exact q)⟩
      obtain ⟨r, _, rfl⟩ := List.mem_map.mp hx
      exact ⟨r, rfl, _, hw, _, h0, _, rfl, hQ⟩
end
end Wb

namespace Wb
open PySem PySem.Spec PyProof.Rows L2 SlX StX Rs Ma Sn Tw
variable [Rs.Tabz]
section
variable {P : Program} {w : World} {K : PySem.W.Frag} {mg : Str → Option Value} {base : Heap} {C_Web C_Pool C_InvalidPool : Addr}
theorem ok_Poolu__initu__x {f : Addr} {fd : FuncData} (B : Bf mg) (c_are_webs_1 : Gf P w K mg base 3 "are_webs" (SpN (fun g : Wv => [(fW (YY K C_Web C_Pool P w)) g]) (fun (g : Wv) (Q : Bool → Prop) => notP g ∧ Q false) (fD K dB))) (x_InvalidPool : XCls K mg "InvalidPool" C_InvalidPool) (F : Fun K "__init__" "Pool.__init__" s_Poolu__initu_ f fd) : FnOk P w K mg base (L2.CX P w) 4 f fd ["self", "webs"] (SpMY (YY K C_Web C_Pool P w) C_Pool (fun _ : Unit => []) (fun _ : Unit => []) (fun g : Wv => [(fW (YY K C_Web C_Pool P w)) g]) (fun (_ : Unit) (g : Wv) (_ : Unit × Unit → Prop) (PX : Ex → Prop) => notP g ∧ PX ⟨C_InvalidPool, none⟩) (fD K dU)) := by
  refine gw_metOXN F sc_Poolu__initu_ (fun _ => rfl) rfl (fun _ => inferInstance) fun cdv A outer s H E s0 g a0 F0 hr tk po => ?_
  refine ⟨_, (pss_cons (ps_if (pt_not (pt_val (p_call c_are_webs_1 hr (by decide) (pa_cons (pv 1) pa_nil)))) (pss_one (p_raise rfl tk x_InvalidPool)) pss_nil) pss_neverF), _,
    (ts_ifq (tt_not (tt_B (tr_call (ta_one (tr_var (R := (fW (YY K C_Web C_Pool P w))) (a := g) rfl))))) ts_raiseCs (ts_nextq ts_neverF)), ?_⟩
  rintro Q PX ⟨vs0, F0, hv⟩ hs
  try delta pur
  try dsimp only at hs hv ⊢
  exact ⟨hs.1, hs.2⟩
abbrev s__law_made : Stmt := topS 43
abbrev N__law_made : List Str := ["_law_value"]
theorem sc__law_made : FnScope N__law_made ["_law_value"] (defScope s__law_made) := ⟨rfl, rfl, rfl, by decide +kernel, rfl, by decide +kernel, by decide +kernel⟩
theorem ok__law_made {f : Addr} {fd : FuncData} (B : Bf mg) (x_InvalidPool : XCls K mg "InvalidPool" C_InvalidPool) (c_Pool : MkF P w K mg base 9 "Pool" C_Pool (spPoolInit C_Pool C_Web K P w)) (c_PoolX : MkFX P w K mg base 4 "Pool" C_Pool (SpMY (YY K C_Web C_Pool P w) C_Pool (fun _ : Unit => []) (fun _ : Unit => []) (fun g : Wv => [(fW (YY K C_Web C_Pool P w)) g]) (fun (_ : Unit) (g : Wv) (_ : Unit × Unit → Prop) (PX : Ex → Prop) => notP g ∧ PX ⟨C_InvalidPool, none⟩) (fD K dU))) (F : Fun K "_law_made" "_law_made" s__law_made f fd) (hm : mg "_law_made" = some (.ref f)) (b : Binds K fd ["_law_value"] []) : Gf P w K mg base 12 "_law_made" (SpN (fun g : Wv => [(fW (YY K C_Web C_Pool P w)) g]) (fun (g : Wv) (Q : Option (List Rows) → Prop) => (notP g ∧ Q none) ∨ ∃ rss : List Rows, g = .tp (rss.map .web) ∧ POk rss ∧ Q (some rss)) (fOpt (poolP C_Pool C_Web K P w))) := by
  refine gw_mk F hm b sc__law_made (fun _ => rfl) (fun _ => inferInstance) fun cdv A outer s H E g hr => ?_
  obtain ⟨v__law_value, hgen⟩ : ∃ x, x = g := ⟨g, rfl⟩
  subst hgen
  refine ⟨_, (pss_one (p_try rfl rfl x_InvalidPool (fun W pn xe tk po => (pss_one (ps_ret (Tw.p_orE (p_mk c_Pool hr (by decide) (pa_cons (pv 0) pa_nil)) (Tw.p_mkXt (n := N__law_made.length) tk c_PoolX hr (by decide) (pa_cons (pv 0) pa_nil)))))) (fun a pn => (pss_one (ps_ret pe_non))))), _,
    (ts_try x_InvalidPool (fun W => (ts_ret (tr_sOpt (tr_fact (p := POk) ok_pool (tr_orE (tr_mk (ta_one (tr_Wtweb (X := YY K C_Web C_Pool P w) (tr_var (R := (fW (YY K C_Web C_Pool P w))) (a := v__law_value) rfl)))) (by exact tr_mkBt (ta_one (tr_var (R := (fW (YY K C_Web C_Pool P w))) (a := v__law_value) rfl)))))))) (ts_ret (tr_nOpt (tr_non (K := K))))), ?_⟩
  rintro Q ⟨vs0, F0, hv⟩ hs
  try delta pur
  try dsimp only at hs hv ⊢
  rcases hs with ⟨h, q⟩ | ⟨rss, e, ok, q⟩
  · exact .inr ⟨h, rfl, q⟩
  · exact .inl ⟨rss, e, ok, fun _ => q⟩
end
end Wb

namespace Wb
open PySem PySem.Spec PyProof.Rows L2 SlX StX Rs Ma Sn Tw
variable [Rs.Tabz]
instance {C CW : Addr} {K : PySem.W.Frag} {P : Program} {w : World} : NoNon (poolP C CW K P w) := ⟨fun a v F h e => by
  obtain ⟨p, _, _, rfl, _⟩ := is_pool _ _ _ h
  cases e⟩
theorem sh_lrow {a : List (List Nat)} : SeqAt.shaped (dL (dT dN) a) = true := shaped_of (by
  unfold dL
  rw [PyData.canLay0]
  exact (layAll fun d hd => by obtain ⟨n, _, rfl⟩ := List.mem_map.mp hd; exact part_row).1) (by
  unfold dL
  rw [PyData.depth]
  have := dep_all (f := dT dN) (k := 3) (fun r => (part_row (l := r)).2) (xs := a)
  omega)
theorem eqv_nilR {a : List (List Nat)} : (dL (dT dN) a).eqv (dL dN []) = decide (a = []) := by cases a <;> rfl
theorem silent_okR {k : Nat} (h1 : 1 ≤ k) (h5 : k ≤ 5) : Ok (List.replicate k ([] : List Nat)) := by
  have nil : ∀ r ∈ List.replicate k ([] : List Nat), r = [] := fun r hr => (List.mem_replicate.mp hr).2
  refine ⟨by rw [List.length_replicate]; exact h1, by rw [List.length_replicate]; exact h5, fun r hr => ?_, fun r hr x hx => ?_, fun i r hr hi => ?_⟩
  · rw [nil r hr]; exact List.Pairwise.nil
  · rw [nil r hr] at hx; cases hx
  · rw [nil r (List.mem_of_getElem? hr)] at hi; cases hi
theorem map_get {p : List Rows} : ((List.range p.length).map fun i => p.getD i []) = p := by
  refine List.ext_getElem (by rw [List.length_map, List.length_range]) fun i h1 h2 => ?_
  rw [List.getElem_map, List.getElem_range, List.getD_eq_getElem?_getD, List.getElem?_eq_getElem h2]; rfl
theorem map_idx {p : List Rows} (nd : p.Nodup) : (p.map fun x => p.idxOf x) = List.range p.length := by
  refine List.ext_getElem (by rw [List.length_map, List.length_range]) fun i h1 h2 => ?_
  rw [List.getElem_map, List.getElem_range]
  have hi : i < p.length := by rw [List.length_range] at h2; exact h2
  have hm : p[i] ∈ p := List.getElem_mem hi
  have hj := List.idxOf_lt_length_of_mem hm
  exact (List.getElem_inj (h₀ := hj) (h₁ := hi) nd).mp (List.getElem_idxOf hj)
theorem always_at {p : List Rows} {n : Nat} (h : psize p = n) : ((List.range n).filter fun x => decide ((p.map rootsN).filter (fun r => !decide (x ∈ r)) = [])) = alwaysN p := by
  unfold alwaysN
  rw [h]
  refine List.filter_congr fun x _ => ?_
  rw [Bool.eq_iff_iff, decide_eq_true_eq, List.filter_eq_nil_iff, List.all_eq_true]
  constructor
  · intro a b hb
    obtain ⟨r, hr, rfl⟩ := List.mem_map.mp hb
    have := a (rootsN r) (List.mem_map.mpr ⟨r, hr, rfl⟩)
    simpa using this
  · intro a r hr
    obtain ⟨rs, hrs, rfl⟩ := List.mem_map.mp hr
    have := a _ (List.mem_map.mpr ⟨rs, hrs, rfl⟩)
    simpa using this
theorem none_in {p : List Rows} {r0 : Rows} {s : Rows} (hs : s ∉ p) : ([Wv.dat (dU ()), Wv.dat (dN 0), Wv.dat (dT (dT dN) r0), Wv.dat (dS (Str.ofString "web")), Wv.dat (dL dN []), Wv.dct, Wv.pool p, Wv.web s].filter fun x => inW p x) = [] := by
  rw [List.filter_eq_nil_iff]
  intro x hx
  simp only [List.mem_cons, List.not_mem_nil, or_false] at hx
  rcases hx with rfl | rfl | rfl | rfl | rfl | rfl | rfl | rfl
  all_goals first | exact Bool.false_ne_true | (show ¬ decide (s ∈ p) = true; rw [decide_eq_false hs]; exact Bool.false_ne_true)
section
variable {P : Program} {w : World} {K : PySem.W.Frag} {mg : Str → Option Value} {base : Heap} {C_Web C_Pool C_InvalidPool : Addr}
theorem ok_Poolu__equ__W {f : Addr} {fd : FuncData} (B : Bf mg) (m_Pool : mg "Pool" = some (.ref C_Pool)) (okY : WxOk (YY K C_Web C_Pool P w)) (nf_web : PySem.W.notFirst K C_Web (.ref C_Web) = true) (c_web_eq0 : EqS P w K mg base 1 C_Web (@SpN Tz0 _ _ (fun g : Rows × Rows => [(webP C_Web K) g.1, (webP C_Web K) g.2]) (fun (g : Rows × Rows) (Q : Bool → Prop) => True ∧ Q (decide (g.1 = g.2))) (fD K dB))) (F : Fun K "__eq__" "Pool.__eq__" s_Poolu__equ_ f fd) : FnOk P w K mg base CX0 3 f fd ["self", "other"] (SpN (fun g : (List Rows) × Wv => [(poolP C_Pool C_Web K P w) g.1, (fW (YY K C_Web C_Pool P w)) g.2]) (fun (g : List Rows × Wv) (Q : Bool → Prop) => g.2.isPool = false ∧ Q false) (fD K dB)) := by
  refine gw_met F sc_Poolu__equ_ (fun _ => rfl) (fun _ => inferInstance) fun cdv A outer s H E g hr => ?_
  obtain ⟨v_self, v_other⟩ := g
  refine ⟨_, (pss_one (ps_ret (pe_and (p_isiS (.ref C_Pool) B (pa_cons (pv 1) (pa_cons (p_cls (by rfl) m_Pool) pa_nil))) (pe_one (pe_cmpR (op_eqB0 c_web_eq0 nf_web is_web (fun _ _ _ q => ⟨True.intro, q⟩) web_tells hr (by decide)) (pe_sl (pv 0)) (pe_sl (pv 1)) (nomark _)))))), _,
    (ts_ret (tr_andF (tr_cb (c_isiPool okY) (ta_cons (tr_var (R := (fW (YY K C_Web C_Pool P w))) (a := v_other) rfl) (ta_one tr_clsV))))), ?_⟩
  rintro Q ⟨vs0, F0, hv⟩ hs
  try delta pur
  try dsimp only at hs hv ⊢
  exact hs
abbrev s__law_told : Stmt := topS 37
abbrev N__law_told : List Str := ["_law_pool", "_law_rows_here", "_law_webs", "_law_size", "_law_row", "_law_roots_here", "_law_always", "_law_house", "_law_web", "_law_at", "_law_odd", "_law_one"]
theorem sc__law_told : FnScope N__law_told ["_law_pool", "_law_rows_here"] (defScope s__law_told) := ⟨rfl, rfl, rfl, by decide +kernel, rfl, by decide +kernel, by decide +kernel⟩
theorem ok__law_told {f : Addr} {fd : FuncData} (B : Bf mg) (c_Web : MkF P w K mg base 6 "Web" C_Web (spWebInit C_Web K)) (c_law_roots : Gf P w K mg base 2 "_law_roots" (SpN (fun g : (List (List Nat)) => [(fD K (dT (dT dN))) g]) (fun (g : Rows) (Q : List Nat → Prop) => Ok g ∧ Q (rootsN g)) (fD K (dT dN)))) (c_pool_always : PrpS P w K mg base 1 C_Pool "always" (SpN (fun g : (List Rows) => [(poolP C_Pool C_Web K P w) g]) (fun (g : List Rows) (Q : List Nat → Prop) => Q (alwaysN g)) (fD K (dT dN)))) (c_pool_roots : PrpS P w K mg base 1 C_Pool "roots" (SpN (fun g : (List Rows) => [(poolP C_Pool C_Web K P w) g]) (fun (g : List Rows) (Q : Rows → Prop) => Q (g.map rootsN)) (fD K (dT (dT dN))))) (c_pool_size : PrpS P w K mg base 1 C_Pool "size" (SpN (fun g : (List Rows) => [(poolP C_Pool C_Web K P w) g]) (fun (g : List Rows) (Q : Nat → Prop) => Q (psize g)) (fD K dN))) (c_pool_webs : PrpS P w K mg base 1 C_Pool "webs" (SpN (fun g : (List Rows) => [(poolP C_Pool C_Web K P w) g]) (fun (g : List Rows) (Q : List Rows → Prop) => Q g) (fTp K (webP C_Web K)))) (nf_web : PySem.W.notFirst K C_Web (.ref C_Web) = true) (c_web_eq0 : EqS P w K mg base 1 C_Web (@SpN Tz0 _ _ (fun g : Rows × Rows => [(webP C_Web K) g.1, (webP C_Web K) g.2]) (fun (g : Rows × Rows) (Q : Bool → Prop) => True ∧ Q (decide (g.1 = g.2))) (fD K dB))) (Bs : mg "str" = none) (c_pool_str : OwnS P w K mg base "__str__" 1 C_Pool (SpN (fun g : (List Rows) => [(poolP C_Pool C_Web K P w) g]) (fun (g : List Rows) (Q : PySem.Str → Prop) => POk g ∧ Q (textP g.length (psize g))) (fD K dS))) (c_pool_len : OwnS P w K mg base "__len__" 1 C_Pool (SpN (fun g : (List Rows) => [(poolP C_Pool C_Web K P w) g]) (fun (g : List Rows) (Q : Nat → Prop) => Q g.length) (fD K dN))) (c_pool_index_of : MetS P w K mg base 1 C_Pool "index_of" (SpN (fun g : (List Rows) × Rows => [(poolP C_Pool C_Web K P w) g.1, (webP C_Web K) g.2]) (fun (g : List Rows × Rows) (Q : Nat → Prop) => ∃ i, (POk g.1 ∧ g.1[i]? = some g.2) ∧ Q i) (fD K dN))) (c_pool_iter : ItS P w K mg base 1 C_Pool 2) (c_web_heard : PrpS P w K mg base 1 C_Web "heard" (SpN (fun g : Rows => [(webP C_Web K) g]) (fun (g : Rows) (Q : Rows → Prop) => True ∧ Q g) (fD K (dT (dT dN))))) (c_pool_in : OwnS P w K mg base "__contains__" 1 C_Pool (SpN (fun g : (List Rows) × Wv => [(poolP C_Pool C_Web K P w) g.1, (fW (YY K C_Web C_Pool P w)) g.2]) (fun (g : List Rows × Wv) (Q : Bool → Prop) => Q (inW g.1 g.2)) (fD K dB))) (c_pool_get : GetS P w K mg base 5 C_Pool (SpN (fun g : (List Rows) × Nat => [(poolP C_Pool C_Web K P w) g.1, (fD K dN) g.2]) (fun (g : List Rows × Nat) (Q : Rows → Prop) => ∃ rs, g.1[g.2]? = some rs ∧ Q rs) (webP C_Web K))) (c_Pool : MkF P w K mg base 9 "Pool" C_Pool (spPoolInit C_Pool C_Web K P w)) (nf_pool : PySem.W.notFirst K C_Pool (.ref C_Pool) = true) (c_pool_eq : EqS P w K mg base 3 C_Pool (SpN (fun g : (List Rows) × (List Rows) => [(poolP C_Pool C_Web K P w) g.1, (poolP C_Pool C_Web K P w) g.2]) (fun (g : List Rows × List Rows) (Q : Bool → Prop) => Q (decide (g.1 = g.2))) (fD K dB))) (N_pool : NoD K C_Pool) (c_pool_eqW : EqS P w K mg base 3 C_Pool (SpN (fun g : (List Rows) × Wv => [(poolP C_Pool C_Web K P w) g.1, (fW (YY K C_Web C_Pool P w)) g.2]) (fun (g : List Rows × Wv) (Q : Bool → Prop) => g.2.isPool = false ∧ Q false) (fD K dB))) (F : Fun K "_law_told" "_law_told" s__law_told f fd) (hm : mg "_law_told" = some (.ref f)) (b : Binds K fd ["_law_pool", "_law_rows_here"] []) : Gf P w K mg base 12 "_law_told" (SpN (fun g : (List Rows) × (List (List (List Nat))) => [(poolP C_Pool C_Web K P w) g.1, (fLn (fD K (dT (dT dN)))) g.2]) (fun (g : List Rows × List Rows) (Q : Bool → Prop) => (POk g.1 ∧ g.2 = g.1) ∧ Q true) (fD K dB)) := by
  refine gw_mk F hm b sc__law_told (fun _ => rfl) (fun _ => inferInstance) fun cdv A outer s H E g hr => ?_
  obtain ⟨v__law_pool, v__law_rows_here⟩ := g
  refine ⟨_, (pss_cons (ps_par (i := 2) (j := 3) rfl sc__law_told.nd rfl rfl (by decide) rfl rfl (pa_cons (p_tuple B (pa_cons (pe_lc (own := [("_law_row", 4)]) (g := gName 4) (tt := tYes) rfl sc__law_told.nd (pi_list (pv 1)) (blkOk_by (N := N__law_told) (sc := defScope s__law_told) (by decide +kernel)) (fun _ _ _ _ _ => (pg_name (i := 4) sc__law_told.nd rfl (by first | exact Or.inl rfl | exact Or.inr rfl))) (fun _ _ _ _ _ => pts_nil) (fun _ _ _ _ _ => by exact (p_mk c_Web hr (by decide) (pa_cons (pv 4) pa_nil)))) pa_nil)) (pa_cons (p_len B (pa_cons (pe_ix ix_list (pv 1) pe_int (fun _ _ => rfl)) pa_nil)) pa_nil)) (by rfl))
    (pss_cons (ps_set (i := 5) sc__law_told.nd rfl (by first | exact Or.inl rfl | exact Or.inr rfl) (pe_lc (own := [("_law_row", 4)]) (g := gName 4) (tt := tYes) rfl sc__law_told.nd (pi_list (pv 1)) (blkOk_by (N := N__law_told) (sc := defScope s__law_told) (by decide +kernel)) (fun _ _ _ _ _ => (pg_name (i := 4) sc__law_told.nd rfl (by first | exact Or.inl rfl | exact Or.inr rfl))) (fun _ _ _ _ _ => pts_nil) (fun _ _ _ _ _ => by exact (p_call c_law_roots hr (by decide) (pa_cons (pv 4) pa_nil)))))
    (pss_cons (ps_set (i := 6) sc__law_told.nd rfl (by first | exact Or.inl rfl | exact Or.inr rfl) (p_tuple B (pa_cons (pe_lc (own := [("_law_house", 7)]) (g := gName 7) rfl sc__law_told.nd (pi_range1 (by rfl) B.range (pa_cons (pv 3) pa_nil)) (blkOk_by (N := N__law_told) (sc := defScope s__law_told) (by decide +kernel)) (fun _ _ _ _ _ => (pg_name (i := 7) sc__law_told.nd rfl (by first | exact Or.inl rfl | exact Or.inr rfl))) (fun _ _ _ _ _ => (pts_one (pt_cmpR (op_eqDK K hr.units) (pe_lc (own := [("_law_row", 4)]) (g := gName 4) rfl sc__law_told.nd (pi_listK K (pv 5)) (blkOk_by (N := N__law_told) (by first | decide +kernel | (dsimp only [Cx.blk, compEnvC]; decide +kernel) | exact rfl)) (fun _ _ _ _ _ => (pg_name (i := 4) sc__law_told.nd rfl (by first | exact Or.inl rfl | exact Or.inr rfl))) (fun _ _ _ _ _ => (pts_one (pt_cmpR (op_notIn_seqK K) (pv 7) (pv 4) rfl))) (fun _ _ _ _ _ => by exact (pv 4))) (pe_lst pa_nil) (nomark _)))) (fun _ _ _ _ _ => by exact (pv 7))) pa_nil)))
    (pss_cons (ps_if (PW.pt (pw_or (pt_cmpR (op_neTown0 c_web_eq0 nf_web is_web (fun _ _ q => ⟨True.intro, by simpa using q⟩) hr (by decide)) (p_prp c_pool_webs hr (by decide) (pv 0)) (pv 2) (nomark _)) (pw_or (pt_cmpR op_ne (p_prp c_pool_size hr (by decide) (pv 0)) (pv 3) (nomark _)) (pw_or (pt_cmpR (op_neD hr.units) (p_prp c_pool_roots hr (by decide) (pv 0)) (p_tuple B (pa_cons (pv 5) pa_nil)) (nomark _)) (pw_or1 (pt_cmpR (op_neD hr.units) (p_prp c_pool_always hr (by decide) (pv 0)) (pv 6) (nomark _)))))))
      (pss_one (ps_ret pe_bl))
      pss_nil)
    (pss_cons (ps_if (PW.pt (pw_or (pt_cmpR op_ne (p_lenO B c_pool_len hr (by decide) (pa_cons (pv 0) pa_nil)) (p_len B (pa_cons (pv 1) pa_nil)) (nomark _)) (pw_or1 (pt_cmpR op_ne (p_strO Bs c_pool_str hr (by decide) (pa_cons (pv 0) pa_nil)) (pe_op op_add_str (pe_op op_add_str (pe_op op_add_str (pe_op op_add_str pe_str (p_str B Bs (pa_cons (p_len B (pa_cons (pv 1) pa_nil)) pa_nil))) pe_str) (p_str B Bs (pa_cons (pv 3) pa_nil))) pe_str) (nomark _)))))
      (pss_one (ps_ret pe_bl))
      pss_nil)
    (pss_cons (ps_if (PW.pt (pw_or (pt_cmpR (op_neD hr.units) (pe_lc (own := [("_law_web", 8)]) (g := gName 8) (tt := tYes) rfl sc__law_told.nd (pi_own c_pool_iter hr (by decide) (pv 0)) (blkOk_by (N := N__law_told) (sc := defScope s__law_told) (by decide +kernel)) (fun _ _ _ _ _ => (pg_name (i := 8) sc__law_told.nd rfl (by first | exact Or.inl rfl | exact Or.inr rfl))) (fun _ _ _ _ _ => pts_nil) (fun _ _ _ _ _ => by exact (p_prp c_web_heard hr (by decide) (pv 8)))) (pv 1) (nomark _)) (pw_or1 (pt_cmpR (op_neD hr.units) (pe_lc (own := [("_law_web", 8)]) (g := gName 8) (tt := tYes) rfl sc__law_told.nd (pi_tup (pv 2)) (blkOk_by (N := N__law_told) (sc := defScope s__law_told) (by decide +kernel)) (fun _ _ _ _ _ => (pg_name (i := 8) sc__law_told.nd rfl (by first | exact Or.inl rfl | exact Or.inr rfl))) (fun _ _ _ _ _ => pts_nil) (fun _ _ _ _ _ => by exact (p_met c_pool_index_of hr (by decide) (pv 0) (pa_cons (pv 8) pa_nil)))) (p_listRg rfl B (p_len B (pa_cons (pv 1) pa_nil))) (nomark _)))))
      (pss_one (ps_ret pe_bl))
      pss_nil)
    (pss_cons (ps_if (PW.pt (pw_or (pt_cmpR (op_neLown0 c_web_eq0 nf_web is_web (fun _ _ q => ⟨True.intro, by simpa using q⟩) hr (by decide)) (pe_lc (own := [("_law_at", 9)]) (g := gName 9) (tt := tYes) rfl sc__law_told.nd (pi_range1 (by rfl) B.range (pa_cons (p_len B (pa_cons (pv 1) pa_nil)) pa_nil)) (blkOk_by (N := N__law_told) (sc := defScope s__law_told) (by decide +kernel)) (fun _ _ _ _ _ => (pg_name (i := 9) sc__law_told.nd rfl (by first | exact Or.inl rfl | exact Or.inr rfl))) (fun _ _ _ _ _ => pts_nil) (fun _ _ _ _ _ => by exact (p_getO c_pool_get hr (by decide) (pv 0) (pv 9) (fun _ _ => rfl)))) (p_list B (pa_cons (pv 2) pa_nil)) (nomark _)) (pw_or1 (pt_cmpR (op_neNil hr.units0) (pe_lc (own := [("_law_web", 8)]) (g := gName 8) rfl sc__law_told.nd (pi_tup (pv 2)) (blkOk_by (N := N__law_told) (sc := defScope s__law_told) (by decide +kernel)) (fun _ _ _ _ _ => (pg_name (i := 8) sc__law_told.nd rfl (by first | exact Or.inl rfl | exact Or.inr rfl))) (fun _ _ _ _ _ => (pts_one (pt_cmpR (op_notInO c_pool_in hr (by decide)) (pv 8) (pv 0) rfl))) (fun _ _ _ _ _ => by exact (pv 8))) (pe_lst pa_nil) (nomark _)))))
      (pss_one (ps_ret pe_bl))
      pss_nil)
    (pss_cons (ps_set (i := 10) sc__law_told.nd rfl (by first | exact Or.inl rfl | exact Or.inr rfl) (pe_lst (pa_cons pe_non (pa_cons pe_int (pa_cons (pe_ix ix_list (pv 1) pe_int (fun _ _ => rfl)) (pa_cons pe_str (pa_cons (pe_lst pa_nil) (pa_cons pe_dnewK (pa_cons (pv 0) (pa_cons (p_mk c_Web hr (by decide) (pa_cons (pe_op op_repTA (pe_tup (pa_cons (pe_tup pa_nil) pa_nil)) (pe_op op_add (pe_op op_mod (pv 3) pe_int) pe_int)) pa_nil)) pa_nil))))))))))
    (pss_one (ps_ret (pe_and (pe_cmpR (op_eqNil hr.units0) (pe_lc (own := [("_law_one", 11)]) (g := gName 11) rfl sc__law_told.nd (pi_list (pv 10)) (blkOk_by (N := N__law_told) (sc := defScope s__law_told) (by decide +kernel)) (fun _ _ _ _ _ => (pg_name (i := 11) sc__law_told.nd rfl (by first | exact Or.inl rfl | exact Or.inr rfl))) (fun _ _ _ _ _ => (pts_one (pt_cmpR (op_inO c_pool_in hr (by decide)) (pv 11) (pv 0) rfl))) (fun _ _ _ _ _ => by exact (pv 11))) (pe_lst pa_nil) (nomark _)) (pe_and (pe_cmpR (op_neSl c_pool_eqW hr (by decide)) (pv 0) (pv 2) (nomark _)) (pe_one (pe_cmpR (op_eqO c_pool_eq hr (by decide)) (pv 0) (p_mk c_Pool hr (by decide) (pa_cons (pv 2) pa_nil)) (nomark _))))))))))))))), _,
    (ts_par (Ra := (fTp K (webP C_Web K))) (Rb := (fD K dN)) (tr_cb c_tupL (ta_one (tr_lc (vs := [4]) (Rd := (webP C_Web K)) (ti_lst (tr_var (R := (fLn (fD K (dT (dT dN))))) (a := v__law_rows_here) rfl)) (tg_name (R := (fD K (dT (dT dN)))) 4) rfl rfl rfl (fun _ => rfl) (fun x1 => tt_yes) (fun x1 => (tr_fact (p := Ok) ok_web (tr_mk (ta_one (tr_var (R := (fD K (dT (dT dN)))) (a := x1) rfl)))))))) (tr_cb c_lenDT (ta_one (tr_op o_ixLn (tr_var (R := (fLn (fD K (dT (dT dN))))) (a := v__law_rows_here) rfl) (tr_nat (K := K) 0)))) rfl (fun p2 => (ts_set (R := (fLn (fD K (dT dN)))) 5 (tr_lc (vs := [4]) (Rd := (fD K (dT dN))) (ti_lst (tr_var (R := (fLn (fD K (dT (dT dN))))) (a := v__law_rows_here) rfl)) (tg_name (R := (fD K (dT (dT dN)))) 4) rfl rfl rfl (fun _ => rfl) (fun x3 => tt_yes) (fun x3 => (tr_call (ta_one (tr_var (R := (fD K (dT (dT dN)))) (a := x3) rfl))))) rfl (fun v_law_roots_here_4 => (ts_set (R := (fD K (dT dN))) 6 (tr_cb c_tupDL (ta_one (tr_lnD (tr_lc (vs := [7]) (Rd := (fD K dN)) (ti_rangeN (tr_var (R := (fD K dN)) (a := p2.2) rfl)) (tg_name (R := (fD K dN)) 7) rfl rfl rfl (fun _ => rfl) (fun x5 => (tt_test (tr_op (o_eqA (d := (dL (dT dN))) (e := (dL dN))) (tr_lnD (tr_lc (vs := [4]) (Rd := (fD K (dT dN))) (ti_lst (tr_var (R := (fLn (fD K (dT dN)))) (a := v_law_roots_here_4) rfl)) (tg_name (R := (fD K (dT dN))) 4) rfl rfl rfl (fun _ => rfl) (fun x6 => (tt_test (tr_op o_notInT (tr_var (R := (fD K dN)) (a := x5) rfl) (tr_var (R := (fD K (dT dN))) (a := x6) rfl)))) (fun x6 => (tr_var (R := (fD K (dT dN))) (a := x6) rfl)))) (tr_lnD (tr_lst (R := (fD K dN)) (ta_lnil (R := (fD K dN)))))))) (fun x5 => (tr_var (R := (fD K dN)) (a := x5) rfl)))))) rfl (fun v_law_always_7 => (ts_ifq (tt_or (tt_test (tr_op o_neTown (tr_prp (Ra := (poolP C_Pool C_Web K P w)) (hS := is_pool) (tr_var (R := (poolP C_Pool C_Web K P w)) (a := v__law_pool) rfl)) (tr_var (R := (fTp K (webP C_Web K))) (a := p2.1) rfl))) (tt_or (tt_test (tr_op o_neN (tr_prp (Ra := (poolP C_Pool C_Web K P w)) (hS := is_pool) (tr_var (R := (poolP C_Pool C_Web K P w)) (a := v__law_pool) rfl)) (tr_var (R := (fD K dN)) (a := p2.2) rfl))) (tt_or (tt_test (tr_op (o_neD (d := (dT (dT dN)))) (tr_prp (Ra := (poolP C_Pool C_Web K P w)) (hS := is_pool) (tr_var (R := (poolP C_Pool C_Web K P w)) (a := v__law_pool) rfl)) (tr_cb c_tupDL (ta_one (tr_lnD (tr_var (R := (fLn (fD K (dT dN)))) (a := v_law_roots_here_4) rfl)))))) (tt_test (tr_op (o_neD (d := (dT dN))) (tr_prp (Ra := (poolP C_Pool C_Web K P w)) (hS := is_pool) (tr_var (R := (poolP C_Pool C_Web K P w)) (a := v__law_pool) rfl)) (tr_var (R := (fD K (dT dN))) (a := v_law_always_7) rfl))))))
      (ts_retq (tr_bl (K := K)))
      (ts_nextq (ts_ifq (tt_or (tt_test (tr_op o_neN (tr_cb (c_lenOwn is_pool) (ta_one (tr_var (R := (poolP C_Pool C_Web K P w)) (a := v__law_pool) rfl))) (tr_cb c_lenL (ta_one (tr_var (R := (fLn (fD K (dT (dT dN))))) (a := v__law_rows_here) rfl))))) (tt_test (tr_op o_neS (tr_cb (c_strOwn is_pool) (ta_one (tr_var (R := (poolP C_Pool C_Web K P w)) (a := v__law_pool) rfl))) (tr_op o_addS (tr_op o_addS (tr_op o_addS (tr_op o_addS (tr_str (K := K)) (tr_cb c_str (ta_one (tr_cb c_lenL (ta_one (tr_var (R := (fLn (fD K (dT (dT dN))))) (a := v__law_rows_here) rfl)))))) (tr_str (K := K))) (tr_cb c_str (ta_one (tr_var (R := (fD K dN)) (a := p2.2) rfl)))) (tr_str (K := K))))))
      (ts_retq (tr_bl (K := K)))
      (ts_nextq (ts_ifq (tt_or (tt_test (tr_op (o_neD (d := (dL (dT (dT dN))))) (tr_lnD (tr_lc (vs := [8]) (Rd := (fD K (dT (dT dN)))) (ti_own it_pool (tr_var (R := (poolP C_Pool C_Web K P w)) (a := v__law_pool) rfl)) (tg_name (R := (webP C_Web K)) 8) rfl rfl rfl (fun _ => rfl) (fun x9 => tt_yes) (fun x9 => (tr_prp (Ra := (webP C_Web K)) (hS := is_web) (tr_var (R := (webP C_Web K)) (a := x9) rfl))))) (tr_lnD (tr_var (R := (fLn (fD K (dT (dT dN))))) (a := v__law_rows_here) rfl)))) (tt_test (tr_op (o_neD (d := (dL dN))) (tr_lnD (tr_lc (vs := [8]) (Rd := (fD K dN)) (ti_tup (tr_var (R := (fTp K (webP C_Web K))) (a := p2.1) rfl)) (tg_name (R := (webP C_Web K)) 8) rfl rfl rfl (fun _ => rfl) (fun x8 => tt_yes) (fun x8 => (tr_met (tr_var (R := (poolP C_Pool C_Web K P w)) (a := v__law_pool) rfl) is_pool (ta_one (tr_var (R := (webP C_Web K)) (a := x8) rfl)))))) (tr_lnD (tn_listRg (tr_cb c_lenL (ta_one (tr_var (R := (fLn (fD K (dT (dT dN))))) (a := v__law_rows_here) rfl)))).e))))
      (ts_retq (tr_bl (K := K)))
      (ts_nextq (ts_ifq (tt_or (tt_test (tr_op (o_neLown (K := K)) (tr_lc (vs := [9]) (Rd := (webP C_Web K)) (ti_rangeN (tr_cb c_lenL (ta_one (tr_var (R := (fLn (fD K (dT (dT dN))))) (a := v__law_rows_here) rfl)))) (tg_name (R := (fD K dN)) 9) rfl rfl rfl (fun _ => rfl) (fun x11 => tt_yes) (fun x11 => (tr_fact (p := Ok) ok_web (tr_op (o_getOwn is_pool) (tr_var (R := (poolP C_Pool C_Web K P w)) (a := v__law_pool) rfl) (tr_var (R := (fD K dN)) (a := x11) rfl))))) (tr_cb (c_listT (R := (webP C_Web K))) (ta_one (tr_var (R := (fTp K (webP C_Web K))) (a := p2.1) rfl))))) (tt_test (tr_op (o_neNil (Rb := (fD K dN))) (tr_lc (vs := [8]) (Rd := (webP C_Web K)) (ti_tup (tr_var (R := (fTp K (webP C_Web K))) (a := p2.1) rfl)) (tg_name (R := (webP C_Web K)) 8) rfl rfl rfl (fun _ => rfl) (fun x10 => (tt_test (tr_op (o_notInOwn is_pool) (tr_webW (X := YY K C_Web C_Pool P w) (tr_var (R := (webP C_Web K)) (a := x10) rfl)) (tr_var (R := (poolP C_Pool C_Web K P w)) (a := v__law_pool) rfl)))) (fun x10 => (tr_var (R := (webP C_Web K)) (a := x10) rfl))) (tr_lst (R := (fD K dN)) (ta_lnil (R := (fD K dN)))))))
      (ts_retq (tr_bl (K := K)))
      (ts_nextq (ts_set (R := (fLn (fW (YY K C_Web C_Pool P w)))) 10 (tr_lst (R := (fW (YY K C_Web C_Pool P w))) (ta_lcons (R := (fW (YY K C_Web C_Pool P w))) (tr_dW (X := YY K C_Web C_Pool P w) (d := dU) (tr_non (K := K))) (ta_lcons (R := (fW (YY K C_Web C_Pool P w))) (tr_dW (X := YY K C_Web C_Pool P w) (d := dN) (tr_nat (K := K) 0)) (ta_lcons (R := (fW (YY K C_Web C_Pool P w))) (tr_dW (X := YY K C_Web C_Pool P w) (d := (dT (dT dN))) (tr_op o_ixLn (tr_var (R := (fLn (fD K (dT (dT dN))))) (a := v__law_rows_here) rfl) (tr_nat (K := K) 0))) (ta_lcons (R := (fW (YY K C_Web C_Pool P w))) (tr_dW (X := YY K C_Web C_Pool P w) (d := dS) (tr_str (K := K))) (ta_lcons (R := (fW (YY K C_Web C_Pool P w))) (tr_dW (X := YY K C_Web C_Pool P w) (d := (dL dN)) (tr_lnD (tr_lst (R := (fD K dN)) (ta_lnil (R := (fD K dN)))))) (ta_lcons (R := (fW (YY K C_Web C_Pool P w))) (tr_dct (X := YY K C_Web C_Pool P w)) (ta_lcons (R := (fW (YY K C_Web C_Pool P w))) (tr_poolW (X := YY K C_Web C_Pool P w) (tr_var (R := (poolP C_Pool C_Web K P w)) (a := v__law_pool) rfl)) (ta_lcons (R := (fW (YY K C_Web C_Pool P w))) (tr_webW (X := YY K C_Web C_Pool P w) (tr_fact (p := Ok) ok_web (tr_mk (ta_one (tr_op o_rep1 (tr_tpD (tr_tup (R := (fD K (dT dN))) (ta_lcons (R := (fD K (dT dN))) (tr_tpD (tr_tup (R := (fD K dN)) (ta_lnil (R := (fD K dN))))) (ta_lnil (R := (fD K (dT dN))))))) (tr_op o_addN (tr_op o_modN (tr_var (R := (fD K dN)) (a := p2.2) rfl) (tr_nat (K := K) 5)) (tr_nat (K := K) 1))))))) (ta_lnil (R := (fW (YY K C_Web C_Pool P w))))))))))))) rfl (fun v_law_odd_12 => (ts_ret (tr_and (tr_op (o_eqNil (Rb := (fD K dN))) (tr_lc (vs := [11]) (Rd := (fW (YY K C_Web C_Pool P w))) (ti_lst (tr_var (R := (fLn (fW (YY K C_Web C_Pool P w)))) (a := v_law_odd_12) rfl)) (tg_name (R := (fW (YY K C_Web C_Pool P w))) 11) rfl rfl rfl (fun _ => rfl) (fun x13 => (tt_test (tr_op (o_inOwn is_pool) (tr_var (R := (fW (YY K C_Web C_Pool P w))) (a := x13) rfl) (tr_var (R := (poolP C_Pool C_Web K P w)) (a := v__law_pool) rfl)))) (fun x13 => (tr_var (R := (fW (YY K C_Web C_Pool P w))) (a := x13) rfl))) (tr_lst (R := (fD K dN)) (ta_lnil (R := (fD K dN))))) (tr_and (tr_op (o_neSlW (Y := YY K C_Web C_Pool P w) N_pool is_pool) (tr_var (R := (poolP C_Pool C_Web K P w)) (a := v__law_pool) rfl) (tr_tpW (X := YY K C_Web C_Pool P w) (tr_twebW (X := YY K C_Web C_Pool P w) (tr_var (R := (fTp K (webP C_Web K))) (a := p2.1) rfl)))) (tr_op (o_eqOwn nf_pool is_pool is_pool) (tr_var (R := (poolP C_Pool C_Web K P w)) (a := v__law_pool) rfl) (tr_fact (p := POk) ok_pool (tr_mk (ta_one (tr_var (R := (fTp K (webP C_Web K))) (a := p2.1) rfl)))))))))))))))))))))))), ?_⟩
  rintro Q ⟨vs0, F0, hv⟩ hs
  try delta pur
  try dsimp only at hs hv ⊢
  obtain ⟨⟨ok, e⟩, q⟩ := hs
  subst e
  generalize v__law_rows_here = p at ok ⊢
  have n1 := ok.pos
  have n8 := ok.le
  obtain ⟨r0, h0⟩ : ∃ r, p[0]? = some r := ⟨_, List.getElem?_eq_getElem ok.pos⟩
  have o0 := ok.ok _ (List.mem_of_getElem? h0)
  have l0 := o0.le
  have l1 := o0.pos
  have hp : psize p = r0.length := psize_head h0
  refine ⟨by omega, lcW_map (h := fun x => x) (fun x hx Q hQ => ⟨ok.ok x hx, fun _ => hQ⟩) ?_⟩
  rw [List.map_id']
  refine ⟨r0, h0, by omega, lcW_map (h := rootsN) (fun x hx Q hQ => ⟨ok.ok x hx, hQ⟩) ⟨by omega, by rw [List.length_range]; omega, lcW_of (f := fun x => decide ((p.map rootsN).filter (fun r => !decide (x ∈ r)) = [])) (h := fun x => x) (fun x hx Q hQ => ⟨by rw [List.length_map]; omega, lcW_of (f := fun r => !decide (x ∈ r)) (h := fun x => x) (fun _ _ Q hQ => hQ) (fun _ _ _ Q hQ => hQ) ⟨by decide, ⟨sh_lrow, by decide +kernel⟩, by rw [List.map_id', eqv_nilR]; exact hQ⟩⟩) (fun _ _ _ Q hQ => hQ) ?_⟩⟩
  rw [List.map_id', always_at hp]
  refine orW_of false false (fun P hP => ⟨rfl, hP⟩) (fun _ P hP => orW_of false false (fun P hP => by rw [decide_eq_true hp]; exact hP) (fun _ P hP => orW_of false false (fun P hP => by rw [decide_eq_true rfl]; exact hP) (fun _ P hP => by rw [decide_eq_true rfl]; exact hP) hP) hP) ?_
  rw [Bool.or_false, if_neg Bool.false_ne_true]
  have s1 := strN_le p.length (by omega)
  have s2 := strN_le r0.length (by omega)
  have k1 : (Str.ofString "pool of ").length = 8 := rfl
  have k2 : (Str.ofString " webs on ").length = 9 := rfl
  have k3 : (Str.ofString " houses").length = 7 := rfl
  refine orW_of false false (fun P hP => ⟨by omega, by rw [decide_eq_true rfl]; exact hP⟩) (fun _ P hP => ⟨ok, by omega, by rw [k1]; omega, by rw [str_app_len, k1, k2]; omega, by omega, by rw [str_app_len, str_app_len, k1, k2]; omega, by rw [str_app_len, str_app_len, str_app_len, k1, k2, k3]; omega, by rw [hp, decide_eq_true (show textP p.length r0.length = Str.ofString "pool of " ++ strN p.length ++ Str.ofString " webs on " ++ strN r0.length ++ Str.ofString " houses" from rfl)]; exact hP⟩) ?_
  rw [Bool.or_false, if_neg Bool.false_ne_true]
  refine orW_of false false (fun P hP => ⟨by omega, lcW_map (h := fun x => x) (fun x hx Q hQ => ⟨True.intro, hQ⟩) (by rw [List.map_id', decide_eq_true rfl]; exact hP)⟩) (fun _ P hP => ⟨by omega, lcW_map (h := fun x => p.idxOf x) (fun x hx Q hQ => ⟨_, ⟨ok, by rw [List.getElem?_eq_getElem (List.idxOf_lt_length_of_mem hx), List.getElem_idxOf]⟩, hQ⟩) ⟨by omega, by rw [map_idx ok.nd, decide_eq_true rfl]; exact hP⟩⟩) ?_
  rw [Bool.or_false, if_neg Bool.false_ne_true]
  refine orW_of false false (fun P hP => ⟨by omega, by rw [List.length_range]; omega, lcW_map (h := fun i => p.getD i []) (fun x hx Q hQ => ⟨_, getD_at (List.mem_range.mp hx), fun _ => hQ⟩) ⟨map_get, hP⟩⟩) (fun _ P hP => ⟨by omega, lcW_of (f := fun x => !inW p (.web x)) (h := fun x => x) (fun _ _ Q hQ => hQ) (fun _ _ _ Q hQ => hQ) ⟨by decide, rfl, ?_⟩⟩) ?_
  · have e : (p.filter fun x => !inW p (.web x)) = [] := List.filter_eq_nil_iff.mpr fun x hx => by
      show ¬ (!decide (x ∈ p)) = true
      rw [decide_eq_true hx]; decide
    rw [List.map_id', e]
    exact hP
  rw [Bool.or_false, if_neg Bool.false_ne_true]
  have hk : ∀ s ∈ p, s.length ≠ r0.length % 5 + 1 := fun s hs z => by
    have := ok.sz s hs
    rw [hp] at this
    omega
  refine ⟨r0, h0, by decide, by decide, by decide, by decide, [], rfl, ⟨by omega, by omega⟩, silent_okR (by omega) (by omega), fun _ => ⟨by show 8 ≤ 100000; decide, andW_of true true (fun P hP => ⟨by show 8 ≤ 40000; decide, lcW_of (f := fun x => inW p x) (h := fun x => x) (fun _ _ Q hQ => hQ) (fun _ _ _ Q hQ => hQ) ⟨by decide, rfl, ?_⟩⟩) (fun _ P hP => andW_of true true (fun P hP => ⟨rfl, rfl, hP⟩) (fun _ P hP => ⟨ok, fun _ => by rw [decide_eq_true rfl]; exact hP⟩) hP) q⟩⟩
  rw [List.map_id', none_in fun hm => hk _ hm (by rw [List.length_replicate])]
  exact hP
abbrev s_law : Stmt := topS 44
abbrev N_law : List Str := ["_law_script", "_law_at", "_law_cask_here", "_law_turn", "_law_rows_here", "_law_pool", "_law_again", "_law_value", "_law_due", "_law_web"]
theorem sc_law : FnScope N_law ["_law_script"] (defScope s_law) := ⟨rfl, rfl, rfl, by decide +kernel, rfl, by decide +kernel, by decide +kernel⟩
theorem ok_law {f : Addr} {fd : FuncData} (B : Bf mg) (g_MAX_WEBS : GInt mg "MAX_WEBS" 8) (g_MAX_HOUSES : GInt mg "MAX_HOUSES" 5) (c_law_cask : Gf P w K mg base 1 "_law_cask" (SpN (fun g : (List Int) × Nat => [(fD K (dL dInt)) g.1, (fD K dN) g.2]) (fun (g : List Int × Nat) (Q : Unit → Prop) => g.1.length ≤ 63 ∧ Q ()) (fCk 3))) (c_law_pool_rows : Gf P w K mg base 4 "_law_pool_rows" (SpN (fun g : Unit × Nat × Nat => [(fCk 3) g.1, (fD K dN) g.2.1, (fD K dN) g.2.2]) (fun (g : Unit × Nat × Nat) (Q : List Rows → Prop) => ((1 ≤ g.2.1 ∧ g.2.1 ≤ 5) ∧ 1 ≤ g.2.2 ∧ g.2.2 ≤ 8) ∧ ∀ rss : List Rows, POk rss → psize rss = g.2.1 → Q rss) (fLn (fD K (dT (dT dN)))))) (c_law_scoop : Gf P w K mg base 1 "_law_scoop" (SpN (fun g : Unit × Nat => [(fCk 3) g.1, (fD K dN) g.2]) (fun (g : Unit × Nat) (Q : Nat → Prop) => (1 ≤ g.2 ∧ g.2 ≤ 1000) ∧ ∀ n, n < g.2 → Q n) (fD K dN))) (c_law_pool_of : Gf P w K mg base 11 "_law_pool_of" (SpN (fun g : (List (List (List Nat))) => [(fLn (fD K (dT (dT dN)))) g]) (fun (g : List Rows) (Q : List Rows → Prop) => POk g ∧ Q g) (poolP C_Pool C_Web K P w))) (c_law_groups_right : Gf P w K mg base 8 "_law_groups_right" (SpN (fun g : Unit × (List Rows) => [(fCk 3) g.1, (poolP C_Pool C_Web K P w) g.2]) (fun (g : Unit × List Rows) (Q : Bool → Prop) => POk g.2 ∧ Q true) (fD K dB))) (c_law_told : Gf P w K mg base 12 "_law_told" (SpN (fun g : (List Rows) × (List (List (List Nat))) => [(poolP C_Pool C_Web K P w) g.1, (fLn (fD K (dT (dT dN)))) g.2]) (fun (g : List Rows × List Rows) (Q : Bool → Prop) => (POk g.1 ∧ g.2 = g.1) ∧ Q true) (fD K dB))) (c_law_near : Gf P w K mg base 12 "_law_near" (SpN (fun g : Unit × (List Rows) => [(fCk 3) g.1, (fTp K (webP C_Web K)) g.2]) (fun (g : Unit × List Rows) (Q : Wv → Prop) => POk g.2 ∧ ∀ w, (badV w ∨ ∃ rss : List Rows, w = .tp (rss.map .web) ∧ (rss.length ≤ 16 ∧ ∀ rs ∈ rss, Ok rs)) → Q w) (fW (YY K C_Web C_Pool P w)))) (c_pool_webs : PrpS P w K mg base 1 C_Pool "webs" (SpN (fun g : (List Rows) => [(poolP C_Pool C_Web K P w) g]) (fun (g : List Rows) (Q : List Rows → Prop) => Q g) (fTp K (webP C_Web K)))) (c_law_is_pool : Gf P w K mg base 3 "_law_is_pool" (SpN (fun g : Wv => [(fW (YY K C_Web C_Pool P w)) g]) (fun (g : Wv) (Q : Bool → Prop) => (badV g ∧ Q false) ∨ ∃ rss : List Rows, g = .tp (rss.map .web) ∧ (rss.length ≤ 16 ∧ ∀ rs ∈ rss, Ok rs) ∧ Q (poB rss)) (fD K dB))) (c_law_made : Gf P w K mg base 12 "_law_made" (SpN (fun g : Wv => [(fW (YY K C_Web C_Pool P w)) g]) (fun (g : Wv) (Q : Option (List Rows) → Prop) => (notP g ∧ Q none) ∨ ∃ rss : List Rows, g = .tp (rss.map .web) ∧ POk rss ∧ Q (some rss)) (fOpt (poolP C_Pool C_Web K P w)))) (c_web_heard : PrpS P w K mg base 1 C_Web "heard" (SpN (fun g : Rows => [(webP C_Web K) g]) (fun (g : Rows) (Q : Rows → Prop) => True ∧ Q g) (fD K (dT (dT dN))))) (F : Fun K "law" "law" s_law f fd) : FnOk P w K mg base CX0 14 f fd ["_law_script"] (SpN (fun g : (List Int) => [(fD K (dL dInt)) g]) (fun (g : List Int) (Q : Bool → Prop) => g.length ≤ 63 ∧ Q true) (fD K dB)) := by
  refine gw_met F sc_law (fun _ => rfl) (fun _ => inferInstance) fun cdv A outer s H E g hr => ?_
  obtain ⟨v__law_script, hgen⟩ : ∃ x, x = g := ⟨g, rfl⟩
  subst hgen
  refine ⟨_, (pss_cons (ps_for PassesOwn.never rfl (pi_range1 (by rfl) B.range (pa_cons (p_max2 rfl B (pa_cons pe_int (pa_cons (p_min2 rfl B (pa_cons pe_int (pa_cons (p_len B (pa_cons (pv 0) pa_nil)) pa_nil))) pa_nil))) pa_nil)) (pg_name (i := 1) sc_law.nd rfl (by first | exact Or.inl rfl | exact Or.inr rfl))
      (pss_cons (ps_set (i := 2) sc_law.nd rfl (by first | exact Or.inl rfl | exact Or.inr rfl) (p_call c_law_cask hr (by decide) (pa_cons (pv 0) (pa_cons (pv 1) pa_nil))))
      (pss_one (ps_for PassesOwn.never rfl (pi_range1 (by rfl) B.range (pa_cons pe_int pa_nil)) (pg_name (i := 3) sc_law.nd rfl (by first | exact Or.inl rfl | exact Or.inr rfl))
        (pss_cons (ps_set (i := 4) sc_law.nd rfl (by first | exact Or.inl rfl | exact Or.inr rfl) (p_call c_law_pool_rows hr (by decide) (pa_cons (pv 2) (pa_cons (pe_op op_add pe_int (p_call c_law_scoop hr (by decide) (pa_cons (pv 2) (pa_cons pe_int pa_nil)))) (pa_cons pe_int pa_nil)))))
        (pss_cons (ps_set (i := 5) sc_law.nd rfl (by first | exact Or.inl rfl | exact Or.inr rfl) (p_call c_law_pool_of hr (by decide) (pa_cons (pv 4) pa_nil)))
        (pss_cons (ps_if (PW.pt (pw_or (pt_not (pt_val (p_call c_law_told hr (by decide) (pa_cons (pv 5) (pa_cons (pv 4) pa_nil))))) (pw_or1 (pt_not (pt_val (p_call c_law_groups_right hr (by decide) (pa_cons (pv 2) (pa_cons (pv 5) pa_nil))))))))
          (pss_one (ps_ret pe_bl))
          pss_nil)
        (pss_one (ps_for PassesOwn.never rfl (pi_range1 (by rfl) B.range (pa_cons pe_int pa_nil)) (pg_name (i := 6) sc_law.nd rfl (by first | exact Or.inl rfl | exact Or.inr rfl))
          (pss_cons (ps_set (i := 7) sc_law.nd rfl (by first | exact Or.inl rfl | exact Or.inr rfl) (p_call c_law_near hr (by decide) (pa_cons (pv 2) (pa_cons (p_prp c_pool_webs hr (by decide) (pv 5)) pa_nil))))
          (pss_cons (ps_set (i := 8) sc_law.nd rfl (by first | exact Or.inl rfl | exact Or.inr rfl) (p_call c_law_is_pool hr (by decide) (pa_cons (pv 7) pa_nil)))
          (pss_cons (ps_if (PW.pt (pw_or (pt_cmpR op_ne (pe_cmp (pc_notN (p_call c_law_made hr (by decide) (pa_cons (pv 7) pa_nil)))) (pv 8) (nomark _)) (pw_or1 (pt_cmpR op_ne (pe_cmp (pc_notN (p_call c_law_made hr (by decide) (pa_cons (pv 7) pa_nil)))) (pv 8) (nomark _)))))
            (pss_one (ps_ret pe_bl))
            pss_nil)
          (pss_one (ps_if (PW.pt (pw_and (pt_val (pv 8)) (pw_and1 (pt_not (pt_val (p_call c_law_told hr (by decide) (pa_cons (p_call c_law_made hr (by decide) (pa_cons (pv 7) pa_nil)) (pa_cons (pe_lc (own := [("_law_web", 9)]) (g := gName 9) (tt := tYes) rfl sc_law.nd (pi_tup (pv 7)) (blkOk_by (N := N_law) (sc := defScope s_law) (by decide +kernel)) (fun _ _ _ _ _ => (pg_name (i := 9) sc_law.nd rfl (by first | exact Or.inl rfl | exact Or.inr rfl))) (fun _ _ _ _ _ => pts_nil) (fun _ _ _ _ _ => by exact (p_prp c_web_heard hr (by decide) (pv 9)))) pa_nil))))))))
            (pss_one (ps_ret pe_bl))
            pss_nil))))))))))))))
    (pss_one (ps_ret (pe_cmpR (op_eqD hr.units) (pe_lst (pa_cons (p_gint g_MAX_WEBS) (pa_cons (p_gint g_MAX_HOUSES) pa_nil))) (pe_lst (pa_cons pe_int (pa_cons pe_int pa_nil))) (nomark _))))), _,
    (ts_for (S1 := Unit) (ρ1 := fun s1 => [some ((fD K (dL dInt)) v__law_script), none, none, none, none, none, none, none, none, none]) (κ1s := fun s1 => []) () (leV_some (leV_none (leV_none (leV_none (leV_none (leV_none (leV_none (leV_none (leV_none (leV_none leV_nil)))))))))) (fun _ _ _ h => h) (ti_rangeN (tr_cb c_maxN (ta_cons (tr_nat (K := K) 1) (ta_one (tr_cb c_minN (ta_cons (tr_nat (K := K) 5) (ta_one (tr_cb c_lenDL (ta_one (tr_var (R := (fD K (dL dInt))) (a := v__law_script) rfl)))))))))) (tg_name (R := (fD K dN)) 1) (fun _ => rfl)
      (fun s1 x2 => (ts_set (R := (fCk 3)) 2 (tr_call (ta_cons (tr_var (R := (fD K (dL dInt))) (a := v__law_script) rfl) (ta_one (tr_var (R := (fD K dN)) (a := x2) rfl)))) rfl (fun v_law_cask_here_3 => (ts_one (ts_for (S1 := Unit) (ρ1 := fun s4 => [some ((fD K (dL dInt)) v__law_script), some ((fD K dN) x2), some ((fCk 3) v_law_cask_here_3), none, none, none, none, none, none, none]) (κ1s := fun s4 => []) () (leV_some (leV_some (leV_some (leV_none (leV_none (leV_none (leV_none (leV_none (leV_none (leV_none leV_nil)))))))))) (fun _ _ _ h => h) (ti_rangeN (tr_nat (K := K) 4)) (tg_name (R := (fD K dN)) 3) (fun _ => rfl)
      (fun s4 x5 => (ts_set (R := (fLn (fD K (dT (dT dN))))) 4 (tr_call (ta_cons (tr_var (R := (fCk 3)) (a := v_law_cask_here_3) rfl) (ta_cons (tr_op o_addN (tr_nat (K := K) 1) (tr_call (ta_cons (tr_var (R := (fCk 3)) (a := v_law_cask_here_3) rfl) (ta_one (tr_nat (K := K) 5))))) (ta_one (tr_nat (K := K) 8))))) rfl (fun v_law_rows_here_6 => (ts_set (R := (poolP C_Pool C_Web K P w)) 5 (tr_fact (p := POk) ok_pool (tr_call (ta_one (tr_var (R := (fLn (fD K (dT (dT dN))))) (a := v_law_rows_here_6) rfl)))) rfl (fun v_law_pool_7 => (ts_ifq (tt_or (tt_not (tt_B (tr_call (ta_cons (tr_var (R := (poolP C_Pool C_Web K P w)) (a := v_law_pool_7) rfl) (ta_one (tr_var (R := (fLn (fD K (dT (dT dN))))) (a := v_law_rows_here_6) rfl)))))) (tt_not (tt_B (tr_call (ta_cons (tr_var (R := (fCk 3)) (a := v_law_cask_here_3) rfl) (ta_one (tr_var (R := (poolP C_Pool C_Web K P w)) (a := v_law_pool_7) rfl)))))))
      (ts_retq (tr_bl (K := K)))
      (ts_nextq (ts_one (ts_for (S1 := Unit) (ρ1 := fun s8 => [some ((fD K (dL dInt)) v__law_script), some ((fD K dN) x2), some ((fCk 3) v_law_cask_here_3), some ((fD K dN) x5), some ((fLn (fD K (dT (dT dN)))) v_law_rows_here_6), some ((poolP C_Pool C_Web K P w) v_law_pool_7), none, none, none, none]) (κ1s := fun s8 => []) () (leV_some (leV_some (leV_some (leV_some (leV_some (leV_some (leV_none (leV_none (leV_none (leV_none leV_nil)))))))))) (fun _ _ _ h => h) (ti_rangeN (tr_nat (K := K) 6)) (tg_name (R := (fD K dN)) 6) (fun _ => rfl)
      (fun s8 x9 => (ts_set (R := (fW (YY K C_Web C_Pool P w))) 7 (tr_call (ta_cons (tr_var (R := (fCk 3)) (a := v_law_cask_here_3) rfl) (ta_one (tr_prp (Ra := (poolP C_Pool C_Web K P w)) (hS := is_pool) (tr_var (R := (poolP C_Pool C_Web K P w)) (a := v_law_pool_7) rfl))))) rfl (fun v_law_value_10 => (ts_set (R := (fD K dB)) 8 (tr_call (ta_one (tr_var (R := (fW (YY K C_Web C_Pool P w))) (a := v_law_value_10) rfl))) rfl (fun v_law_due_11 => (ts_ifq (tt_or (tt_test (tr_op o_neB (tr_notNT (tr_call (ta_one (tr_var (R := (fW (YY K C_Web C_Pool P w))) (a := v_law_value_10) rfl)))) (tr_var (R := (fD K dB)) (a := v_law_due_11) rfl))) (tt_test (tr_op o_neB (tr_notNT (tr_call (ta_one (tr_var (R := (fW (YY K C_Web C_Pool P w))) (a := v_law_value_10) rfl)))) (tr_var (R := (fD K dB)) (a := v_law_due_11) rfl))))
      (ts_retq (tr_bl (K := K)))
      (ts_nextq (ts_one (ts_ifq (tt_and (tt_B (tr_var (R := (fD K dB)) (a := v_law_due_11) rfl)) (tt_not (tt_B (tr_call (ta_cons (tr_unopt (tr_call (ta_one (tr_var (R := (fW (YY K C_Web C_Pool P w))) (a := v_law_value_10) rfl)))) (ta_one (tr_lc (vs := [9]) (Rd := (fD K (dT (dT dN)))) (ti_tup (tr_Wt2 (X := YY K C_Web C_Pool P w) (tr_var (R := (fW (YY K C_Web C_Pool P w))) (a := v_law_value_10) rfl))) (tg_name (R := (fW (YY K C_Web C_Pool P w))) 9) rfl rfl rfl (fun _ => rfl) (fun x12 => tt_yes) (fun x12 => (tr_prp (Ra := (webP C_Web K)) (hS := is_web) (tr_Wweb (X := YY K C_Web C_Pool P w) (tr_var (R := (fW (YY K C_Web C_Pool P w))) (a := x12) rfl)))))))))))
      (ts_retq (tr_bl (K := K)))
      (ts_nextq (ts_next () (leV_some (leV_some (leV_some (leV_some (leV_some (leV_some (leV_none (leV_none (leV_none (leV_none leV_nil)))))))))) (fun _ _ _ h => h))))))))))))
      (fun s8 => (ts_next () (leV_some (leV_some (leV_some (leV_none (leV_none (leV_none (leV_none (leV_none (leV_none (leV_none leV_nil)))))))))) (fun _ _ _ h => h))))))))))))
      (fun s4 => (ts_next () (leV_some (leV_none (leV_none (leV_none (leV_none (leV_none (leV_none (leV_none (leV_none (leV_none leV_nil)))))))))) (fun _ _ _ h => h))))))))
      (fun s1 => (ts_ret (tr_op (o_eqD (d := (dL dN))) (tr_lnD (tr_lst (R := (fD K dN)) (ta_lcons (R := (fD K dN)) (tr_nat (K := K) 8) (ta_lcons (R := (fD K dN)) (tr_nat (K := K) 5) (ta_lnil (R := (fD K dN))))))) (tr_lnD (tr_lst (R := (fD K dN)) (ta_lcons (R := (fD K dN)) (tr_nat (K := K) 8) (ta_lcons (R := (fD K dN)) (tr_nat (K := K) 5) (ta_lnil (R := (fD K dN))))))))))), ?_⟩
  rintro Q ⟨vs0, F0, hv⟩ hs
  try delta pur
  try dsimp only at hs hv ⊢
  obtain ⟨hl, q⟩ := hs
  refine ⟨by omega, forW_fold (f := fun _ _ => ()) (fun x _ s P hP => ⟨hl, by decide, forW_fold (f := fun _ _ => ()) (fun y _ s2 P2 hP2 => ⟨by decide, fun n hn => ⟨⟨by omega, by decide⟩, fun rss ok hz => ⟨ok, fun _ => orW_of false false (fun P3 h3 => ⟨⟨ok, rfl⟩, h3⟩) (fun _ P3 h3 => ⟨ok, h3⟩) ?_⟩⟩⟩) hP⟩) ?_⟩
  · rw [Bool.or_false, if_neg Bool.false_ne_true]
    refine ⟨by decide, forW_fold (f := fun _ _ => ()) (fun z _ s3 P4 h4 => ⟨ok, fun w hw => ?_⟩) hP2⟩
    rcases hw with hb | ⟨qss, e, h16, okq⟩
    · refine .inl ⟨hb, orW_of false false (fun P h => .inl ⟨.inl hb, h⟩) (fun _ P h => .inl ⟨.inl hb, h⟩) ?_⟩
      rw [Bool.or_false, if_neg Bool.false_ne_true]
      exact andW_of false false (fun P h => h) (fun z => by cases z) h4
    · refine .inr ⟨qss, e, ⟨h16, okq⟩, ?_⟩
      by_cases po : POk qss
      · have hb : poB qss = true := @decide_eq_true (POk qss) (Classical.propDecidable _) po
        rw [hb]
        refine orW_of false false (fun P h => .inr ⟨qss, e, po, h⟩) (fun _ P h => .inr ⟨qss, e, po, h⟩) ?_
        rw [Bool.or_false, if_neg Bool.false_ne_true]
        refine andW_of true false (fun P h => h) (fun _ P h => .inr ⟨qss, e, po, qss, rfl, qss.map .web, by rw [e]; rfl, by rw [List.length_map]; omega, lcW_map (h := rowsOf) (fun x hx Q hQ => ?_) (by rw [map_rows]; exact ⟨⟨po, rfl⟩, h⟩)⟩) h4
        obtain ⟨r, _, rfl⟩ := List.mem_map.mp hx
        exact ⟨r, rfl, True.intro, hQ⟩
      · have hb : poB qss = false := @decide_eq_false (POk qss) (Classical.propDecidable _) po
        rw [hb]
        refine orW_of false false (fun P h => .inl ⟨.inr ⟨qss, e, ⟨h16, okq⟩, po⟩, h⟩) (fun _ P h => .inl ⟨.inr ⟨qss, e, ⟨h16, okq⟩, po⟩, h⟩) ?_
        rw [Bool.or_false, if_neg Bool.false_ne_true]
        exact andW_of false false (fun P h => h) (fun z => by cases z) h4
  · exact ⟨by decide, by decide, by rw [decide_eq_true rfl]; exact q⟩
end
end Wb

/-! old promises, as the new ones -/
namespace Wb
open PySem PySem.Spec PyProof.Rows L2 SlX StX Rs Ma Tw
variable [Rs.Tabz]
section
variable {P : Program} {w : World} {K : PySem.W.Frag} {mg : Str → Option Value} {base : Heap} {C : Addr} {k : Nat} {x : Str}
end
end Wb

namespace Wb
open PySem PySem.Spec PyProof.Rows L2 SlX StX Rs Ma Tw Sn
variable [TZ : Rs.Tabz]
theorem law_binds {K : PySem.W.Frag} {f : Addr} {fd : FuncData} (F : Fun K "law" "law" s_law f fd) (s : Shared) (v : Value) : BindsTo s fd ⟨[v], []⟩ [("_law_script", v)] := by
  obtain ⟨oc, od, kV, doc, pm, an, cdv, ct, osl, rfl, lk, hcd⟩ := F.ex
  exact .of_eq rfl
theorem all_mk {P : Program} {w : World} {K : PySem.W.Frag} {h : Heap} {mg : Str → Option Value} {fa C_Web C_Pool C_InvalidPool : Addr} {t_MAX_SIZE t_GREATEST t_MAX_WEBS t_MAX_HOUSES : Tok} (X : K.In h) (G : h.Ns mainGlobals mg) (hfa : mg "law" = some (.ref fa))
    (t_is_integer : TopFn K "is_integer" s_is_integer ["value"])
    (t_is_between : TopFn K "is_between" s_is_between ["value", "low", "high"])
    (t_require_number : TopFn K "require_number" s_require_number ["value", "low", "high"])
    (t_is_rising : TopFn K "is_rising" s_is_rising ["value", "low", "high"])
    (t_is_heard_row : TopFn K "is_heard_row" s_is_heard_row ["value", "house", "size"])
    (t_is_heard : TopFn K "is_heard" s_is_heard ["value"])
    (t_houses_from : TopFn K "houses_from" s_houses_from ["heard", "house"])
    (t_heard_by : TopFn K "heard_by" s_heard_by ["web", "house"])
    (t_require_house : TopFn K "require_house" s_require_house ["web", "house"])
    (t_are_webs : TopFn K "are_webs" s_are_webs ["value"])
    (t_require_index : TopFn K "require_index" s_require_index ["pool", "index"])
    (t__law_cask : TopFn K "_law_cask" s__law_cask ["_law_script", "_law_at"])
    (t__law_scoop : TopFn K "_law_scoop" s__law_scoop ["_law_cask_here", "_law_total"])
    (t__law_any_of : TopFn K "_law_any_of" s__law_any_of ["_law_cask_here", "_law_items"])
    (t__law_few_of : TopFn K "_law_few_of" s__law_few_of ["_law_cask_here", "_law_items", "_law_count"])
    (t__law_rows : TopFn K "_law_rows" s__law_rows ["_law_cask_here", "_law_size"])
    (t__law_pool_of : TopFn K "_law_pool_of" s__law_pool_of ["_law_rows_here"])
    (t__law_pool_rows : TopFn K "_law_pool_rows" s__law_pool_rows ["_law_cask_here", "_law_size", "_law_most"])
    (t_is_group_of : TopFn K "is_group_of" s_is_group_of ["pool", "value"])
    (t__law_from : TopFn K "_law_from" s__law_from ["_law_rows_here", "_law_house"])
    (t__law_roots : TopFn K "_law_roots" s__law_roots ["_law_rows_here"])
    (t__law_is_whole : TopFn K "_law_is_whole" s__law_is_whole ["_law_value"])
    (t__law_is_group : TopFn K "_law_is_group" s__law_is_group ["_law_value", "_law_count"])
    (t__law_groups_right : TopFn K "_law_groups_right" s__law_groups_right ["_law_cask_here", "_law_pool"])
    (t__law_is_pool : TopFn K "_law_is_pool" s__law_is_pool ["_law_value"])
    (t__law_near : TopFn K "_law_near" s__law_near ["_law_cask_here", "_law_webs"])
    (t__law_made : TopFn K "_law_made" s__law_made ["_law_value"])
    (t__law_told : TopFn K "_law_told" s__law_told ["_law_pool", "_law_rows_here"])
    (t_law : TopFn K "law" s_law ["_law_script"])
    (m_WebU_initU : MetFn K C_Web "__init__" "Web.__init__" s_Webu__initu_ ["self", "heard"])
    (m_WebU_eqU : MetFn K C_Web "__eq__" "Web.__eq__" s_Webu__equ_ ["self", "other"])
    (m_Web_hears : MetFn K C_Web "hears" "Web.hears" s_Web_hears ["self", "house"])
    (m_PoolU_initU : MetFn K C_Pool "__init__" "Pool.__init__" s_Poolu__initu_ ["self", "webs"])
    (m_PoolU_iterU : MetFn K C_Pool "__iter__" "Pool.__iter__" s_Poolu__iteru_ ["self"])
    (m_PoolU_lenU : MetFn K C_Pool "__len__" "Pool.__len__" s_Poolu__lenu_ ["self"])
    (m_PoolU_getitemU : MetFn K C_Pool "__getitem__" "Pool.__getitem__" s_Poolu__getitemu_ ["self", "index"])
    (m_Pool_is_group : MetFn K C_Pool "is_group" "Pool.is_group" s_Pool_is_group ["self", "value"])
    (m_PoolU_eqU : MetFn K C_Pool "__eq__" "Pool.__eq__" s_Poolu__equ_ ["self", "other"])
    (m_PoolU_containsU : MetFn K C_Pool "__contains__" "Pool.__contains__" s_Poolu__containsu_ ["self", "value"])
    (m_Pool_index_of : MetFn K C_Pool "index_of" "Pool.index_of" s_Pool_index_of ["self", "web"])
    (m_PoolU_strU : MetFn K C_Pool "__str__" "Pool.__str__" s_Poolu__stru_ ["self"])
    (p_Web_heard : PrpFn K C_Web "heard" "Web.heard" s_Web_heard)
    (p_Web_size : PrpFn K C_Web "size" "Web.size" s_Web_size)
    (p_Web_roots : PrpFn K C_Web "roots" "Web.roots" s_Web_roots)
    (p_Pool_roots : PrpFn K C_Pool "roots" "Pool.roots" s_Pool_roots)
    (p_Pool_always : PrpFn K C_Pool "always" "Pool.always" s_Pool_always)
    (p_Pool_size : PrpFn K C_Pool "size" "Pool.size" s_Pool_size)
    (p_Pool_webs : PrpFn K C_Pool "webs" "Pool.webs" s_Pool_webs)
    (sl_Web_own_heard : SlotAt K C_Web "own_heard" 0)
    (sl_Web_own_size : SlotAt K C_Web "own_size" 4)
    (sl_Web_own_reached : SlotAt K C_Web "own_reached" 2)
    (sl_Web_own_roots : SlotAt K C_Web "own_roots" 3)
    (sl_Web_own_pairs : SlotAt K C_Web "own_pairs" 1)
    (sl_Pool_own_webs : SlotAt K C_Pool "own_webs" 2)
    (sl_Pool_own_size : SlotAt K C_Pool "own_size" 1)
    (sl_Pool_own_places : SlotAt K C_Pool "own_places" 0)
    (z_len : PySem.W.nsIn K mainGlobals "len" = some none)
    (z_range : PySem.W.nsIn K mainGlobals "range" = some none)
    (z_list : PySem.W.nsIn K mainGlobals "list" = some none)
    (z_tuple : PySem.W.nsIn K mainGlobals "tuple" = some none)
    (z_set : PySem.W.nsIn K mainGlobals "set" = some none)
    (z_sorted : PySem.W.nsIn K mainGlobals "sorted" = some none)
    (z_all : PySem.W.nsIn K mainGlobals "all" = some none)
    (z_isinstance : PySem.W.nsIn K mainGlobals "isinstance" = some none)
    (z_int : PySem.W.nsIn K mainGlobals "int" = some none)
    (z_bool : PySem.W.nsIn K mainGlobals "bool" = some none)
    (z_enumerate : PySem.W.nsIn K mainGlobals "enumerate" = some none)
    (z_zip : PySem.W.nsIn K mainGlobals "zip" = some none)
    (z_min : PySem.W.nsIn K mainGlobals "min" = some none)
    (z_max : PySem.W.nsIn K mainGlobals "max" = some none)
    (z_abs : PySem.W.nsIn K mainGlobals "abs" = some none)
    (z_str : PySem.W.nsIn K mainGlobals "str" = some none)
    (z_repr : PySem.W.nsIn K mainGlobals "repr" = some none)
    (z_dict : PySem.W.nsIn K mainGlobals "dict" = some none)
    (z_iter : PySem.W.nsIn K mainGlobals "iter" = some none)
    (gi_MAX_SIZE : PySem.W.nsIn K mainGlobals "MAX_SIZE" = some (some (.int (5) t_MAX_SIZE)))
    (gi_GREATEST : PySem.W.nsIn K mainGlobals "GREATEST" = some (some (.int (10 ^ 60) t_GREATEST)))
    (gi_MAX_WEBS : PySem.W.nsIn K mainGlobals "MAX_WEBS" = some (some (.int (8) t_MAX_WEBS)))
    (gi_MAX_HOUSES : PySem.W.nsIn K mainGlobals "MAX_HOUSES" = some (some (.int (5) t_MAX_HOUSES)))
    (a_Web : PySem.W.nsIn K mainGlobals "Web" = some (some (.ref C_Web)))
    (a_Pool : PySem.W.nsIn K mainGlobals "Pool" = some (some (.ref C_Pool)))
    (a_InvalidPool : PySem.W.nsIn K mainGlobals "InvalidPool" = some (some (.ref C_InvalidPool)))
    (xb_InvalidPool : Tw.xclsB K C_InvalidPool = true)
    (nodb : Tw.noDB K C_Pool = true)
    (wxb : Tw.wxB K C_Web C_Pool = true)
    (pg_Web : PySem.W.plainGet K C_Web Str.empty = true)
    (ic_Web : PySem.W.isClsIn K C_Web = true)
    (po_Web : PySem.W.plainOver K C_Web = true)
    (sa_Web : PySem.W.findIn K (.ref C_Web) "__setattr__" = some (some (.builtin "object.__setattr__")))
    (ca_Web : PySem.W.findIn K (.ref C_Web) "__class__" = some (some (.builtin "object.__class__")))
    (cm_Web : PySem.W.mroIn K C_Web (.type "object") = some true)
    (nf_Web : PySem.W.notFirst K C_Web (.ref C_Web) = true)
    (ne_Web : PySem.W.findIn K (.ref C_Web) "__ne__" = some (some (.builtin "object.__ne__")))
    (mk_Web : PySem.W.makesIn K C_Web = true)
    (kc_Web : PySem.W.keepIn K (.ref C_Web) = true)
    (pg_Pool : PySem.W.plainGet K C_Pool Str.empty = true)
    (ic_Pool : PySem.W.isClsIn K C_Pool = true)
    (po_Pool : PySem.W.plainOver K C_Pool = true)
    (sa_Pool : PySem.W.findIn K (.ref C_Pool) "__setattr__" = some (some (.builtin "object.__setattr__")))
    (ca_Pool : PySem.W.findIn K (.ref C_Pool) "__class__" = some (some (.builtin "object.__class__")))
    (cm_Pool : PySem.W.mroIn K C_Pool (.type "object") = some true)
    (nf_Pool : PySem.W.notFirst K C_Pool (.ref C_Pool) = true)
    (ne_Pool : PySem.W.findIn K (.ref C_Pool) "__ne__" = some (some (.builtin "object.__ne__")))
    (mk_Pool : PySem.W.makesIn K C_Pool = true)
    (kc_Pool : PySem.W.keepIn K (.ref C_Pool) = true)
    (cn : PySem.W.specialIn K (.builtin "object.__class__") "__get__" = some (some (.builtin "getset_descriptor.__get__")))
    (ct : PySem.W.takesIn K (.builtin "object.__class__") = some true)
    : ∃ fd : FuncData, (∀ (s : Shared) (v : Value), BindsTo s fd ⟨[v], []⟩ [("_law_script", v)]) ∧ ∀ base : Heap, K.In base → base.Ns mainGlobals mg → FnOk P w K mg base CX0 14 fa fd ["_law_script"] (spLaw K) := by
  obtain ⟨f_is_integer, d_is_integer, a_is_integer, F_is_integer, b_is_integer⟩ := t_is_integer
  obtain ⟨f_is_between, d_is_between, a_is_between, F_is_between, b_is_between⟩ := t_is_between
  obtain ⟨f_require_number, d_require_number, a_require_number, F_require_number, b_require_number⟩ := t_require_number
  obtain ⟨f_is_rising, d_is_rising, a_is_rising, F_is_rising, b_is_rising⟩ := t_is_rising
  obtain ⟨f_is_heard_row, d_is_heard_row, a_is_heard_row, F_is_heard_row, b_is_heard_row⟩ := t_is_heard_row
  obtain ⟨f_is_heard, d_is_heard, a_is_heard, F_is_heard, b_is_heard⟩ := t_is_heard
  obtain ⟨f_houses_from, d_houses_from, a_houses_from, F_houses_from, b_houses_from⟩ := t_houses_from
  obtain ⟨f_heard_by, d_heard_by, a_heard_by, F_heard_by, b_heard_by⟩ := t_heard_by
  obtain ⟨f_require_house, d_require_house, a_require_house, F_require_house, b_require_house⟩ := t_require_house
  obtain ⟨f_are_webs, d_are_webs, a_are_webs, F_are_webs, b_are_webs⟩ := t_are_webs
  obtain ⟨f_require_index, d_require_index, a_require_index, F_require_index, b_require_index⟩ := t_require_index
  obtain ⟨f__law_cask, d__law_cask, a__law_cask, F__law_cask, b__law_cask⟩ := t__law_cask
  obtain ⟨f__law_scoop, d__law_scoop, a__law_scoop, F__law_scoop, b__law_scoop⟩ := t__law_scoop
  obtain ⟨f__law_any_of, d__law_any_of, a__law_any_of, F__law_any_of, b__law_any_of⟩ := t__law_any_of
  obtain ⟨f__law_few_of, d__law_few_of, a__law_few_of, F__law_few_of, b__law_few_of⟩ := t__law_few_of
  obtain ⟨f__law_rows, d__law_rows, a__law_rows, F__law_rows, b__law_rows⟩ := t__law_rows
  obtain ⟨f__law_pool_of, d__law_pool_of, a__law_pool_of, F__law_pool_of, b__law_pool_of⟩ := t__law_pool_of
  obtain ⟨f__law_pool_rows, d__law_pool_rows, a__law_pool_rows, F__law_pool_rows, b__law_pool_rows⟩ := t__law_pool_rows
  obtain ⟨f_is_group_of, d_is_group_of, a_is_group_of, F_is_group_of, b_is_group_of⟩ := t_is_group_of
  obtain ⟨f__law_from, d__law_from, a__law_from, F__law_from, b__law_from⟩ := t__law_from
  obtain ⟨f__law_roots, d__law_roots, a__law_roots, F__law_roots, b__law_roots⟩ := t__law_roots
  obtain ⟨f__law_is_whole, d__law_is_whole, a__law_is_whole, F__law_is_whole, b__law_is_whole⟩ := t__law_is_whole
  obtain ⟨f__law_is_group, d__law_is_group, a__law_is_group, F__law_is_group, b__law_is_group⟩ := t__law_is_group
  obtain ⟨f__law_groups_right, d__law_groups_right, a__law_groups_right, F__law_groups_right, b__law_groups_right⟩ := t__law_groups_right
  obtain ⟨f__law_is_pool, d__law_is_pool, a__law_is_pool, F__law_is_pool, b__law_is_pool⟩ := t__law_is_pool
  obtain ⟨f__law_near, d__law_near, a__law_near, F__law_near, b__law_near⟩ := t__law_near
  obtain ⟨f__law_made, d__law_made, a__law_made, F__law_made, b__law_made⟩ := t__law_made
  obtain ⟨f__law_told, d__law_told, a__law_told, F__law_told, b__law_told⟩ := t__law_told
  obtain ⟨f_law, d_law, a_law, F_law, b_law⟩ := t_law
  obtain ⟨f_WebU_initU, d_WebU_initU, a_WebU_initU, i_WebU_initU, F_WebU_initU, b_WebU_initU⟩ := m_WebU_initU
  obtain ⟨f_WebU_eqU, d_WebU_eqU, a_WebU_eqU, i_WebU_eqU, F_WebU_eqU, b_WebU_eqU⟩ := m_WebU_eqU
  obtain ⟨f_Web_hears, d_Web_hears, a_Web_hears, i_Web_hears, F_Web_hears, b_Web_hears⟩ := m_Web_hears
  obtain ⟨f_PoolU_initU, d_PoolU_initU, a_PoolU_initU, i_PoolU_initU, F_PoolU_initU, b_PoolU_initU⟩ := m_PoolU_initU
  obtain ⟨f_PoolU_iterU, d_PoolU_iterU, a_PoolU_iterU, i_PoolU_iterU, F_PoolU_iterU, b_PoolU_iterU⟩ := m_PoolU_iterU
  obtain ⟨f_PoolU_lenU, d_PoolU_lenU, a_PoolU_lenU, i_PoolU_lenU, F_PoolU_lenU, b_PoolU_lenU⟩ := m_PoolU_lenU
  obtain ⟨f_PoolU_getitemU, d_PoolU_getitemU, a_PoolU_getitemU, i_PoolU_getitemU, F_PoolU_getitemU, b_PoolU_getitemU⟩ := m_PoolU_getitemU
  obtain ⟨f_Pool_is_group, d_Pool_is_group, a_Pool_is_group, i_Pool_is_group, F_Pool_is_group, b_Pool_is_group⟩ := m_Pool_is_group
  obtain ⟨f_PoolU_eqU, d_PoolU_eqU, a_PoolU_eqU, i_PoolU_eqU, F_PoolU_eqU, b_PoolU_eqU⟩ := m_PoolU_eqU
  obtain ⟨f_PoolU_containsU, d_PoolU_containsU, a_PoolU_containsU, i_PoolU_containsU, F_PoolU_containsU, b_PoolU_containsU⟩ := m_PoolU_containsU
  obtain ⟨f_Pool_index_of, d_Pool_index_of, a_Pool_index_of, i_Pool_index_of, F_Pool_index_of, b_Pool_index_of⟩ := m_Pool_index_of
  obtain ⟨f_PoolU_strU, d_PoolU_strU, a_PoolU_strU, i_PoolU_strU, F_PoolU_strU, b_PoolU_strU⟩ := m_PoolU_strU
  obtain ⟨q_Web_heard, f_Web_heard, d_Web_heard, a_Web_heard, s_Web_heard, t_Web_heard, r_Web_heard, F_Web_heard, b_Web_heard⟩ := p_Web_heard
  obtain ⟨q_Web_size, f_Web_size, d_Web_size, a_Web_size, s_Web_size, t_Web_size, r_Web_size, F_Web_size, b_Web_size⟩ := p_Web_size
  obtain ⟨q_Web_roots, f_Web_roots, d_Web_roots, a_Web_roots, s_Web_roots, t_Web_roots, r_Web_roots, F_Web_roots, b_Web_roots⟩ := p_Web_roots
  obtain ⟨q_Pool_roots, f_Pool_roots, d_Pool_roots, a_Pool_roots, s_Pool_roots, t_Pool_roots, r_Pool_roots, F_Pool_roots, b_Pool_roots⟩ := p_Pool_roots
  obtain ⟨q_Pool_always, f_Pool_always, d_Pool_always, a_Pool_always, s_Pool_always, t_Pool_always, r_Pool_always, F_Pool_always, b_Pool_always⟩ := p_Pool_always
  obtain ⟨q_Pool_size, f_Pool_size, d_Pool_size, a_Pool_size, s_Pool_size, t_Pool_size, r_Pool_size, F_Pool_size, b_Pool_size⟩ := p_Pool_size
  obtain ⟨q_Pool_webs, f_Pool_webs, d_Pool_webs, a_Pool_webs, s_Pool_webs, t_Pool_webs, r_Pool_webs, F_Pool_webs, b_Pool_webs⟩ := p_Pool_webs
  have e := hfa.symm.trans (PySem.W.mg_of X G a_law)
  cases e
  have sc_Web : SCls K C_Web := ⟨pg_Web, ic_Web, po_Web, sa_Web⟩
  have W_web : WebK K C_Web := ⟨sc_Web, ⟨ca_Web, cn, ct, cm_Web⟩, kit_self, ⟨sc_Web, sl_Web_own_heard⟩, ⟨sc_Web, sl_Web_own_size⟩, ⟨sc_Web, sl_Web_own_reached⟩, ⟨sc_Web, sl_Web_own_roots⟩, ⟨sc_Web, sl_Web_own_pairs⟩⟩
  have m_Web : mg "Web" = some (.ref C_Web) := PySem.W.mg_of X G a_Web
  have nf_web := nf_Web
  have sc_Pool : SCls K C_Pool := ⟨pg_Pool, ic_Pool, po_Pool, sa_Pool⟩
  have W_pool : PoolK K C_Pool := ⟨sc_Pool, ⟨ca_Pool, cn, ct, cm_Pool⟩, kit_self, ⟨sc_Pool, sl_Pool_own_webs⟩, ⟨sc_Pool, sl_Pool_own_size⟩, ⟨sc_Pool, sl_Pool_own_places⟩⟩
  have m_Pool : mg "Pool" = some (.ref C_Pool) := PySem.W.mg_of X G a_Pool
  have nf_pool := nf_Pool
  have B : Bf mg := ⟨PySem.W.mg_none_of X G z_len, PySem.W.mg_none_of X G z_range, PySem.W.mg_none_of X G z_list, PySem.W.mg_none_of X G z_tuple, PySem.W.mg_none_of X G z_set, PySem.W.mg_none_of X G z_sorted, PySem.W.mg_none_of X G z_all, PySem.W.mg_none_of X G z_isinstance, PySem.W.mg_none_of X G z_int, PySem.W.mg_none_of X G z_bool, PySem.W.mg_none_of X G z_enumerate, PySem.W.mg_none_of X G z_zip, PySem.W.mg_none_of X G z_min, PySem.W.mg_none_of X G z_max, PySem.W.mg_none_of X G z_abs, PySem.W.mg_none_of X G z_str, PySem.W.mg_none_of X G z_repr, PySem.W.mg_none_of X G z_dict⟩
  have Bs : mg "str" = none := PySem.W.mg_none_of X G z_str
  have Bi : mg "iter" = none := PySem.W.mg_none_of X G z_iter
  have g_MAX_SIZE : GInt mg "MAX_SIZE" (5) := ⟨_, PySem.W.mg_of X G gi_MAX_SIZE⟩
  have g_GREATEST : GInt mg "GREATEST" (10 ^ 60) := ⟨_, PySem.W.mg_of X G gi_GREATEST⟩
  have g_MAX_WEBS : GInt mg "MAX_WEBS" (8) := ⟨_, PySem.W.mg_of X G gi_MAX_WEBS⟩
  have g_MAX_HOUSES : GInt mg "MAX_HOUSES" (5) := ⟨_, PySem.W.mg_of X G gi_MAX_HOUSES⟩
  have m_InvalidPool : mg "InvalidPool" = some (.ref C_InvalidPool) := PySem.W.mg_of X G a_InvalidPool
  have x_InvalidPool : XCls K mg "InvalidPool" C_InvalidPool := Tw.xclsB_ok xb_InvalidPool m_InvalidPool
  have okY : WxOk (YY K C_Web C_Pool P w) := Tw.wxB_ok wxb sc_Web ⟨ca_Web, cn, ct, cm_Web⟩ sc_Pool ⟨ca_Pool, cn, ct, cm_Pool⟩
  have N_pool := Tw.noDB_ok nodb
  refine ⟨d_law, ?_, fun base _ _ => ?_⟩
  · exact law_binds F_law
  have o_is_integer : Gf P w K mg base 1 "is_integer" _ := ok_is_integer B g_GREATEST F_is_integer (PySem.W.mg_of X G a_is_integer) b_is_integer
  have o_is_between : Gf P w K mg base 2 "is_between" _ := ok_is_between o_is_integer F_is_between (PySem.W.mg_of X G a_is_between) b_is_between
  have o_require_number : Gf P w K mg base 3 "require_number" _ := ok_require_number o_is_between F_require_number (PySem.W.mg_of X G a_require_number) b_require_number
  have c_require_number : Gf P w K mg base 3 "require_number" (SpN (fun g : PyData × Int × Int => [(fD K dA) g.1, (fD K dInt) g.2.1, (fD K dInt) g.2.2]) (fun (g : PyData × Int × Int) (Q : Unit → Prop) => isBt g.1 g.2.1 g.2.2 = true ∧ Q ()) (fD K dU)) := Gf.toN (f := fun _ => ()) o_require_number
  have o_is_rising : Gf P w K mg base 3 "is_rising" _ := ok_is_rising B o_is_between F_is_rising (PySem.W.mg_of X G a_is_rising) b_is_rising
  have o_is_heard_row : Gf P w K mg base 4 "is_heard_row" _ := ok_is_heard_row o_is_rising F_is_heard_row (PySem.W.mg_of X G a_is_heard_row) b_is_heard_row
  have o_is_heard : Gf P w K mg base 5 "is_heard" _ := ok_is_heard B g_MAX_SIZE o_is_heard_row F_is_heard (PySem.W.mg_of X G a_is_heard) b_is_heard
  have o_houses_from : Gf P w K mg base 1 "houses_from" _ := ok_houses_from B F_houses_from (PySem.W.mg_of X G a_houses_from) b_houses_from
  have c_Web : MkF P w K mg base 6 "Web" C_Web (spWebInit C_Web K) := ⟨f_WebU_initU, d_WebU_initU, _, ⟨mk_Web, a_WebU_initU, i_WebU_initU, kc_Web⟩, ok_web_init B W_web o_is_heard o_houses_from F_WebU_initU, m_Web, b_WebU_initU⟩
  have o_heard_by : Gf P w K mg base 1 "heard_by" _ := ok_heard_by B W_web F_heard_by (PySem.W.mg_of X G a_heard_by) b_heard_by
  have o_require_house : Gf P w K mg base 4 "require_house" _ := ok_require_house W_web o_require_number F_require_house (PySem.W.mg_of X G a_require_house) b_require_house
  have o_web_heard : PrpS P w K mg base 1 C_Web "heard" _ := ⟨q_Web_heard, f_Web_heard, sc_Web, a_Web_heard, s_Web_heard, t_Web_heard, r_Web_heard, fnr_mk (ok_heard W_web F_Web_heard) b_Web_heard⟩
  have c_web_heard : PrpS P w K mg base 1 C_Web "heard" (SpN (fun g : Rows => [(webP C_Web K) g]) (fun (g : Rows) (Q : Rows → Prop) => True ∧ Q g) (fD K (dT (dT dN)))) := prp_toN o_web_heard
  have o_web_eq : EqS P w K mg base 1 C_Web _ := ⟨f_WebU_eqU, ne_Web, cm_Web, a_WebU_eqU, i_WebU_eqU, fnr_mk (ok_eq B W_web m_Web F_WebU_eqU) b_WebU_eqU⟩
  have o_web_eq0 : EqS P w K mg base 1 C_Web (@SpN Tz0 _ _ (fun g : Rows × Rows => [(webP C_Web K) g.1, (webP C_Web K) g.2]) (fun (g : Rows × Rows) (Q : Bool → Prop) => True ∧ Q (decide (g.1 = g.2))) (fD K dB)) := by
    letI : Rs.Tabz := Tw.Tz0
    exact eq_toN (⟨f_WebU_eqU, ne_Web, cm_Web, a_WebU_eqU, i_WebU_eqU, fnr_mk (ok_eq B W_web m_Web F_WebU_eqU) b_WebU_eqU⟩ : EqS P w K mg base 1 C_Web _)
  have c_web_eq0 := o_web_eq0
  have o_web_size : PrpS P w K mg base 1 C_Web "size" _ := ⟨q_Web_size, f_Web_size, sc_Web, a_Web_size, s_Web_size, t_Web_size, r_Web_size, fnr_mk (ok_size W_web F_Web_size) b_Web_size⟩
  have c_web_size : PrpS P w K mg base 1 C_Web "size" (SpN (fun g : Rows => [(webP C_Web K) g]) (fun (g : Rows) (Q : Nat → Prop) => True ∧ Q g.length) (fD K dN)) := prp_toN o_web_size
  have o_web_roots : PrpS P w K mg base 1 C_Web "roots" _ := ⟨q_Web_roots, f_Web_roots, sc_Web, a_Web_roots, s_Web_roots, t_Web_roots, r_Web_roots, fnr_mk (ok_roots W_web F_Web_roots) b_Web_roots⟩
  have o_web_hears : MetS P w K mg base 5 C_Web "hears" _ := ⟨f_Web_hears, sc_Web, ⟨a_Web_hears, i_Web_hears, F_Web_hears.kp⟩, fnr_mk (ok_hears o_require_house o_heard_by F_Web_hears) b_Web_hears⟩
  have c_are_webs : Gf P w K mg base 1 "are_webs" (SpN (fun g : (List Rows) => [(fTp K (webP C_Web K)) g]) (fun (g : List Rows) (Q : Bool → Prop) => POk g ∧ Q true) (fD K dB)) := ok_are_webs B g_MAX_WEBS m_Web W_web F_are_webs (PySem.W.mg_of X G a_are_webs) b_are_webs
  have c_are_webs_1 : Gf P w K mg base 3 "are_webs" (SpN (fun g : Wv => [(fW (YY K C_Web C_Pool P w)) g]) (fun (g : Wv) (Q : Bool → Prop) => notP g ∧ Q false) (fD K dB)) := ok_are_webs_v1 B g_MAX_WEBS m_Web okY W_web F_are_webs (PySem.W.mg_of X G a_are_webs) b_are_webs
  have c_Pool : MkF P w K mg base 9 "Pool" C_Pool (spPoolInit C_Pool C_Web K P w) := ⟨f_PoolU_initU, d_PoolU_initU, _, ⟨mk_Pool, a_PoolU_initU, i_PoolU_initU, kc_Pool⟩, ok_pool_init B W_web W_pool c_are_webs F_PoolU_initU, m_Pool, b_PoolU_initU⟩
  have c_pool_iter : ItS P w K mg base 1 C_Pool 2 := ok_pool_iter Bi W_pool a_PoolU_iterU i_PoolU_iterU F_PoolU_iterU b_PoolU_iterU
  have c_require_index : Gf P w K mg base 4 "require_index" (SpN (fun g : (List Rows) × Nat => [(poolP C_Pool C_Web K P w) g.1, (fD K dN) g.2]) (fun (g : List Rows × Nat) (Q : Unit → Prop) => g.2 < g.1.length ∧ Q ()) (fD K dU)) := ok_require_index B c_require_number W_pool F_require_index (PySem.W.mg_of X G a_require_index) b_require_index
  have c_pool_roots : PrpS P w K mg base 1 C_Pool "roots" (SpN (fun g : (List Rows) => [(poolP C_Pool C_Web K P w) g]) (fun (g : List Rows) (Q : Rows → Prop) => Q (g.map rootsN)) (fD K (dT (dT dN)))) := ⟨q_Pool_roots, f_Pool_roots, sc_Pool, a_Pool_roots, s_Pool_roots, t_Pool_roots, r_Pool_roots, fnr_mk (ok_Pool_roots B W_pool W_web F_Pool_roots) b_Pool_roots⟩
  have c_pool_always : PrpS P w K mg base 1 C_Pool "always" (SpN (fun g : (List Rows) => [(poolP C_Pool C_Web K P w) g]) (fun (g : List Rows) (Q : List Nat → Prop) => Q (alwaysN g)) (fD K (dT dN))) := ⟨q_Pool_always, f_Pool_always, sc_Pool, a_Pool_always, s_Pool_always, t_Pool_always, r_Pool_always, fnr_mk (ok_Pool_always B W_pool W_web F_Pool_always) b_Pool_always⟩
  have c_pool_size : PrpS P w K mg base 1 C_Pool "size" (SpN (fun g : (List Rows) => [(poolP C_Pool C_Web K P w) g]) (fun (g : List Rows) (Q : Nat → Prop) => Q (psize g)) (fD K dN)) := ⟨q_Pool_size, f_Pool_size, sc_Pool, a_Pool_size, s_Pool_size, t_Pool_size, r_Pool_size, fnr_mk (ok_Pool_size B W_pool F_Pool_size) b_Pool_size⟩
  have c_pool_len : OwnS P w K mg base "__len__" 1 C_Pool (SpN (fun g : (List Rows) => [(poolP C_Pool C_Web K P w) g]) (fun (g : List Rows) (Q : Nat → Prop) => Q g.length) (fD K dN)) := ⟨f_PoolU_lenU, a_PoolU_lenU, i_PoolU_lenU, fnr_mk (ok_Poolu__lenu_ B W_pool F_PoolU_lenU) b_PoolU_lenU⟩
  have c_pool_get : GetS P w K mg base 5 C_Pool (SpN (fun g : (List Rows) × Nat => [(poolP C_Pool C_Web K P w) g.1, (fD K dN) g.2]) (fun (g : List Rows × Nat) (Q : Rows → Prop) => ∃ rs, g.1[g.2]? = some rs ∧ Q rs) (webP C_Web K)) := ⟨f_PoolU_getitemU, a_PoolU_getitemU, fn_in F_PoolU_getitemU, i_PoolU_getitemU, fnr_mk (ok_Poolu__getitemu_ B c_require_index W_pool F_PoolU_getitemU) b_PoolU_getitemU⟩
  have o_law_cask : Gf P w K mg base 1 "_law_cask" _ := ok_cask B F__law_cask (PySem.W.mg_of X G a__law_cask) b__law_cask
  have c_law_cask : Gf P w K mg base 1 "_law_cask" (SpN (fun g : (List Int) × Nat => [(fD K (dL dInt)) g.1, (fD K dN) g.2]) (fun (g : List Int × Nat) (Q : Unit → Prop) => g.1.length ≤ 63 ∧ Q ()) (fCk 3)) := Gf.toN o_law_cask
  have o_law_scoop : Gf P w K mg base 1 "_law_scoop" _ := ok_scoop B F__law_scoop (PySem.W.mg_of X G a__law_scoop) b__law_scoop
  have c_law_scoop : Gf P w K mg base 1 "_law_scoop" (SpN (fun g : Unit × Nat => [(fCk 3) g.1, (fD K dN) g.2]) (fun (g : Unit × Nat) (Q : Nat → Prop) => (1 ≤ g.2 ∧ g.2 ≤ 1000) ∧ ∀ n, n < g.2 → Q n) (fD K dN)) := scoop_toN o_law_scoop
  have c_law_any_of : Gf P w K mg base 2 "_law_any_of" (SpN (fun g : Unit × (List Nat) => [(fCk 3) g.1, (fLn (fD K dN)) g.2]) spAny (fD K dN)) := ok__law_any_of B c_law_scoop F__law_any_of (PySem.W.mg_of X G a__law_any_of) b__law_any_of
  have c_law_any_of_1 : Gf P w K mg base 2 "_law_any_of" (SpN (fun g : Unit × (List (List (List Nat))) => [(fCk 3) g.1, (fLn (fD K (dT (dT dN)))) g.2]) spAny (fD K (dT (dT dN)))) := ok__law_any_of B c_law_scoop F__law_any_of (PySem.W.mg_of X G a__law_any_of) b__law_any_of
  have c_law_any_of_2 : Gf P w K mg base 2 "_law_any_of" (SpN (fun g : Unit × (List (List (List Nat))) => [(fCk 3) g.1, (fLn (fD K (dT (dT dN)))) g.2]) spAny (fD K (dT (dT dN)))) := ok__law_any_of B c_law_scoop F__law_any_of (PySem.W.mg_of X G a__law_any_of) b__law_any_of
  have c_law_any_of_3 : Gf P w K mg base 2 "_law_any_of" (SpN (fun g : Unit × (List Wv) => [(fCk 3) g.1, (fLn (fW (YY K C_Web C_Pool P w))) g.2]) spAny (fW (YY K C_Web C_Pool P w))) := ok__law_any_of B c_law_scoop F__law_any_of (PySem.W.mg_of X G a__law_any_of) b__law_any_of
  have c_law_few_of : Gf P w K mg base 2 "_law_few_of" (SpN (fun g : Unit × (List Nat) × Nat => [(fCk 3) g.1, (fLn (fD K dN)) g.2.1, (fD K dN) g.2.2]) spFew (fLn (fD K dN))) := ok__law_few_of B c_law_scoop F__law_few_of (PySem.W.mg_of X G a__law_few_of) b__law_few_of
  have c_law_rows : Gf P w K mg base 3 "_law_rows" (SpN (fun g : Unit × Nat => [(fCk 3) g.1, (fD K dN) g.2]) (fun (g : Unit × Nat) (Q : Rows → Prop) => (1 ≤ g.2 ∧ g.2 ≤ 5) ∧ ∀ rs : Rows, Ok rs → rs.length = g.2 → Q rs) (fD K (dT (dT dN)))) := ok__law_rows B c_law_scoop c_law_any_of c_law_few_of F__law_rows (PySem.W.mg_of X G a__law_rows) b__law_rows
  have c_law_pool_of : Gf P w K mg base 11 "_law_pool_of" (SpN (fun g : (List (List (List Nat))) => [(fLn (fD K (dT (dT dN)))) g]) (fun (g : List Rows) (Q : List Rows → Prop) => POk g ∧ Q g) (poolP C_Pool C_Web K P w)) := ok__law_pool_of B c_Pool c_Web F__law_pool_of (PySem.W.mg_of X G a__law_pool_of) b__law_pool_of
  have c_law_pool_rows : Gf P w K mg base 4 "_law_pool_rows" (SpN (fun g : Unit × Nat × Nat => [(fCk 3) g.1, (fD K dN) g.2.1, (fD K dN) g.2.2]) (fun (g : Unit × Nat × Nat) (Q : List Rows → Prop) => ((1 ≤ g.2.1 ∧ g.2.1 ≤ 5) ∧ 1 ≤ g.2.2 ∧ g.2.2 ≤ 8) ∧ ∀ rss : List Rows, POk rss → psize rss = g.2.1 → Q rss) (fLn (fD K (dT (dT dN))))) := ok__law_pool_rows B c_law_scoop c_law_rows c_law_any_of_1 F__law_pool_rows (PySem.W.mg_of X G a__law_pool_rows) b__law_pool_rows
  have c_is_integer_1 : Gf P w K mg base 1 "is_integer" (SpN (fun g : Wv => [(fW (YY K C_Web C_Pool P w)) g]) (fun (g : Wv) (Q : Bool → Prop) => Q (intW g)) (fD K dB)) := ok_is_integer_v1 B g_GREATEST okY F_is_integer (PySem.W.mg_of X G a_is_integer) b_is_integer
  have c_is_between_1 : Gf P w K mg base 2 "is_between" (SpN (fun g : Wv × Int × Int => [(fW (YY K C_Web C_Pool P w)) g.1, (fD K dInt) g.2.1, (fD K dInt) g.2.2]) (fun (g : Wv × Int × Int) (Q : Bool → Prop) => Q (btW g.1 g.2.1 g.2.2)) (fD K dB)) := ok_is_between_v1 B c_is_integer_1 F_is_between (PySem.W.mg_of X G a_is_between) b_is_between
  have c_is_rising_1 : Gf P w K mg base 3 "is_rising" (SpN (fun g : Wv × Int × Int => [(fW (YY K C_Web C_Pool P w)) g.1, (fD K dInt) g.2.1, (fD K dInt) g.2.2]) (fun (g : Wv × Int × Int) (Q : Bool → Prop) => (flatW g.1 ∧ 0 ≤ g.2.1) ∧ Q (risW g.1 g.2.1 g.2.2)) (fD K dB)) := ok_is_rising_v1 B c_is_between_1 okY F_is_rising (PySem.W.mg_of X G a_is_rising) b_is_rising
  have c_are_webs_1 : Gf P w K mg base 3 "are_webs" (SpN (fun g : Wv => [(fW (YY K C_Web C_Pool P w)) g]) (fun (g : Wv) (Q : Bool → Prop) => notP g ∧ Q false) (fD K dB)) := ok_are_webs_v1 B g_MAX_WEBS m_Web okY W_web F_are_webs (PySem.W.mg_of X G a_are_webs) b_are_webs
  have c_is_group_of : Gf P w K mg base 4 "is_group_of" (SpN (fun g : (List Rows) × Wv => [(poolP C_Pool C_Web K P w) g.1, (fW (YY K C_Web C_Pool P w)) g.2]) (fun (g : List Rows × Wv) (Q : Bool → Prop) => (POk g.1 ∧ flatW g.2) ∧ Q (grpW g.1.length g.2)) (fD K dB)) := ok_is_group_of B W_pool c_is_rising_1 F_is_group_of (PySem.W.mg_of X G a_is_group_of) b_is_group_of
  have c_pool_is_group : MetS P w K mg base 5 C_Pool "is_group" (SpN (fun g : (List Rows) × Wv => [(poolP C_Pool C_Web K P w) g.1, (fW (YY K C_Web C_Pool P w)) g.2]) (fun (g : List Rows × Wv) (Q : Bool → Prop) => (POk g.1 ∧ flatW g.2) ∧ Q (grpW g.1.length g.2)) (fD K dB)) := ⟨f_Pool_is_group, sc_Pool, ⟨a_Pool_is_group, i_Pool_is_group, F_Pool_is_group.kp⟩, fnr_mk (ok_Pool_is_group B c_is_group_of F_Pool_is_group) b_Pool_is_group⟩
  have c_pool_webs : PrpS P w K mg base 1 C_Pool "webs" (SpN (fun g : (List Rows) => [(poolP C_Pool C_Web K P w) g]) (fun (g : List Rows) (Q : List Rows → Prop) => Q g) (fTp K (webP C_Web K))) := ⟨q_Pool_webs, f_Pool_webs, sc_Pool, a_Pool_webs, s_Pool_webs, t_Pool_webs, r_Pool_webs, fnr_mk (ok_Pool_webs B W_pool F_Pool_webs) b_Pool_webs⟩
  have c_pool_eq : EqS P w K mg base 3 C_Pool (SpN (fun g : (List Rows) × (List Rows) => [(poolP C_Pool C_Web K P w) g.1, (poolP C_Pool C_Web K P w) g.2]) (fun (g : List Rows × List Rows) (Q : Bool → Prop) => Q (decide (g.1 = g.2))) (fD K dB)) := ⟨f_PoolU_eqU, ne_Pool, cm_Pool, a_PoolU_eqU, i_PoolU_eqU, fnr_mk (ok_Poolu__equ_ B m_Pool W_pool nf_web c_web_eq0 F_PoolU_eqU) b_PoolU_eqU⟩
  have c_pool_eqW : EqS P w K mg base 3 C_Pool (SpN (fun g : (List Rows) × Wv => [(poolP C_Pool C_Web K P w) g.1, (fW (YY K C_Web C_Pool P w)) g.2]) (fun (g : List Rows × Wv) (Q : Bool → Prop) => g.2.isPool = false ∧ Q false) (fD K dB)) := ⟨f_PoolU_eqU, ne_Pool, cm_Pool, a_PoolU_eqU, i_PoolU_eqU, fnr_mk (ok_Poolu__equ__W B m_Pool okY nf_web c_web_eq0 F_PoolU_eqU) b_PoolU_eqU⟩
  have c_pool_in : OwnS P w K mg base "__contains__" 1 C_Pool (SpN (fun g : (List Rows) × Wv => [(poolP C_Pool C_Web K P w) g.1, (fW (YY K C_Web C_Pool P w)) g.2]) (fun (g : List Rows × Wv) (Q : Bool → Prop) => Q (inW g.1 g.2)) (fD K dB)) := ⟨f_PoolU_containsU, a_PoolU_containsU, i_PoolU_containsU, fnr_mk (ok_Poolu__containsu_ B m_Web okY W_web W_pool F_PoolU_containsU) b_PoolU_containsU⟩
  have c_pool_index_of : MetS P w K mg base 1 C_Pool "index_of" (SpN (fun g : (List Rows) × Rows => [(poolP C_Pool C_Web K P w) g.1, (webP C_Web K) g.2]) (fun (g : List Rows × Rows) (Q : Nat → Prop) => ∃ i, (POk g.1 ∧ g.1[i]? = some g.2) ∧ Q i) (fD K dN)) := ⟨f_Pool_index_of, sc_Pool, ⟨a_Pool_index_of, i_Pool_index_of, F_Pool_index_of.kp⟩, fnr_mk (ok_Pool_index_of B m_Web W_web W_pool F_Pool_index_of) b_Pool_index_of⟩
  have c_pool_str : OwnS P w K mg base "__str__" 1 C_Pool (SpN (fun g : (List Rows) => [(poolP C_Pool C_Web K P w) g]) (fun (g : List Rows) (Q : PySem.Str → Prop) => POk g ∧ Q (textP g.length (psize g))) (fD K dS)) := ⟨f_PoolU_strU, a_PoolU_strU, i_PoolU_strU, fnr_mk (ok_Poolu__stru_ B W_pool F_PoolU_strU) b_PoolU_strU⟩
  have c_PoolX : MkFX P w K mg base 4 "Pool" C_Pool (SpMY (YY K C_Web C_Pool P w) C_Pool (fun _ : Unit => []) (fun _ : Unit => []) (fun g : Wv => [(fW (YY K C_Web C_Pool P w)) g]) (fun (_ : Unit) (g : Wv) (_ : Unit × Unit → Prop) (PX : Ex → Prop) => notP g ∧ PX ⟨C_InvalidPool, none⟩) (fD K dU)) := ⟨⟨f_PoolU_initU, d_PoolU_initU, _, ⟨mk_Pool, a_PoolU_initU, i_PoolU_initU, kc_Pool⟩, ok_Poolu__initu__x B c_are_webs_1 x_InvalidPool F_PoolU_initU, m_Pool, b_PoolU_initU⟩⟩
  have c_law_from : Gf P w K mg base 1 "_law_from" (SpN (fun g : (List (List Nat)) × Nat => [(fD K (dT (dT dN))) g.1, (fD K dN) g.2]) (fun (g : Rows × Nat) (Q : List Nat → Prop) => (Ok g.1 ∧ g.2 < g.1.length) ∧ Q (reachL g.1 g.2)) (fD K (dT dN))) := ok__law_from B F__law_from (PySem.W.mg_of X G a__law_from) b__law_from
  have c_law_roots : Gf P w K mg base 2 "_law_roots" (SpN (fun g : (List (List Nat)) => [(fD K (dT (dT dN))) g]) (fun (g : Rows) (Q : List Nat → Prop) => Ok g ∧ Q (rootsN g)) (fD K (dT dN))) := ok__law_roots B c_law_from F__law_roots (PySem.W.mg_of X G a__law_roots) b__law_roots
  have c_law_is_whole : Gf P w K mg base 1 "_law_is_whole" (SpN (fun g : Wv => [(fW (YY K C_Web C_Pool P w)) g]) (fun (g : Wv) (Q : Bool → Prop) => Q (intW g)) (fD K dB)) := ok__law_is_whole B okY F__law_is_whole (PySem.W.mg_of X G a__law_is_whole) b__law_is_whole
  have c_law_is_group : Gf P w K mg base 2 "_law_is_group" (SpN (fun g : Wv × Nat => [(fW (YY K C_Web C_Pool P w)) g.1, (fD K dN) g.2]) (fun (g : Wv × Nat) (Q : Bool → Prop) => (flatW g.1 ∧ shapeW g.1 ∧ g.2 ≤ 8) ∧ Q (grpW g.2 g.1)) (fD K dB)) := ok__law_is_group B c_law_is_whole okY F__law_is_group (PySem.W.mg_of X G a__law_is_group) b__law_is_group
  have c_law_groups_right : Gf P w K mg base 8 "_law_groups_right" (SpN (fun g : Unit × (List Rows) => [(fCk 3) g.1, (poolP C_Pool C_Web K P w) g.2]) (fun (g : Unit × List Rows) (Q : Bool → Prop) => POk g.2 ∧ Q true) (fD K dB)) := ok__law_groups_right B c_law_few_of c_pool_len c_law_scoop c_law_any_of_3 c_pool_is_group c_law_is_group F__law_groups_right (PySem.W.mg_of X G a__law_groups_right) b__law_groups_right
  have c_law_is_pool : Gf P w K mg base 3 "_law_is_pool" (SpN (fun g : Wv => [(fW (YY K C_Web C_Pool P w)) g]) (fun (g : Wv) (Q : Bool → Prop) => (badV g ∧ Q false) ∨ ∃ rss : List Rows, g = .tp (rss.map .web) ∧ (rss.length ≤ 16 ∧ ∀ rs ∈ rss, Ok rs) ∧ Q (poB rss)) (fD K dB)) := ok__law_is_pool B m_Web okY c_web_heard F__law_is_pool (PySem.W.mg_of X G a__law_is_pool) b__law_is_pool
  have c_law_near : Gf P w K mg base 12 "_law_near" (SpN (fun g : Unit × (List Rows) => [(fCk 3) g.1, (fTp K (webP C_Web K)) g.2]) (fun (g : Unit × List Rows) (Q : Wv → Prop) => POk g.2 ∧ ∀ w, (badV w ∨ ∃ rss : List Rows, w = .tp (rss.map .web) ∧ (rss.length ≤ 16 ∧ ∀ rs ∈ rss, Ok rs)) → Q w) (fW (YY K C_Web C_Pool P w))) := ok__law_near B c_law_scoop c_web_size c_Web c_law_rows c_law_any_of c_web_heard c_law_any_of_3 c_Pool F__law_near (PySem.W.mg_of X G a__law_near) b__law_near
  have c_law_made : Gf P w K mg base 12 "_law_made" (SpN (fun g : Wv => [(fW (YY K C_Web C_Pool P w)) g]) (fun (g : Wv) (Q : Option (List Rows) → Prop) => (notP g ∧ Q none) ∨ ∃ rss : List Rows, g = .tp (rss.map .web) ∧ POk rss ∧ Q (some rss)) (fOpt (poolP C_Pool C_Web K P w))) := ok__law_made B x_InvalidPool c_Pool c_PoolX F__law_made (PySem.W.mg_of X G a__law_made) b__law_made
  have c_law_told : Gf P w K mg base 12 "_law_told" (SpN (fun g : (List Rows) × (List (List (List Nat))) => [(poolP C_Pool C_Web K P w) g.1, (fLn (fD K (dT (dT dN)))) g.2]) (fun (g : List Rows × List Rows) (Q : Bool → Prop) => (POk g.1 ∧ g.2 = g.1) ∧ Q true) (fD K dB)) := ok__law_told B c_Web c_law_roots c_pool_always c_pool_roots c_pool_size c_pool_webs nf_web c_web_eq0 Bs c_pool_str c_pool_len c_pool_index_of c_pool_iter c_web_heard c_pool_in c_pool_get c_Pool nf_pool c_pool_eq N_pool c_pool_eqW F__law_told (PySem.W.mg_of X G a__law_told) b__law_told
  exact law_fn (ok_law B g_MAX_WEBS g_MAX_HOUSES c_law_cask c_law_pool_rows c_law_scoop c_law_pool_of c_law_groups_right c_law_told c_law_near c_pool_webs c_law_is_pool c_law_made c_web_heard F_law)
end Wb

open PySem PySem.W PyProof.Rows
set_option maxRecDepth 100000 in
set_option maxHeartbeats 0 in
theorem PySem.Challenge.cw_rootshared_k05_pools_judged_and_told_holds : PySem.Challenge.rw_rootshared_k05_pools_judged_and_told.Holds := by
  refine hd_top ?_
  k_fill
  letI TZ : Rs.Tabz := Tw.Tz0
  refine Tw.walk (l := PySem.Challenge.rw_rootshared_k05_pools_judged_and_told) (k := 14) ⟨rfl, by decide, by decide⟩ rfl rfl (fun _ z => z) (fun w h Y => PySem.W.kIn_of Y) ?F
  case F =>
    intro w mg fa h KX G hmg
    refine' Wb.all_mk (TZ := Tw.Tz0) KX G hmg ?t_is_integer ?t_is_between ?t_require_number ?t_is_rising ?t_is_heard_row ?t_is_heard ?t_houses_from ?t_heard_by ?t_require_house ?t_are_webs ?t_require_index ?t__law_cask ?t__law_scoop ?t__law_any_of ?t__law_few_of ?t__law_rows ?t__law_pool_of ?t__law_pool_rows ?t_is_group_of ?t__law_from ?t__law_roots ?t__law_is_whole ?t__law_is_group ?t__law_groups_right ?t__law_is_pool ?t__law_near ?t__law_made ?t__law_told ?t_law ?m_WebU_initU ?m_WebU_eqU ?m_Web_hears ?m_PoolU_initU ?m_PoolU_iterU ?m_PoolU_lenU ?m_PoolU_getitemU ?m_Pool_is_group ?m_PoolU_eqU ?m_PoolU_containsU ?m_Pool_index_of ?m_PoolU_strU ?p_Web_heard ?p_Web_size ?p_Web_roots ?p_Pool_roots ?p_Pool_always ?p_Pool_size ?p_Pool_webs ?sl_Web_own_heard ?sl_Web_own_size ?sl_Web_own_reached ?sl_Web_own_roots ?sl_Web_own_pairs ?sl_Pool_own_webs ?sl_Pool_own_size ?sl_Pool_own_places ?z_len ?z_range ?z_list ?z_tuple ?z_set ?z_sorted ?z_all ?z_isinstance ?z_int ?z_bool ?z_enumerate ?z_zip ?z_min ?z_max ?z_abs ?z_str ?z_repr ?z_dict ?z_iter ?gi_MAX_SIZE ?gi_GREATEST ?gi_MAX_WEBS ?gi_MAX_HOUSES ?a_Web ?a_Pool ?a_InvalidPool ?xb_InvalidPool ?nodb ?wxb ?pg_Web ?ic_Web ?po_Web ?sa_Web ?ca_Web ?cm_Web ?nf_Web ?ne_Web ?mk_Web ?kc_Web ?pg_Pool ?ic_Pool ?po_Pool ?sa_Pool ?ca_Pool ?cm_Pool ?nf_Pool ?ne_Pool ?mk_Pool ?kc_Pool ?cn ?ct
    (case a_Web => k_is)
    (case a_Pool => k_is)
    (case a_InvalidPool => k_is)
    (case t_is_integer => (refine' Tw.top_fn ?a ?l ?c ?k ?b; (case a => k_is); (case l => k_is); (case c => k_is); (case k => k_is); (case b => exact fun _ _ _ _ _ _ us hl => match us, hl with | [_], _ => rfl)))
    (case t_is_between => (refine' Tw.top_fn ?a ?l ?c ?k ?b; (case a => k_is); (case l => k_is); (case c => k_is); (case k => k_is); (case b => exact fun _ _ _ _ _ _ us hl => match us, hl with | [_, _, _], _ => rfl)))
    (case t_require_number => (refine' Tw.top_fn ?a ?l ?c ?k ?b; (case a => k_is); (case l => k_is); (case c => k_is); (case k => k_is); (case b => exact fun _ _ _ _ _ _ us hl => match us, hl with | [_, _, _], _ => rfl)))
    (case t_is_rising => (refine' Tw.top_fn ?a ?l ?c ?k ?b; (case a => k_is); (case l => k_is); (case c => k_is); (case k => k_is); (case b => exact fun _ _ _ _ _ _ us hl => match us, hl with | [_, _, _], _ => rfl)))
    (case t_is_heard_row => (refine' Tw.top_fn ?a ?l ?c ?k ?b; (case a => k_is); (case l => k_is); (case c => k_is); (case k => k_is); (case b => exact fun _ _ _ _ _ _ us hl => match us, hl with | [_, _, _], _ => rfl)))
    (case t_is_heard => (refine' Tw.top_fn ?a ?l ?c ?k ?b; (case a => k_is); (case l => k_is); (case c => k_is); (case k => k_is); (case b => exact fun _ _ _ _ _ _ us hl => match us, hl with | [_], _ => rfl)))
    (case t_houses_from => (refine' Tw.top_fn ?a ?l ?c ?k ?b; (case a => k_is); (case l => k_is); (case c => k_is); (case k => k_is); (case b => exact fun _ _ _ _ _ _ us hl => match us, hl with | [_, _], _ => rfl)))
    (case t_heard_by => (refine' Tw.top_fn ?a ?l ?c ?k ?b; (case a => k_is); (case l => k_is); (case c => k_is); (case k => k_is); (case b => exact fun _ _ _ _ _ _ us hl => match us, hl with | [_, _], _ => rfl)))
    (case t_require_house => (refine' Tw.top_fn ?a ?l ?c ?k ?b; (case a => k_is); (case l => k_is); (case c => k_is); (case k => k_is); (case b => exact fun _ _ _ _ _ _ us hl => match us, hl with | [_, _], _ => rfl)))
    (case t_are_webs => (refine' Tw.top_fn ?a ?l ?c ?k ?b; (case a => k_is); (case l => k_is); (case c => k_is); (case k => k_is); (case b => exact fun _ _ _ _ _ _ us hl => match us, hl with | [_], _ => rfl)))
    (case t_require_index => (refine' Tw.top_fn ?a ?l ?c ?k ?b; (case a => k_is); (case l => k_is); (case c => k_is); (case k => k_is); (case b => exact fun _ _ _ _ _ _ us hl => match us, hl with | [_, _], _ => rfl)))
    (case t__law_cask => (refine' Tw.top_fn ?a ?l ?c ?k ?b; (case a => k_is); (case l => k_is); (case c => k_is); (case k => k_is); (case b => exact fun _ _ _ _ _ _ us hl => match us, hl with | [_, _], _ => rfl)))
    (case t__law_scoop => (refine' Tw.top_fn ?a ?l ?c ?k ?b; (case a => k_is); (case l => k_is); (case c => k_is); (case k => k_is); (case b => exact fun _ _ _ _ _ _ us hl => match us, hl with | [_, _], _ => rfl)))
    (case t__law_any_of => (refine' Tw.top_fn ?a ?l ?c ?k ?b; (case a => k_is); (case l => k_is); (case c => k_is); (case k => k_is); (case b => exact fun _ _ _ _ _ _ us hl => match us, hl with | [_, _], _ => rfl)))
    (case t__law_few_of => (refine' Tw.top_fn ?a ?l ?c ?k ?b; (case a => k_is); (case l => k_is); (case c => k_is); (case k => k_is); (case b => exact fun _ _ _ _ _ _ us hl => match us, hl with | [_, _, _], _ => rfl)))
    (case t__law_rows => (refine' Tw.top_fn ?a ?l ?c ?k ?b; (case a => k_is); (case l => k_is); (case c => k_is); (case k => k_is); (case b => exact fun _ _ _ _ _ _ us hl => match us, hl with | [_, _], _ => rfl)))
    (case t__law_pool_of => (refine' Tw.top_fn ?a ?l ?c ?k ?b; (case a => k_is); (case l => k_is); (case c => k_is); (case k => k_is); (case b => exact fun _ _ _ _ _ _ us hl => match us, hl with | [_], _ => rfl)))
    (case t__law_pool_rows => (refine' Tw.top_fn ?a ?l ?c ?k ?b; (case a => k_is); (case l => k_is); (case c => k_is); (case k => k_is); (case b => exact fun _ _ _ _ _ _ us hl => match us, hl with | [_, _, _], _ => rfl)))
    (case t_is_group_of => (refine' Tw.top_fn ?a ?l ?c ?k ?b; (case a => k_is); (case l => k_is); (case c => k_is); (case k => k_is); (case b => exact fun _ _ _ _ _ _ us hl => match us, hl with | [_, _], _ => rfl)))
    (case t__law_from => (refine' Tw.top_fn ?a ?l ?c ?k ?b; (case a => k_is); (case l => k_is); (case c => k_is); (case k => k_is); (case b => exact fun _ _ _ _ _ _ us hl => match us, hl with | [_, _], _ => rfl)))
    (case t__law_roots => (refine' Tw.top_fn ?a ?l ?c ?k ?b; (case a => k_is); (case l => k_is); (case c => k_is); (case k => k_is); (case b => exact fun _ _ _ _ _ _ us hl => match us, hl with | [_], _ => rfl)))
    (case t__law_is_whole => (refine' Tw.top_fn ?a ?l ?c ?k ?b; (case a => k_is); (case l => k_is); (case c => k_is); (case k => k_is); (case b => exact fun _ _ _ _ _ _ us hl => match us, hl with | [_], _ => rfl)))
    (case t__law_is_group => (refine' Tw.top_fn ?a ?l ?c ?k ?b; (case a => k_is); (case l => k_is); (case c => k_is); (case k => k_is); (case b => exact fun _ _ _ _ _ _ us hl => match us, hl with | [_, _], _ => rfl)))
    (case t__law_groups_right => (refine' Tw.top_fn ?a ?l ?c ?k ?b; (case a => k_is); (case l => k_is); (case c => k_is); (case k => k_is); (case b => exact fun _ _ _ _ _ _ us hl => match us, hl with | [_, _], _ => rfl)))
    (case t__law_is_pool => (refine' Tw.top_fn ?a ?l ?c ?k ?b; (case a => k_is); (case l => k_is); (case c => k_is); (case k => k_is); (case b => exact fun _ _ _ _ _ _ us hl => match us, hl with | [_], _ => rfl)))
    (case t__law_near => (refine' Tw.top_fn ?a ?l ?c ?k ?b; (case a => k_is); (case l => k_is); (case c => k_is); (case k => k_is); (case b => exact fun _ _ _ _ _ _ us hl => match us, hl with | [_, _], _ => rfl)))
    (case t__law_made => (refine' Tw.top_fn ?a ?l ?c ?k ?b; (case a => k_is); (case l => k_is); (case c => k_is); (case k => k_is); (case b => exact fun _ _ _ _ _ _ us hl => match us, hl with | [_], _ => rfl)))
    (case t__law_told => (refine' Tw.top_fn ?a ?l ?c ?k ?b; (case a => k_is); (case l => k_is); (case c => k_is); (case k => k_is); (case b => exact fun _ _ _ _ _ _ us hl => match us, hl with | [_, _], _ => rfl)))
    (case t_law => (refine' Tw.top_fn ?a ?l ?c ?k ?b; (case a => k_is); (case l => k_is); (case c => k_is); (case k => k_is); (case b => exact fun _ _ _ _ _ _ us hl => match us, hl with | [_], _ => rfl)))
    (case m_WebU_initU => (refine' Tw.met_fn ?a ?i ?l ?c ?k ?b; (case a => k_is); (case i => k_is); (case l => k_is); (case c => k_is); (case k => k_is); (case b => exact fun _ _ _ _ _ _ us hl => match us, hl with | [_, _], _ => rfl)))
    (case m_WebU_eqU => (refine' Tw.met_fn ?a ?i ?l ?c ?k ?b; (case a => k_is); (case i => k_is); (case l => k_is); (case c => k_is); (case k => k_is); (case b => exact fun _ _ _ _ _ _ us hl => match us, hl with | [_, _], _ => rfl)))
    (case m_Web_hears => (refine' Tw.met_fn ?a ?i ?l ?c ?k ?b; (case a => k_is); (case i => k_is); (case l => k_is); (case c => k_is); (case k => k_is); (case b => exact fun _ _ _ _ _ _ us hl => match us, hl with | [_, _], _ => rfl)))
    (case m_PoolU_initU => (refine' Tw.met_fn ?a ?i ?l ?c ?k ?b; (case a => k_is); (case i => k_is); (case l => k_is); (case c => k_is); (case k => k_is); (case b => exact fun _ _ _ _ _ _ us hl => match us, hl with | [_, _], _ => rfl)))
    (case m_PoolU_iterU => (refine' Tw.met_fn ?a ?i ?l ?c ?k ?b; (case a => k_is); (case i => k_is); (case l => k_is); (case c => k_is); (case k => k_is); (case b => exact fun _ _ _ _ _ _ us hl => match us, hl with | [_], _ => rfl)))
    (case m_PoolU_lenU => (refine' Tw.met_fn ?a ?i ?l ?c ?k ?b; (case a => k_is); (case i => k_is); (case l => k_is); (case c => k_is); (case k => k_is); (case b => exact fun _ _ _ _ _ _ us hl => match us, hl with | [_], _ => rfl)))
    (case m_PoolU_getitemU => (refine' Tw.met_fn ?a ?i ?l ?c ?k ?b; (case a => k_is); (case i => k_is); (case l => k_is); (case c => k_is); (case k => k_is); (case b => exact fun _ _ _ _ _ _ us hl => match us, hl with | [_, _], _ => rfl)))
    (case m_Pool_is_group => (refine' Tw.met_fn ?a ?i ?l ?c ?k ?b; (case a => k_is); (case i => k_is); (case l => k_is); (case c => k_is); (case k => k_is); (case b => exact fun _ _ _ _ _ _ us hl => match us, hl with | [_, _], _ => rfl)))
    (case m_PoolU_eqU => (refine' Tw.met_fn ?a ?i ?l ?c ?k ?b; (case a => k_is); (case i => k_is); (case l => k_is); (case c => k_is); (case k => k_is); (case b => exact fun _ _ _ _ _ _ us hl => match us, hl with | [_, _], _ => rfl)))
    (case m_PoolU_containsU => (refine' Tw.met_fn ?a ?i ?l ?c ?k ?b; (case a => k_is); (case i => k_is); (case l => k_is); (case c => k_is); (case k => k_is); (case b => exact fun _ _ _ _ _ _ us hl => match us, hl with | [_, _], _ => rfl)))
    (case m_Pool_index_of => (refine' Tw.met_fn ?a ?i ?l ?c ?k ?b; (case a => k_is); (case i => k_is); (case l => k_is); (case c => k_is); (case k => k_is); (case b => exact fun _ _ _ _ _ _ us hl => match us, hl with | [_, _], _ => rfl)))
    (case m_PoolU_strU => (refine' Tw.met_fn ?a ?i ?l ?c ?k ?b; (case a => k_is); (case i => k_is); (case l => k_is); (case c => k_is); (case k => k_is); (case b => exact fun _ _ _ _ _ _ us hl => match us, hl with | [_], _ => rfl)))
    (case p_Web_heard => (refine' Tw.prp_fn ?a ?s ?t ?r ?l ?c ?k ?b; (case a => k_is); (case s => k_is); (case t => k_is); (case r => k_is); (case l => k_is); (case c => k_is); (case k => k_is); (case b => exact fun _ _ _ _ _ _ us hl => match us, hl with | [_], _ => rfl)))
    (case p_Web_size => (refine' Tw.prp_fn ?a ?s ?t ?r ?l ?c ?k ?b; (case a => k_is); (case s => k_is); (case t => k_is); (case r => k_is); (case l => k_is); (case c => k_is); (case k => k_is); (case b => exact fun _ _ _ _ _ _ us hl => match us, hl with | [_], _ => rfl)))
    (case p_Web_roots => (refine' Tw.prp_fn ?a ?s ?t ?r ?l ?c ?k ?b; (case a => k_is); (case s => k_is); (case t => k_is); (case r => k_is); (case l => k_is); (case c => k_is); (case k => k_is); (case b => exact fun _ _ _ _ _ _ us hl => match us, hl with | [_], _ => rfl)))
    (case p_Pool_roots => (refine' Tw.prp_fn ?a ?s ?t ?r ?l ?c ?k ?b; (case a => k_is); (case s => k_is); (case t => k_is); (case r => k_is); (case l => k_is); (case c => k_is); (case k => k_is); (case b => exact fun _ _ _ _ _ _ us hl => match us, hl with | [_], _ => rfl)))
    (case p_Pool_always => (refine' Tw.prp_fn ?a ?s ?t ?r ?l ?c ?k ?b; (case a => k_is); (case s => k_is); (case t => k_is); (case r => k_is); (case l => k_is); (case c => k_is); (case k => k_is); (case b => exact fun _ _ _ _ _ _ us hl => match us, hl with | [_], _ => rfl)))
    (case p_Pool_size => (refine' Tw.prp_fn ?a ?s ?t ?r ?l ?c ?k ?b; (case a => k_is); (case s => k_is); (case t => k_is); (case r => k_is); (case l => k_is); (case c => k_is); (case k => k_is); (case b => exact fun _ _ _ _ _ _ us hl => match us, hl with | [_], _ => rfl)))
    (case p_Pool_webs => (refine' Tw.prp_fn ?a ?s ?t ?r ?l ?c ?k ?b; (case a => k_is); (case s => k_is); (case t => k_is); (case r => k_is); (case l => k_is); (case c => k_is); (case k => k_is); (case b => exact fun _ _ _ _ _ _ us hl => match us, hl with | [_], _ => rfl)))
    (case sl_Web_own_heard => (refine' Tw.slot_at ?a ?s ?t ?y ?j ?h; (case a => k_is); (case s => k_is); (case t => k_is); (case y => k_is); (case j => k_is); (case h => decide)))
    (case sl_Web_own_size => (refine' Tw.slot_at ?a ?s ?t ?y ?j ?h; (case a => k_is); (case s => k_is); (case t => k_is); (case y => k_is); (case j => k_is); (case h => decide)))
    (case sl_Web_own_reached => (refine' Tw.slot_at ?a ?s ?t ?y ?j ?h; (case a => k_is); (case s => k_is); (case t => k_is); (case y => k_is); (case j => k_is); (case h => decide)))
    (case sl_Web_own_roots => (refine' Tw.slot_at ?a ?s ?t ?y ?j ?h; (case a => k_is); (case s => k_is); (case t => k_is); (case y => k_is); (case j => k_is); (case h => decide)))
    (case sl_Web_own_pairs => (refine' Tw.slot_at ?a ?s ?t ?y ?j ?h; (case a => k_is); (case s => k_is); (case t => k_is); (case y => k_is); (case j => k_is); (case h => decide)))
    (case sl_Pool_own_webs => (refine' Tw.slot_at ?a ?s ?t ?y ?j ?h; (case a => k_is); (case s => k_is); (case t => k_is); (case y => k_is); (case j => k_is); (case h => decide)))
    (case sl_Pool_own_size => (refine' Tw.slot_at ?a ?s ?t ?y ?j ?h; (case a => k_is); (case s => k_is); (case t => k_is); (case y => k_is); (case j => k_is); (case h => decide)))
    (case sl_Pool_own_places => (refine' Tw.slot_at ?a ?s ?t ?y ?j ?h; (case a => k_is); (case s => k_is); (case t => k_is); (case y => k_is); (case j => k_is); (case h => decide)))
    (case z_len => k_is)
    (case z_range => k_is)
    (case z_list => k_is)
    (case z_tuple => k_is)
    (case z_set => k_is)
    (case z_sorted => k_is)
    (case z_all => k_is)
    (case z_isinstance => k_is)
    (case z_int => k_is)
    (case z_bool => k_is)
    (case z_enumerate => k_is)
    (case z_zip => k_is)
    (case z_min => k_is)
    (case z_max => k_is)
    (case z_abs => k_is)
    (case z_str => k_is)
    (case z_repr => k_is)
    (case z_dict => k_is)
    (case z_iter => k_is)
    (case gi_MAX_SIZE => k_is)
    (case gi_GREATEST => k_is)
    (case gi_MAX_WEBS => k_is)
    (case gi_MAX_HOUSES => k_is)
    (case xb_InvalidPool => kernel_rfl)
    (case nodb => kernel_rfl)
    (case wxb => kernel_rfl)
    (case pg_Web => k_is)
    (case ic_Web => k_is)
    (case po_Web => k_is)
    (case sa_Web => k_is)
    (case ca_Web => k_is)
    (case cm_Web => k_is)
    (case nf_Web => k_is)
    (case ne_Web => k_is)
    (case mk_Web => k_is)
    (case kc_Web => k_is)
    (case pg_Pool => k_is)
    (case ic_Pool => k_is)
    (case po_Pool => k_is)
    (case sa_Pool => k_is)
    (case ca_Pool => k_is)
    (case cm_Pool => k_is)
    (case nf_Pool => k_is)
    (case ne_Pool => k_is)
    (case mk_Pool => k_is)
    (case kc_Pool => k_is)
    (case cn => k_is)
    (case ct => k_is)

