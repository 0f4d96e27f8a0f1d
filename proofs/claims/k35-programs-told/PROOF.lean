import PyProof.Rows.All
import Wide.All
import OpenK.AllK
import Wide.FinOn
import KE.OsRunLaw
import PyProof.EqAt
import PyProof.EqKinds
import PyProof.TupleCall
import HandS.Base
import HandS.Call
import HandS.List
import HandS.Comp
import HandS.Dict
import HandS.Iter
import HandS.Walk
import HandS.Words
import HandS.Ends
import HandS.Lambda
import PyProof.Draws
import KE.GoesMore
import HandS.More
import HandS.Set
import HandS.Strs
import HandS.SetFor
import HandS.IsInst
import HandS.Slots
import HandS.SlotsOwn
import HandS.Star
import HandS.Conv
import HandS.Deep
import HandS.TupAny
import HandS.TupMul
import HandS.WordsDict
import HandS.WordsList
import HandS.Wide
import HandS.FStr
import HandS.Style
import PyProof.Lay0
import PyProof.EqLayable
import HandS.DictTup
import KE.SortData
import HandS.Text
import OpenK.KOps
import OpenK.KMeth
import KE.KCallOwn
import HandS.Zip
import HandS.SortKw
import KE.KDictZip
import PyProof.TupleOfSeq
import HandS.TupSets
import KE.KeyNested
import PyProof.DictRoadsH
import KE.KDictKeyed
import HandS.DictComp
import HandS.IterVal
import KE.KOwnIter
import PyProof.ReprRoads
import HandS.Small
import HandS.OwnEq
import PyProof.Rows.ReprShort
import PyProof.ReprBulk
import KE.KStateDown
import HandS.AnyAll
import HandS.EndTab
import PyProof.CallFns
import KE.KExcSuper
import HandS.ExcInit
import HandS.ExcField
import HandS.TryMany
import HandS.ExcOwn
import HandS.TryOnly
import HandS.Sort
import PyProof.NeKinds
import HandS.ExcValue
import HandS.ExcIs
import KE.KExcIs
import HandS.TupLen
import KE.KDictWalk
import KE.SortKeyed
import HandS.Property
import PyProof.Conv_bool
import OpenK.KMake
import HandS.Defaults
import KE.KDictDisplayH
import KE.KDictPairs
import KE.KDictItemsList
import KE.DataMinMax
import KE.KDictSum
import KE.KDictCopyH
import PyProof.SetKind
import PyProof.SetNew
import PyProof.SetRoads
import KE.KDictOf
import KE.KEqDict
import HandS.Finally
import PySem.Challenge.RW_rootshared_k35_programs_told
set_option Elab.async false
set_option linter.all false
set_option maxRecDepth 100000
set_option maxHeartbeats 4000000
section
open PySem PySem.W PyProof.Rows
theorem Wb.sp3 {s a b c : Type} {o : Option s} {f : s → a} {g : s → b} {h : s → c} {x : a} {y : b} {z : c} (h1 : o.map f = some x) (h2 : o.map g = some y) (h3 : o.map h = some z) : o.map (fun s => (f s, g s, h s)) = some (x, y, z) := by
  cases o with
  | none => cases h1
  | some s => cases h1; cases h2; cases h3; rfl
theorem Wb.spP {s a b : Type} {o : Option s} {F : s → a × b} {x : a} {y : b} (h1 : o.map (fun s => (F s).1) = some x) (h2 : o.map (fun s => (F s).2) = some y) : o.map F = some (x, y) := by
  cases o with
  | none => cases h1
  | some s => exact congrArg some (Prod.ext (Option.some.inj h1) (Option.some.inj h2))
theorem Wb.spL {s a : Type} {o : Option s} {F : s → List a} {x : List a} (n : Nat) (h1 : o.map (fun s => (F s).take n) = some (x.take n)) (h2 : o.map (fun s => (F s).drop n) = some (x.drop n)) : o.map F = some x := by
  cases o with
  | none => cases h1
  | some s =>
    have e1 : (F s).take n = x.take n := Option.some.inj h1
    have e2 : (F s).drop n = x.drop n := Option.some.inj h2
    exact congrArg some (by rw [← List.take_append_drop n (F s), e1, e2, List.take_append_drop])
local macro_rules | `(tactic| kernel_rfl) => `(tactic| ((with_reducible refine Wb.sp3 ?_ ?_ ?_); rotate_left; (refine Wb.spP ?_ ?_); rotate_left; (refine Wb.spP ?_ ?_); rotate_left; (refine Wb.spP ?_ ?_); rotate_left; (refine Wb.spP ?_ ?_); rotate_left; (refine Wb.spP ?_ ?_); rotate_left; (refine Wb.spP ?_ ?_); rotate_left; (refine Wb.spP ?_ ?_); rotate_left; (refine Wb.spP ?_ ?_); rotate_left; rotate_right; rotate_right; rotate_right; (sym => tactic => kernel_rfl); (refine Wb.spL 1 ?_ ?_); (sym => tactic => kernel_rfl); (refine Wb.spL 1 ?_ ?_); (sym => tactic => kernel_rfl); (sym => tactic => kernel_rfl); (sym => tactic => kernel_rfl); (refine Wb.spL 2 ?_ ?_); (sym => tactic => kernel_rfl); (sym => tactic => kernel_rfl); (refine Wb.spL 300 ?_ ?_); (sym => tactic => kernel_rfl); (sym => tactic => kernel_rfl); (sym => tactic => kernel_rfl); (sym => tactic => kernel_rfl); (sym => tactic => kernel_rfl); (sym => tactic => kernel_rfl); (sym => tactic => kernel_rfl); (refine Wb.spP ?_ ?_); (sym => tactic => kernel_rfl); (sym => tactic => kernel_rfl)))
local macro_rules | `(tactic| k_head) => `(tactic| k_headL)
set_option maxHeartbeats 0 in
open_top hd_top for PySem.Challenge.rw_rootshared_k35_programs_told
end

/-! Rs0: runs of readings over a part that stays (F) and cells that are one's own (L). -/
namespace Rs
open PySem L2

abbrev Cells := List (Addr × HO)
/-- tables of code objects that may grow -/
class Tabz where
  ts : Addr → Prop
  /-- the name of the code objects that it tells, where one cares for it -/
  nm : Addr → Option Str
/-- the object at c is a code object of the name q -/
abbrev CodeT (c : Addr) (q : Str) : HO := .ext fun h => ∃ (oc : Obj) (vs : Array Value) (t : Tok), h.get? c = some oc ∧ oc.data = .fields vs ∧ vs[1]? = some (.str q t)
theorem codeT_ne {c : Addr} {q : Str} {φ : Heap → Prop} (hφ : ∀ h, φ h → ∃ a o, h.get? a = some o ∧ ∀ vs, o.data ≠ .fields vs) : HO.ext φ ≠ CodeT c q := fun z => by
  have hz : φ = fun h => ∃ (oc : Obj) (vs : Array Value) (t : Tok), h.get? c = some oc ∧ oc.data = .fields vs ∧ vs[1]? = some (.str q t) := HO.ext.inj z
  let ob : Obj := { cls := .none, data := .fields #[.none, .str q 0] }
  have hg : ∀ b o, (Heap.mk (Array.replicate (c + 1) ob) {}).get? b = some o → o = ob := fun b o e => by
    have e2 : (Array.replicate (c + 1) ob)[b]? = some o := by
      unfold Heap.get? at e
      generalize (Array.replicate (c + 1) ob)[b]? = w at e ⊢
      split at e
      · cases e
      · exact e
    rw [Array.getElem?_replicate] at e2
    split at e2
    · exact (Option.some.inj e2).symm
    · cases e2
  have hc : (Heap.mk (Array.replicate (c + 1) ob) {}).get? c = some ob := by
    unfold Heap.get?
    simp only [Array.getElem?_replicate, Nat.lt_succ_self, if_true]
    rfl
  have h1 : φ (Heap.mk (Array.replicate (c + 1) ob) {}) := by
    rw [hz]
    exact ⟨ob, _, 0, hc, rfl, rfl⟩
  obtain ⟨a, o, e1, e2⟩ := hφ _ h1
  rw [hg a o e1] at e2
  exact e2 _ rfl
variable [Tabz]
def TabT (F H : Hp) : Prop := ∀ P, Tabz.ts P → ∃ ps : Array Value, H P = some (.tbl ps) ∧ TriplesOk ps.toList ∧ ∀ q, Tabz.nm P = some q → ∀ (pos : Pos) (cv : Value), codeAmong pos ps.toList = some cv → ∃ c, cv = .ref c ∧ F c = some (CodeT c q)
/-- F stands in H, and the cells L do, apart from F -/
structure At (F : Hp) (L : Cells) (H : Hp) : Prop where
  ex : Same F H
  on : ∀ p ∈ L, H p.1 = some p.2
  off : ∀ p ∈ L, F p.1 = none
  nd : (L.map (·.1)).Nodup
  nt : ∀ p ∈ L, ∀ xs, p.2 ≠ .tup xs
  nb : ∀ p ∈ L, ∀ ps, p.2 ≠ .tbl ps
  nc : ∀ p ∈ L, ∀ c q, p.2 ≠ CodeT c q
  tb : TabT F H
  ft : ∀ P, Tabz.ts P → F P = none

section
variable {F F' F1 H H' : Hp} {L L' N : Cells} {a p : Addr} {o u : HO}
theorem At.nil (h : Same F H) (tb : TabT F H) (ft : ∀ P, Tabz.ts P → F P = none) : At F [] H := ⟨h, fun _ q => (nomatch q), fun _ q => (nomatch q), List.nodup_nil, fun _ q => (nomatch q), fun _ q => (nomatch q), fun _ q => (nomatch q), tb, ft⟩
theorem At.notT (A : At F L H) {P : Addr} (h : Tabz.ts P) (h2 : H a = none ∨ ∃ u, H a = some u ∧ ∀ ps, u ≠ .tbl ps) : P ≠ a := fun z => by
  obtain ⟨ps, e, _⟩ := A.tb P h
  rw [z] at e
  rcases h2 with h2 | ⟨u, h2, h3⟩
  · rw [h2] at e; cases e
  · rw [h2] at e; cases e; exact h3 _ rfl
theorem TabT.upd (t : TabT F H) (h : ∀ P, Tabz.ts P → P ≠ a) : TabT F (upd H a o) := fun P hP => by
  obtain ⟨ps, e, q⟩ := t P hP
  exact ⟨ps, by rw [upd_ne (h P hP)]; exact e, q⟩
theorem TabT.up (t : TabT F H) (h : ∀ c q, F c = some (CodeT c q) → F' c = some (CodeT c q)) : TabT F' H := fun P hP => by
  obtain ⟨ps, e, q, r⟩ := t P hP
  exact ⟨ps, e, q, fun n hn pos cv hc => let ⟨c, e1, e2⟩ := r n hn pos cv hc; ⟨c, e1, h c n e2⟩⟩
theorem TabT.same (t : TabT F H) (h : Same F F') : TabT F' H := t.up fun c q e => h _ _ e
theorem At.free (A : At F L H) (h : H a = none) : F a = none := A.ex.free h
theorem At.sub (A : At F L H) (hs : ∀ p ∈ L', p ∈ L) (nd : (L'.map (·.1)).Nodup) : At F L' H :=
  ⟨A.ex, fun p q => A.on p (hs p q), fun p q => A.off p (hs p q), nd, fun p q => A.nt p (hs p q), fun p q => A.nb p (hs p q), fun p q => A.nc p (hs p q), A.tb, A.ft⟩
theorem At.tail {m : Addr × HO} (A : At F (m :: L) H) : At F L H :=
  A.sub (fun p q => List.mem_cons_of_mem _ q) (List.nodup_cons.mp (by have := A.nd; rwa [List.map_cons] at this)).2
theorem At.drop (A : At F (L ++ N) H) : At F N H :=
  A.sub (fun p q => List.mem_append_right _ q) (by have h := A.nd; rw [List.map_append] at h; exact (List.nodup_append.mp h).2.1)
theorem At.left (A : At F (L ++ N) H) : At F L H :=
  A.sub (fun p q => List.mem_append_left _ q) (by have h := A.nd; rw [List.map_append] at h; exact (List.nodup_append.mp h).1)
theorem At.perm (A : At F L H) (h : L.Perm L') : At F L' H :=
  ⟨A.ex, fun p q => A.on p (h.mem_iff.mpr q), fun p q => A.off p (h.mem_iff.mpr q), (h.map (·.1)).nodup_iff.mp A.nd, fun p q => A.nt p (h.mem_iff.mpr q), fun p q => A.nb p (h.mem_iff.mpr q), fun p q => A.nc p (h.mem_iff.mpr q), A.tb, A.ft⟩
theorem same_new (h : F a = none) : Same F (upd F a o) := fun b u e => by
  rw [upd_ne (ne_of_none e h)]; exact e
/-- a new thing that stays -/
theorem At.new (A : At F L H) (h : H a = none) : At (upd F a o) L (upd H a o) := by
  have ne : ∀ p ∈ L, p.1 ≠ a := fun p q z => by
    have := A.on p q
    rw [z, h] at this; cases this
  refine ⟨fun b u e => ?_, fun p q => by rw [upd_ne (ne p q)]; exact A.on p q, fun p q => by rw [upd_ne (ne p q)]; exact A.off p q, A.nd, A.nt, A.nb, A.nc, (A.tb.upd fun P hP => A.notT hP (.inl h)).same (same_new (A.free h)), fun P hP => by rw [upd_ne (A.notT hP (.inl h))]; exact A.ft P hP⟩
  by_cases hb : b = a
  · subst hb; rw [upd_same] at e ⊢; exact e
  · rw [upd_ne hb] at e ⊢; exact A.ex b u e
/-- a new cell -/
theorem At.cell (A : At F L H) (h : H a = none) (ho : ∀ xs, o ≠ .tup xs := by intro _ z; nomatch z) (hb : ∀ ps, o ≠ .tbl ps := by intro _ z; nomatch z) (hc : ∀ c q, o ≠ CodeT c q := by intro _ _ z; nomatch z) : At F ((a, o) :: L) (upd H a o) := by
  have ne : ∀ p ∈ L, p.1 ≠ a := fun p q z => by
    have := A.on p q
    rw [z, h] at this; cases this
  refine ⟨fun b u e => ?_, fun p q => ?_, fun p q => ?_, ?_, fun p q => (List.mem_cons.mp q).elim (fun z => z ▸ ho) (A.nt p), fun p q => (List.mem_cons.mp q).elim (fun z => z ▸ hb) (A.nb p), fun p q => (List.mem_cons.mp q).elim (fun z => z ▸ hc) (A.nc p), A.tb.upd fun P hP => A.notT hP (.inl h), A.ft⟩
  · rw [upd_ne (ne_of_none (A.ex b u e) h)]; exact A.ex b u e
  · rcases List.mem_cons.mp q with z | z
    · subst z; exact upd_same
    · rw [upd_ne (ne p z)]; exact A.on p z
  · rcases List.mem_cons.mp q with z | z
    · subst z; exact A.free h
    · exact A.off p z
  · rw [List.map_cons, List.nodup_cons]
    refine ⟨fun z => ?_, A.nd⟩
    obtain ⟨q, hq, e⟩ := List.mem_map.mp z
    exact ne q hq e
theorem At.ne (A : At F ((a, o) :: L) H) : ∀ p ∈ L, p.1 ≠ a := fun p q z => by
  have h := A.nd
  rw [List.map_cons, List.nodup_cons] at h
  exact h.1 (List.mem_map.mpr ⟨p, q, z⟩)
/-- a cell is written -/
theorem At.put (A : At F ((a, o) :: L) H) (ho : ∀ xs, u ≠ .tup xs := by intro _ z; nomatch z) (hb : ∀ ps, u ≠ .tbl ps := by intro _ z; nomatch z) (hc : ∀ c q, u ≠ CodeT c q := by intro _ _ z; nomatch z) : At F ((a, u) :: L) (upd H a u) := by
  refine ⟨fun b v e => ?_, fun p q => ?_, fun p q => ?_, A.nd, fun p q => (List.mem_cons.mp q).elim (fun z => z ▸ ho) fun z => A.nt p (List.mem_cons_of_mem _ z), fun p q => (List.mem_cons.mp q).elim (fun z => z ▸ hb) fun z => A.nb p (List.mem_cons_of_mem _ z), fun p q => (List.mem_cons.mp q).elim (fun z => z ▸ hc) fun z => A.nc p (List.mem_cons_of_mem _ z), A.tb.upd fun P hP => A.notT hP (.inr ⟨o, A.on _ List.mem_cons_self, A.nb _ List.mem_cons_self⟩), A.ft⟩
  · have hb : b ≠ a := fun z => by
      have := A.off _ List.mem_cons_self
      rw [z] at e; rw [show F a = none from this] at e; cases e
    rw [upd_ne hb]; exact A.ex b v e
  · rcases List.mem_cons.mp q with z | z
    · subst z; exact upd_same
    · rw [upd_ne (A.ne p z)]; exact A.on p (List.mem_cons_of_mem _ z)
  · rcases List.mem_cons.mp q with z | z
    · subst z; exact A.off (a, o) List.mem_cons_self
    · exact A.off p (List.mem_cons_of_mem _ z)
/-- a cell stays from now on -/
theorem At.keep (A : At F ((a, o) :: L) H) : At (upd F a o) L H := by
  refine ⟨fun b v e => ?_, fun p q => A.on p (List.mem_cons_of_mem _ q), fun p q => by rw [upd_ne (A.ne p q)]; exact A.off p (List.mem_cons_of_mem _ q), A.tail.nd, A.tail.nt, A.tail.nb, A.tail.nc, A.tb.same (same_new (A.off _ List.mem_cons_self)), fun P hP => by rw [upd_ne (A.notT hP (.inr ⟨o, A.on _ List.mem_cons_self, A.nb _ List.mem_cons_self⟩))]; exact A.ft P hP⟩
  by_cases hb : b = a
  · subst hb; rw [upd_same] at e; rw [← e]; exact A.on _ List.mem_cons_self
  · rw [upd_ne hb] at e; exact A.ex b v e
/-- a cell is written, and stays from now on -/
theorem At.swap (A : At F ((a, o) :: L) H) (hb : ∀ ps, u ≠ .tbl ps) : At (upd F a u) L (upd H a u) := by
  have A1 : At (upd F a (.lst [])) L (upd H a (.lst [])) := At.keep (At.put (u := .lst []) A)
  have nT : ∀ P, Tabz.ts P → P ≠ a := fun P hP => A.notT hP (.inr ⟨o, A.on _ List.mem_cons_self, A.nb _ List.mem_cons_self⟩)
  refine ⟨fun b v e => ?_, fun p q => by rw [upd_ne (A.ne p q)]; exact A.on p (List.mem_cons_of_mem _ q), fun p q => by rw [upd_ne (A.ne p q)]; exact A.off p (List.mem_cons_of_mem _ q), A.tail.nd, A.tail.nt, A.tail.nb, A.tail.nc, (A.tb.upd nT).same (same_new (A.off _ List.mem_cons_self)), fun P hP => by rw [upd_ne (nT P hP)]; exact A.ft P hP⟩
  by_cases hb : b = a
  · subst hb; rw [upd_same] at e ⊢; exact e
  · rw [upd_ne hb] at e ⊢; exact A.ex b v e
theorem At.off1 (A : At F ((a, o) :: L) H) : F a = none := A.off _ List.mem_cons_self
theorem At.on1 (A : At F ((a, o) :: L) H) : H a = some o := A.on _ List.mem_cons_self
end

/-! ### runs -/
/-- k runs from any heap with F (or more) and the cells L; it ends with the cells as they were, F grown, R of what it gives -/
def Run {α : Type} (k : Hp → (α → Hp → Prop) → Prop) (F : Hp) (L : Cells) (R : α → Hp → Prop) : Prop :=
  ∀ F1 N H, Same F F1 → At F1 (L ++ N) H → ∀ Q : α → Hp → Prop, (∀ v F2 H2, Same F1 F2 → At F2 (L ++ N) H2 → R v F2 → Q v H2) → k H Q
section
variable {α β : Type} {k : Hp → (α → Hp → Prop) → Prop} {F F1 : Hp} {L : Cells} {R R' : α → Hp → Prop}
theorem Run.up (h : Run k F L R) (e : Same F F1) : Run k F1 L R := fun F2 N H e2 A Q q => h F2 N H (e.trans e2) A Q q
theorem Run.weak (h : Run k F L R) (hr : ∀ v F2, Same F F2 → R v F2 → R' v F2) : Run k F L R' := fun F2 N H e2 A Q q =>
  h F2 N H e2 A Q fun v F3 H3 e3 A3 r => q v F3 H3 e3 A3 (hr v F3 (e2.trans e3) r)
theorem Run.cells {M : Cells} (h : Run k F [] R) : Run k F M R := fun F2 N H e2 A Q q => h F2 (M ++ N) H e2 A Q q
theorem run_ret {v : α} (h : ∀ F1, Same F F1 → R v F1) : Run (fun H Q => Q v H) F L R := fun F1 N H e A Q q => q v F1 H (Same.refl _) A (h F1 e)
theorem run_bind {k2 : α → Hp → (β → Hp → Prop) → Prop} {S : β → Hp → Prop} (h1 : Run k F L R) (h2 : ∀ v F1, Same F F1 → R v F1 → Run (k2 v) F1 L S) : Run (fun H Q => k H fun v H1 => k2 v H1 Q) F L S := fun F1 N H e A Q q =>
  h1 F1 N H e A _ fun v F2 H2 e2 A2 r => h2 v F2 (e.trans e2) r F2 N H2 (Same.refl _) A2 Q fun w F3 H3 e3 A3 s => q w F3 H3 (e2.trans e3) A3 s
theorem run_ex {γ : Type} {kk : γ → Hp → (α → Hp → Prop) → Prop} (w : γ) (h : Run (kk w) F L R) : Run (fun H Q => ∃ w, kk w H Q) F L R := fun F1 N H e A Q q => ⟨w, h F1 N H e A Q q⟩
theorem run_and {p : Hp → Prop} (hp : ∀ F1 N H, Same F F1 → At F1 (L ++ N) H → p H) (h : Run k F L R) : Run (fun H Q => p H ∧ k H Q) F L R := fun F1 N H e A Q q => ⟨hp F1 N H e A, h F1 N H e A Q q⟩
/-- a thing is laid, and stays -/
theorem run_new {o : Addr → HO} {S : V → Hp → Prop} (h : ∀ F1 p, Same F F1 → F1 p = none → S (.ref p) (upd F1 p (o p))) : Run (fun H Q => ∀ p, H p = none → Q (.ref p) (upd H p (o p))) F L S := fun F1 N H e A Q q p hp =>
  q _ (upd F1 p (o p)) _ (same_new (A.free hp)) (A.new hp) (h F1 p e (A.free hp))
end

abbrev VP := V → Hp → Prop
/-- what a value says goes on to be so -/
class Mono {α : Type} (R : α → Hp → Prop) : Prop where
  mono : ∀ v F F', Same F F' → R v F → R v F'
theorem Mono.go {α : Type} {R : α → Hp → Prop} [Mono R] {v : α} {F F' : Hp} (h : R v F) (e : Same F F') : R v F' := Mono.mono v F F' e h

/-! ### data -/
section
variable {K : PySem.W.Frag} {F F' : Hp}
theorem sqT_up {a : Addr} {xs : List V} (e : Same F F') (h : SqT K F a xs) : SqT K F' a xs := by
  rcases h with (h | ⟨o, h⟩) | h
  · exact .inl (.inl (e _ _ h))
  · exact .inl (.inr ⟨o, e _ _ h⟩)
  · exact .inr h
theorem sqL_up {a : Addr} {xs : List V} (e : Same F F') (h : SqL K F a xs) : SqL K F' a xs := e.seq h
mutual
theorem dp_up (e : Same F F') : ∀ {v : V} {d : PyData}, Dp K F v d → Dp K F' v d
  | _, _, .non => .non
  | _, _, .bl b => .bl b
  | _, _, .int i => .int i
  | _, _, .str x => .str x
  | _, _, .lst h t => .lst (sqL_up e h) (dpA_up e t)
  | _, _, .tup h t => .tup (sqT_up e h) (dpA_up e t)
theorem dpA_up (e : Same F F') : ∀ {vs : List V} {ds : List PyData}, DpAll K F vs ds → DpAll K F' vs ds
  | _, _, .nil => .nil
  | _, _, .cons h t => .cons (dp_up e h) (dpA_up e t)
end
end
/-- the value is the data d -/
def Dt (K : PySem.W.Frag) (d : PyData) : VP := fun v F => Dp K F v d
instance {K : PySem.W.Frag} {d : PyData} : Mono (Dt K d) := ⟨fun _ _ _ e h => dp_up e h⟩
/-- it is just this one -/
def Eqv {α : Type} (x : α) : α → Hp → Prop := fun v _ => v = x
instance {α : Type} {x : α} : Mono (Eqv x) := ⟨fun _ _ _ _ h => h⟩
/-- each of the values says its own -/
def Each : List VP → List V → Hp → Prop
  | [], [], _ => True
  | R :: Rs, v :: vs, F => R v F ∧ Each Rs vs F
  | _, _, _ => False
class MonoL (Rs : List VP) : Prop where
  mono : ∀ vs F F', Same F F' → Each Rs vs F → Each Rs vs F'
instance : MonoL [] := ⟨fun vs F F' e h => by cases vs <;> exact h⟩
instance {R : VP} {Rs : List VP} [Mono R] [MonoL Rs] : MonoL (R :: Rs) := ⟨fun vs F F' e h => by
  cases vs with
  | nil => exact h
  | cons v vs => exact ⟨Mono.mono v F F' e h.1, MonoL.mono vs F F' e h.2⟩⟩
instance {Rs : List VP} [MonoL Rs] : Mono (Each Rs) := ⟨fun vs F F' e h => MonoL.mono vs F F' e h⟩
theorem each_length : ∀ {Rs : List VP} {vs : List V} {F : Hp}, Each Rs vs F → vs.length = Rs.length
  | [], [], _, _ => rfl
  | _ :: Rs, _ :: vs, F, h => by rw [List.length_cons, List.length_cons, each_length (Rs := Rs) (vs := vs) h.2]
  | [], _ :: _, _, h => h.elim
  | _ :: _, [], _, h => h.elim
theorem each_get {ι : Type} {f : ι → VP} : ∀ {xs : List ι} {vs : List V} {F : Hp} {i : Nat} {v : V}, Each (xs.map f) vs F → vs[i]? = some v → ∃ x, xs[i]? = some x ∧ f x v F
  | [], [], _, _, _, _, e => by simp at e
  | x :: xs, v :: vs, F, 0, w, h, e => by
    have e' : v = w := by simpa using e
    subst e'
    exact ⟨x, rfl, h.1⟩
  | x :: xs, v :: vs, F, i + 1, w, h, e => by
    obtain ⟨y, h1, h2⟩ := each_get (xs := xs) (vs := vs) (i := i) h.2 (by simpa using e)
    exact ⟨y, by simpa using h1, h2⟩
  | [], _ :: _, _, _, _, h, _ => h.elim
  | _ :: _, [], _, _, _, h, _ => h.elim
theorem each_dt {K : PySem.W.Frag} {F : Hp} : ∀ {ds : List PyData} {vs : List V}, Each (ds.map (Dt K)) vs F ↔ DpAll K F vs ds
  | [], [] => ⟨fun _ => .nil, fun _ => trivial⟩
  | d :: ds, v :: vs => ⟨fun h => .cons h.1 (each_dt.mp h.2), fun h => by cases h with | cons a b => exact ⟨a, each_dt.mpr b⟩⟩
  | [], _ :: _ => ⟨fun h => h.elim, fun h => nomatch h⟩
  | _ :: _, [] => ⟨fun h => h.elim, fun h => nomatch h⟩
theorem each_app : ∀ {Rs Ss : List VP} {vs ws : List V} {F : Hp}, Each Rs vs F → Each Ss ws F → Each (Rs ++ Ss) (vs ++ ws) F
  | [], _, [], _, _, _, h => h
  | _ :: Rs, Ss, _ :: vs, ws, _, h, g => ⟨h.1, each_app (Rs := Rs) (vs := vs) h.2 g⟩
  | [], _, _ :: _, _, _, h, _ => h.elim
  | _ :: _, _, [], _, _, h, _ => h.elim
theorem each0 {vs : List V} {F : Hp} (h : Each [] vs F) : vs = [] := by
  cases vs with
  | nil => rfl
  | cons _ _ => exact h.elim
theorem each_cons {R : VP} {Rs : List VP} {vs : List V} {F : Hp} (h : Each (R :: Rs) vs F) : ∃ v ws, vs = v :: ws ∧ R v F ∧ Each Rs ws F := by
  cases vs with
  | nil => exact h.elim
  | cons v ws => exact ⟨v, ws, rfl, h.1, h.2⟩
theorem each1 {R : VP} {vs : List V} {F : Hp} (h : Each [R] vs F) : ∃ v, vs = [v] ∧ R v F := by
  obtain ⟨v, ws, rfl, h1, h2⟩ := each_cons h
  cases each0 h2
  exact ⟨v, rfl, h1⟩
theorem each2 {R S : VP} {vs : List V} {F : Hp} (h : Each [R, S] vs F) : ∃ v u, vs = [v, u] ∧ R v F ∧ S u F := by
  obtain ⟨v, ws, rfl, h1, h2⟩ := each_cons h
  obtain ⟨u, rfl, h3⟩ := each1 h2
  exact ⟨v, u, rfl, h1, h3⟩
theorem each3 {R S T : VP} {vs : List V} {F : Hp} (h : Each [R, S, T] vs F) : ∃ v u w, vs = [v, u, w] ∧ R v F ∧ S u F ∧ T w F := by
  obtain ⟨v, ws, rfl, h1, h2⟩ := each_cons h
  obtain ⟨u, w, rfl, h3, h4⟩ := each2 h2
  exact ⟨v, u, w, rfl, h1, h3, h4⟩
/-- a tuple, a list of such -/
def Tp (K : PySem.W.Frag) (Rs : List VP) : VP := fun v F => ∃ a vs, v = .ref a ∧ SqT K F a vs ∧ Each Rs vs F
def Ls (K : PySem.W.Frag) (Rs : List VP) : VP := fun v F => ∃ a vs, v = .ref a ∧ SqL K F a vs ∧ Each Rs vs F
/-- a list that stands there just so -/
def Ln (Rs : List VP) : VP := fun v F => ∃ a vs, v = .ref a ∧ F a = some (.lst vs) ∧ Each Rs vs F
instance {Rs : List VP} [MonoL Rs] : Mono (Ln Rs) := ⟨fun _ _ _ e ⟨a, vs, h, s, r⟩ => ⟨a, vs, h, e _ _ s, MonoL.mono _ _ _ e r⟩⟩
theorem Ln.ls {K : PySem.W.Frag} {Rs : List VP} {v : V} {F : Hp} (h : Ln Rs v F) : Ls K Rs v F :=
  let ⟨a, vs, h, s, r⟩ := h
  ⟨a, vs, h, .inl (.inl s), r⟩
instance {K : PySem.W.Frag} {Rs : List VP} [MonoL Rs] : Mono (Tp K Rs) := ⟨fun _ _ _ e ⟨a, vs, h, s, r⟩ => ⟨a, vs, h, sqT_up e s, MonoL.mono _ _ _ e r⟩⟩
instance {K : PySem.W.Frag} {Rs : List VP} [MonoL Rs] : Mono (Ls K Rs) := ⟨fun _ _ _ e ⟨a, vs, h, s, r⟩ => ⟨a, vs, h, sqL_up e s, MonoL.mono _ _ _ e r⟩⟩
theorem monoL_map {ι : Type} {f : ι → VP} (h : ∀ x, Mono (f x)) : ∀ xs : List ι, MonoL (xs.map f)
  | [] => inferInstanceAs (MonoL [])
  | x :: xs => by
    have := h x
    have := monoL_map h xs
    exact inferInstanceAs (MonoL (f x :: xs.map f))
instance {ι : Type} {f : ι → VP} [h : ∀ x, Mono (f x)] {xs : List ι} : MonoL (xs.map f) := monoL_map h xs
theorem tp_dt {K : PySem.W.Frag} {ds : List PyData} {v : V} {F : Hp} : Tp K (ds.map (Dt K)) v F ↔ Dt K (.tuple ds) v F :=
  ⟨fun ⟨a, vs, h, s, r⟩ => by subst h; exact .tup s (each_dt.mp r), fun h => by cases h with | tup s r => exact ⟨_, _, rfl, s, each_dt.mpr r⟩⟩
theorem ls_dt {K : PySem.W.Frag} {ds : List PyData} {v : V} {F : Hp} : Ls K (ds.map (Dt K)) v F ↔ Dt K (.list ds) v F :=
  ⟨fun ⟨a, vs, h, s, r⟩ => by subst h; exact .lst s (each_dt.mp r), fun h => by cases h with | lst s r => exact ⟨_, _, rfl, s, each_dt.mpr r⟩⟩
theorem dt_int {K : PySem.W.Frag} {i : Int} {v : V} {F : Hp} (h : Dt K (.int i) v F) : v = .int i := by cases h; rfl
theorem dt_bl {K : PySem.W.Frag} {b : Bool} {v : V} {F : Hp} (h : Dt K (.bool b) v F) : v = .bl b := by cases h; rfl
theorem ints_vs {K : PySem.W.Frag} {F : Hp} : ∀ {ns : List Int}, DpAll K F (ns.map V.int) (ns.map PyData.int)
  | [] => .nil
  | n :: ns => .cons (.int n) ints_vs
end Rs

/-! Rs1: expressions, statements, loops, comprehensions as runs. -/
namespace Rs
open PySem L2
variable [Rs.Tabz]
theorem len_ok {n : Nat} (h : n ≤ 100000) : n ≤ sizeLine := Nat.le_trans h (by decide)
theorem len_lt {n : Nat} (h : n < 100000) : n < sizeLine := Nat.lt_of_lt_of_le h (by decide)
section
variable {K : PySem.W.Frag} {σ : L2.St} {F F1 : Hp} {L : Cells} {R Ra Rb Rc : VP} {Rs Ss : List VP} {ta tb tc te : TE} {t tr : TA} {tt tu : TT} {i : Nat} {v : V} {r r' : R2}
theorem r_var [Mono R] (h : σ[i]? = some (some v)) (hr : R v F) : Run (tVar i σ) F L R := run_ex v (run_and (fun _ _ _ _ _ => h) (run_ret fun _ e => Mono.go hr e))
theorem r_varE (h : σ[i]? = some (some v)) : Run (tVar i σ) F L (Eqv v) := r_var h rfl
theorem r_c [Mono R] (hr : R v F) : Run (tC v σ) F L R := run_ret fun _ e => Mono.go hr e
theorem r_int {j : Int} : Run (tC (.int j) σ) F L (Dt K (.int j)) := r_c (R := Dt K (.int j)) (.int j)
theorem r_bl {b : Bool} : Run (tC (.bl b) σ) F L (Dt K (.bool b)) := r_c (R := Dt K (.bool b)) (.bl b)
theorem r_str {x : Str} : Run (tC (.str x) σ) F L (Dt K (.str x)) := r_c (R := Dt K (.str x)) (.str x)
theorem r_op [Mono Ra] (ha : Run (ta σ) F L Ra) (hb : Run (tb σ) F L Rb) (h : ∀ x y F1, Same F F1 → Ra x F1 → Rb y F1 → Run (r x y) F1 L R) : Run (tOp r ta tb σ) F L R :=
  run_bind (k := ta σ) ha fun x F1 e1 hx => run_bind (k := tb σ) (hb.up e1) fun y F2 e2 hy => h x y F2 (e1.trans e2) (Mono.go hx e2) hy
theorem r_un {q : V → Hp → VK → Prop} (ha : Run (ta σ) F L Ra) (h : ∀ x F1, Same F F1 → Ra x F1 → Run (q x) F1 L R) : Run (tUn q ta σ) F L R := run_bind (k := ta σ) ha h
theorem r_cb {q : List V → Hp → VK → Prop} {A : List V → Hp → Prop} (ha : Run (t σ) F L A) (h : ∀ xs F1, Same F F1 → A xs F1 → Run (q xs) F1 L R) : Run (tCB q t σ) F L R := run_bind (k := t σ) ha h
theorem r_nil : Run (tNil σ) F L (Each []) := run_ret fun _ _ => True.intro
theorem r_cons [Mono R] (h : Run (te σ) F L R) (hr : Run (tr σ) F L (Each Rs)) : Run (tCons te tr σ) F L (Each (R :: Rs)) := fun F1 N H e A Q q =>
  h F1 N H e A _ fun x F2 H2 e2 A2 hx => hr F2 N H2 (e.trans e2) A2 _ fun xs F3 H3 e3 A3 hxs => q (x :: xs) F3 H3 (e2.trans e3) A3 ⟨Mono.go hx e3, hxs⟩
theorem r_ls (h : Run (te σ) F L (Ln Rs)) : Run (te σ) F L (Ls K Rs) := h.weak fun _ _ _ => Ln.ls
/-! numbers, comparisons -/
theorem r_I0i {f : Int → Int → Int} {a b : Int} (ha : Run (ta σ) F L (Dt K (.int a))) (hb : Run (tb σ) F L (Dt K (.int b))) : Run (tOp (rI0 fun i j => .int (f i j)) ta tb σ) F L (Dt K (.int (f a b))) :=
  r_op ha hb fun x y F1 e1 hx hy => by
    cases hx; cases hy
    exact run_ex a (run_ex b (run_and (fun _ _ _ _ _ => rfl) (run_and (fun _ _ _ _ _ => rfl) (run_ret fun _ _ => .int _))))
theorem r_I0b {f : Int → Int → Bool} {a b : Int} (ha : Run (ta σ) F L (Dt K (.int a))) (hb : Run (tb σ) F L (Dt K (.int b))) : Run (tOp (rI0 fun i j => .bl (f i j)) ta tb σ) F L (Dt K (.bool (f a b))) :=
  r_op ha hb fun x y F1 e1 hx hy => by
    cases hx; cases hy
    exact run_ex a (run_ex b (run_and (fun _ _ _ _ _ => rfl) (run_and (fun _ _ _ _ _ => rfl) (run_ret fun _ _ => .bl _))))
theorem r_Ii {C : Int → Int → Prop} {f : Int → Int → Int} {a b : Int} (ha : Run (ta σ) F L (Dt K (.int a))) (hb : Run (tb σ) F L (Dt K (.int b))) (hc : C a b) : Run (tOp (rI C fun i j => .int (f i j)) ta tb σ) F L (Dt K (.int (f a b))) :=
  r_op ha hb fun x y F1 e1 hx hy => by
    cases hx; cases hy
    exact run_ex a (run_ex b (run_and (fun _ _ _ _ _ => rfl) (run_and (fun _ _ _ _ _ => rfl) (run_and (fun _ _ _ _ _ => hc) (run_ret fun _ _ => .int _)))))
theorem r_U {f : Int → Int} {a : Int} (ha : Run (ta σ) F L (Dt K (.int a))) : Run (tUn (rU fun i => .int (f i)) ta σ) F L (Dt K (.int (f a))) :=
  r_un ha fun x F1 e1 hx => by
    cases hx
    exact run_ex a (run_and (fun _ _ _ _ _ => rfl) (run_ret fun _ _ => .int _))
/-- lo < x <= hi and its like -/
theorem r_chain {f g : Int → Int → Bool} {a b c : Int} (ha : Run (ta σ) F L (Dt K (.int a))) (hb : Run (tb σ) F L (Dt K (.int b))) (hc : Run (tc σ) F L (Dt K (.int c))) :
    Run (tChain (rI0 fun i j => .bl (f i j)) (rI0 fun i j => .bl (g i j)) ta tb tc σ) F L (Dt K (.bool (f a b && g b c))) :=
  run_bind (k := ta σ) ha fun x F1 e1 hx => run_bind (k := tb σ) (hb.up e1) fun y F2 e2 hy => by
    cases hx; cases hy
    refine run_bind (k := fun H Q => rI0 (fun i j => .bl (f i j)) (.int a) (.int b) H Q) (R := Eqv (.bl (f a b))) (run_ex a (run_ex b (run_and (fun _ _ _ _ _ => rfl) (run_and (fun _ _ _ _ _ => rfl) (run_ret fun _ _ => rfl))))) fun z F3 e3 hz => ?_
    cases hz
    refine run_ex (f a b) (run_and (fun _ _ _ _ _ => rfl) ?_)
    cases hf : f a b with
    | true =>
      refine fun F4 N H e4 A Q q => iteT ?_
      refine run_bind (hc.up ((e1.trans e2).trans e3)) (k2 := fun w' H4 Q => rI0 (fun i j => .bl (g i j)) (.int b) w' H4 Q) (S := Dt K (.bool (true && g b c))) (fun w F5 e5 hw => ?_) F4 N H e4 A Q q
      cases hw
      exact run_ex b (run_ex c (run_and (fun _ _ _ _ _ => rfl) (run_and (fun _ _ _ _ _ => rfl) (run_ret fun _ _ => by rw [Bool.true_and]; exact .bl _))))
    | false =>
      refine fun F4 N H e4 A Q q => iteF ?_
      exact q _ F4 H (Same.refl _) A (.bl _)
/-! tests -/
variable {a b : Bool}
theorem t_test (h : Run (te σ) F L (Dt K (.bool b))) : Run (tTest te σ) F L (Eqv b) := run_bind (k := te σ) h fun x F1 e1 hx => by
  cases hx
  exact run_ex b (run_and (fun _ _ _ _ _ => rfl) (run_ret fun _ _ => rfl))
theorem t_B (h : Run (te σ) F L (Dt K (.bool b))) : Run (tB te σ) F L (Eqv b) := run_bind (k := te σ) h fun x F1 e1 hx => by
  cases hx
  exact run_ex b (run_and (fun _ _ _ _ _ => rfl) (run_ret fun _ _ => rfl))
theorem t_not (h : Run (tt σ) F L (Eqv b)) : Run (tNot tt σ) F L (Eqv (!b)) := run_bind (k := tt σ) h fun x F1 e1 hx => by
  cases hx
  exact run_ret fun _ _ => rfl
theorem t_is (h : Run (tt σ) F L (Eqv a)) (e : a = b) : Run (tt σ) F L (Eqv b) := e ▸ h
theorem r_and (h : Run (ta σ) F L (Dt K (.bool a))) (h2 : a = true → Run (tb σ) F L (Dt K (.bool b))) : Run (tAndV ta tb σ) F L (Dt K (.bool (a && b))) := run_bind (k := ta σ) h fun x F1 e1 hx => by
  cases hx
  refine run_ex a (run_and (fun _ _ _ _ _ => rfl) ?_)
  cases a with
  | true => exact fun F4 N H e4 A Q q => iteT (((h2 rfl).up e1) F4 N H e4 A Q q)
  | false => exact fun F4 N H e4 A Q q => iteF (q _ F4 H (Same.refl _) A (.bl false))
theorem r_not (h : Run (ta σ) F L (Dt K (.bool a))) : Run (tNotV ta σ) F L (Dt K (.bool (!a))) := run_bind (k := ta σ) h fun x F1 e1 hx => by
  cases hx
  exact run_ex a (run_and (fun _ _ _ _ _ => rfl) (run_ret fun _ _ => .bl _))
theorem r_if (h : Run (tt σ) F L (Eqv b)) (h1 : b = true → Run (ta σ) F L R) (h2 : b = false → Run (tb σ) F L R) : Run (tIf tt ta tb σ) F L R := run_bind (k := tt σ) h fun x F1 e1 hx => by
  cases hx
  cases b with
  | true => exact fun F4 N H e4 A Q q => iteT (((h1 rfl).up e1) F4 N H e4 A Q q)
  | false => exact fun F4 N H e4 A Q q => iteF (((h2 rfl).up e1) F4 N H e4 A Q q)
theorem r_is {d e : PyData} (h : Run (te σ) F L (Dt K d)) (q : d = e) : Run (te σ) F L (Dt K e) := q ▸ h
end

/-! ### promises -/
/-- a def that leaves all as it is: from arguments that say Rs it hands back what says R -/
def SpF {γ : Type} (pre : γ → Prop) (Rs : γ → List VP) (R : γ → VP) : Sp := fun vs H Q _ => ∃ g F N, pre g ∧ At F N H ∧ Each (Rs g) vs F ∧ ∀ v F' H', Same F F' → At F' N H' → R g v F' → Q v H'
section
variable {σ : L2.St} {F : Hp} {L : Cells} {γ : Type} {pre : γ → Prop} {Rs : γ → List VP} {R : γ → VP} {t : TA} {E : XK}
theorem sp_run {g : γ} (hp : pre g) {vs : List V} (h : Each (Rs g) vs F) [MonoL (Rs g)] : Run (fun H Q => SpF pre Rs R vs H Q E) F L (R g) := fun F1 N H e A Q q =>
  ⟨g, F1, L ++ N, hp, A, MonoL.mono _ _ _ e h, fun v F2 H2 e2 A2 r => q v F2 H2 e2 A2 r⟩
theorem r_call (g : γ) (hp : pre g) [MonoL (Rs g)] (h : Run (t σ) F L (Each (Rs g))) : Run (tCall (SpF pre Rs R) [] E t σ) F L (R g) := run_bind (k := t σ) h fun vs F1 e1 hv => by
  have := sp_run (R := R) (E := E) (L := L) hp hv
  rw [← List.append_nil vs] at this
  exact this
end

/-! ### statements -/
def RunS (t : TS) (σ : L2.St) (F : Hp) (L : Cells) (Nx : L2.St → Hp → Cells → Prop) (Rt : VP) : Prop :=
  ∀ F1 N H, Same F F1 → At F1 (L ++ N) H → ∀ D : Ends, (∀ σ' F' L' H', Same F1 F' → At F' (L' ++ N) H' → Nx σ' F' L' → D.nx σ' H') → (∀ v F' H', Same F1 F' → At F' N H' → Rt v F' → D.rt v H') → t D σ H
section
variable {K : PySem.W.Frag} {σ : L2.St} {F : Hp} {L : Cells} {Nx Mid : L2.St → Hp → Cells → Prop} {Rt R : VP} {t u : TS} {te ta tb : TE} {tc : TT} {i j : Nat} {b : Bool}
theorem RunS.up {F1 : Hp} (h : RunS t σ F L Nx Rt) (e : Same F F1) : RunS t σ F1 L Nx Rt := fun F2 N H e2 A D q r => h F2 N H (e.trans e2) A D q r
theorem s_seq (h : RunS t σ F L Mid Rt) (h2 : ∀ σ' F' L', Same F F' → Mid σ' F' L' → RunS u σ' F' L' Nx Rt) : RunS (tSeq t u) σ F L Nx Rt := fun F1 N H e A D q r =>
  h F1 N H e A { D with nx := u D } (fun σ' F' L' H' e' A' m => h2 σ' F' L' (e.trans e') m F' N H' (Same.refl _) A' D (fun σ2 F2 L2 H2 e2 A2 n => q σ2 F2 L2 H2 (e'.trans e2) A2 n) fun v F2 H2 e2 A2 n => r v F2 H2 (e'.trans e2) A2 n) r
theorem s_next (h : ∀ F1, Same F F1 → Nx σ F1 L) : RunS tNext σ F L Nx Rt := fun F1 N H e A D q r => q σ F1 L H (Same.refl _) A (h F1 e)
theorem q_set (h : Run (te σ) F L R) (k : ∀ v F1, Same F F1 → R v F1 → RunS u (σ.set i (some v)) F1 L Nx Rt) : RunS (tSeq (tAsg te (gName i)) u) σ F L Nx Rt := fun F1 N H e A D q r =>
  h F1 N H e A _ fun v F2 H2 e2 A2 hv => k v F2 (e.trans e2) hv F2 N H2 (Same.refl _) A2 D (fun σ3 F3 L3 H3 e3 A3 n => q σ3 F3 L3 H3 (e2.trans e3) A3 n) fun w F3 H3 e3 A3 n => r w F3 H3 (e2.trans e3) A3 n
theorem s_ret (h : Run (te σ) F L Rt) : RunS (tRet te) σ F L Nx Rt := fun F1 N H e A D q r => h F1 N H e A _ fun v F2 H2 e2 A2 hv => r v F2 H2 e2 A2.drop hv
theorem s_if (h : Run (tc σ) F L (Eqv b)) (h1 : b = true → RunS t σ F L Nx Rt) (h2 : b = false → RunS u σ F L Nx Rt) : RunS (tIfS tc t u) σ F L Nx Rt := fun F1 N H e A D q r =>
  h F1 N H e A _ fun c F2 H2 e2 A2 hc => by
    cases hc
    cases b with
    | true => exact iteT (h1 rfl F2 N H2 (e.trans e2) A2 D (fun σ3 F3 L3 H3 e3 A3 n => q σ3 F3 L3 H3 (e2.trans e3) A3 n) fun w F3 H3 e3 A3 n => r w F3 H3 (e2.trans e3) A3 n)
    | false => exact iteF (h2 rfl F2 N H2 (e.trans e2) A2 D (fun σ3 F3 L3 H3 e3 A3 n => q σ3 F3 L3 H3 (e2.trans e3) A3 n) fun w F3 H3 e3 A3 n => r w F3 H3 (e2.trans e3) A3 n)
/-- if c: (a return, or on) ; then u -/
theorem q_if {w : TS} (h : Run (tc σ) F L (Eqv b)) (h1 : b = true → RunS (tSeq t w) σ F L Nx Rt) (h2 : b = false → RunS (tSeq u w) σ F L Nx Rt) : RunS (tSeq (tIfS tc t u) w) σ F L Nx Rt := fun F1 N H e A D q r =>
  h F1 N H e A _ fun c F2 H2 e2 A2 hc => by
    cases hc
    cases b with
    | true => exact iteT (h1 rfl F2 N H2 (e.trans e2) A2 D (fun σ3 F3 L3 H3 e3 A3 n => q σ3 F3 L3 H3 (e2.trans e3) A3 n) fun w F3 H3 e3 A3 n => r w F3 H3 (e2.trans e3) A3 n)
    | false => exact iteF (h2 rfl F2 N H2 (e.trans e2) A2 D (fun σ3 F3 L3 H3 e3 A3 n => q σ3 F3 L3 H3 (e2.trans e3) A3 n) fun w F3 H3 e3 A3 n => r w F3 H3 (e2.trans e3) A3 n)
theorem q_next (h : RunS u σ F L Nx Rt) : RunS (tSeq tNext u) σ F L Nx Rt := h
theorem RunS.weak {Nx' : L2.St → Hp → Cells → Prop} (h : RunS t σ F L Nx Rt) (hn : ∀ σ' F' L', Same F F' → Nx σ' F' L' → Nx' σ' F' L') : RunS t σ F L Nx' Rt := fun F1 N H e A D q r =>
  h F1 N H e A D (fun σ' F' L' H' e' A' n => q σ' F' L' H' e' A' (hn σ' F' L' (e.trans e') n)) r
/-- the cells in another order -/
theorem RunS.perm {L' : Cells} (h : RunS t σ F L' Nx Rt) (p : L.Perm L') : RunS t σ F L Nx Rt := fun F1 N H e A D q r => h F1 N H e (A.perm (List.Perm.append_right N p)) D q r
/-- a cell stays from now on -/
theorem RunS.keep {a : Addr} {o : HO} (h : F a = none → RunS t σ (upd F a o) L Nx Rt) : RunS t σ F ((a, o) :: L) Nx Rt := fun F1 N H e A D q r => by
  have A1 : At F1 ((a, o) :: (L ++ N)) H := A
  have ha : F a = none := e.free A1.off1
  refine h ha (upd F1 a o) N H (fun c v z => ?_) A1.keep D (fun σ' F' L' H' e' A' n => q σ' F' L' H' ((same_new A1.off1).trans e') A' n) fun v F' H' e' A' n => r v F' H' ((same_new A1.off1).trans e') A' n
  by_cases hc : c = a
  · rw [hc, upd_same] at z ⊢; exact z
  · rw [upd_ne hc] at z ⊢; exact e c v z
/-! lists of one's own -/
end

/-! ### loops -/
/-- the iterator gives things that say Rs, one behind the other -/
def Seqs (J : It) (Rs : List VP) (F1 : Hp) : Prop := ∃ G Y, Walk J Rs.length G Y ∧ (∀ F2 L H, Same F1 F2 → At F2 L H → G H) ∧
  (∀ F2 L H i x H', Same F1 F2 → At F2 L H → i < Rs.length → Y i H x H' → ∃ F3 R, Same F2 F3 ∧ At F3 L H' ∧ Rs[i]? = some R ∧ R x F3)
section
variable {K : PySem.W.Frag} {σ : L2.St} {F : Hp} {L : Cells} {Rs : List VP} {te : TE} {t : TA} {i j : Nat}
theorem each_at : ∀ {Rs : List VP} {vs : List V} {F : Hp} {i : Nat} {x : V}, Each Rs vs F → vs[i]? = some x → ∃ R, Rs[i]? = some R ∧ R x F
  | [], [], _, _, _, _, e => by simp at e
  | R :: Rs, v :: vs, F, 0, w, h, e => by
    have e' : v = w := by simpa using e
    subst e'
    exact ⟨R, rfl, h.1⟩
  | R :: Rs, v :: vs, F, i + 1, w, h, e => by
    obtain ⟨y, h1, h2⟩ := each_at (Rs := Rs) (vs := vs) (i := i) h.2 (by simpa using e)
    exact ⟨y, by simpa using h1, h2⟩
  | [], _ :: _, _, _, _, h, _ => h.elim
  | _ :: _, [], _, _, _, h, _ => h.elim
theorem seqs_tup {a : Addr} {vs : List V} {F1 : Hp} [MonoL Rs] (h : SqT K F1 a vs) (hv : Each Rs vs F1) : Seqs (Itt K a) Rs F1 := by
  rw [Seqs, ← each_length hv]
  refine ⟨_, _, walk_tup, fun F2 L H e A => sqT_up (e.trans A.ex) h, fun F2 L H i x H' e A hi y => ?_⟩
  obtain ⟨rfl, hx⟩ := y
  obtain ⟨R, h1, h2⟩ := each_at (MonoL.mono _ _ _ e hv) hx
  exact ⟨F2, R, Same.refl _, A, h1, h2⟩
theorem seqs_lst {a : Addr} {vs : List V} {F1 : Hp} [MonoL Rs] (h : SqL K F1 a vs) (hv : Each Rs vs F1) : Seqs (Itl K a) Rs F1 := by
  rw [Seqs, ← each_length hv]
  refine ⟨_, _, walk_list, fun F2 L H e A => sqL_up (e.trans A.ex) h, fun F2 L H i x H' e A hi y => ?_⟩
  obtain ⟨rfl, hx⟩ := y
  obtain ⟨R, h1, h2⟩ := each_at (MonoL.mono _ _ _ e hv) hx
  exact ⟨F2, R, Same.refl _, A, h1, h2⟩
theorem seqs_range {n : Nat} {F1 : Hp} : Seqs (Itr 0 n) ((List.range n).map fun i => Dt K (.int (i : Nat))) F1 := by
  rw [Seqs, List.length_map, List.length_range]
  refine ⟨_, _, walk_range, fun F2 L H e A => True.intro, fun F2 L H i x H' e A hi y => ?_⟩
  obtain ⟨rfl, rfl⟩ := y
  refine ⟨F2, Dt K (.int (i : Nat)), Same.refl _, A, by simp [hi], ?_⟩
  show Dp K F2 (.int (0 + (i : Int))) (.int (i : Nat))
  rw [Int.zero_add]
  exact .int _
theorem i_tup [MonoL Rs] (h : Run (te σ) F L (Tp K Rs)) : Run (iTup K te σ) F L (fun J F1 => Seqs J Rs F1) := run_bind (k := te σ) h fun v F1 e1 hv => by
  obtain ⟨a, vs, rfl, hs, hr⟩ := hv
  exact run_ex a (run_and (fun _ _ _ _ _ => rfl) (run_and (fun F2 N H e A => ⟨vs, sqT_up (e.trans A.ex) hs⟩) (run_ret fun F2 e => seqs_tup (sqT_up e hs) (MonoL.mono _ _ _ e hr))))
theorem i_lst [MonoL Rs] (h : Run (te σ) F L (Ls K Rs)) : Run (iList K te σ) F L (fun J F1 => Seqs J Rs F1) := run_bind (k := te σ) h fun v F1 e1 hv => by
  obtain ⟨a, vs, rfl, hs, hr⟩ := hv
  exact run_ex a (run_and (fun _ _ _ _ _ => rfl) (run_and (fun F2 N H e A => ⟨vs, sqL_up (e.trans A.ex) hs⟩) (run_ret fun F2 e => seqs_lst (sqL_up e hs) (MonoL.mono _ _ _ e hr))))
theorem i_range {n : Int} (h : Run (t σ) F L (Each [Dt K (.int n)])) (hn : n ≤ 100000) (h0 : -100000 ≤ n) : Run (iRng1 t σ) F L (fun J F1 => Seqs J ((List.range n.toNat).map fun i => Dt K (.int (i : Nat))) F1) := run_bind (k := t σ) h fun vs F1 e1 hv => by
  obtain ⟨v, rfl, hv1⟩ := each1 hv
  · obtain rfl := dt_int hv1
    exact run_ex n (run_and (fun _ _ _ _ _ => rfl) (run_and (fun _ _ _ _ _ => by omega) (run_and (fun _ _ _ _ _ => by omega) (run_ret fun F2 e => seqs_range))))
variable {Nx : L2.St → Hp → Cells → Prop} {Rt : VP} {tb u : TS} {g : TG} {wi : TI}
/-! ### comprehensions -/
end
end Rs

/-! Rs2: enumerate of a tuple, sets of a list, .. at the level of the machine. -/
namespace Rs
open PySem PySem.Spec PyProof.Rows L2
variable [Rs.Tabz]
/-! ### enumerate(tuple) -/
section
variable {prog : Program} {w : World} {A : Around} {E : Value → Shared → Prop} {s : Shared}
end
/-- pairs of a place and what stands there -/
def Pairs (K : PySem.W.Frag) (Rs : List VP) : List VP := Rs.mapIdx fun i R => Tp K [Dt K (.int (i : Nat)), R]
end Rs

/-! Rs3: set(a list of ints), sorted of it. -/
namespace Rs
open PySem PySem.Spec PyProof.Rows L2
variable [Rs.Tabz]
section
variable {P : Program} {w : World} {A : Around} {E : Value → Shared → Prop} {s : Shared}
/-- the heap with a fresh set at its end -/
def withSet (w : World) (h : Heap) : Heap := h.push { cls := .type "set", dict := none, data := .set #[] 0 (.fresh 0 0 (!w.params.followText "set-order")) }
end
section
variable {X : Cx}
end
/-- a set of ints that stands -/
def St (w : World) (ns : List Int) : VP := fun v F => ∃ a c, v = .ref a ∧ c ≤ ns.length ∧ F a = some (SetO w a (fun j => decide (j ∈ ns)) c)
instance {w : World} {ns : List Int} : Mono (St w ns) := ⟨fun _ _ _ e ⟨a, c, h, l, r⟩ => ⟨a, c, h, l, e _ _ r⟩⟩
section
variable {K : PySem.W.Frag} {w : World} {σ : L2.St} {F : Hp} {L : Cells} {t : TA} {ns : List Int}
end
end Rs

/-! Rs4: short words for calls of what is built in, of defs, of classes with slots. -/
namespace Rs
open PySem PySem.Spec PyProof.Rows L2 SlX
variable [Rs.Tabz]
/-- the names that are still the built-in ones -/
structure Bf (mg : Str → Option Value) : Prop where
  len : mg "len" = none
  range : mg "range" = none
  list : mg "list" = none
  tuple : mg "tuple" = none
  set : mg "set" = none
  sorted : mg "sorted" = none
  all : mg "all" = none
  isinstance : mg "isinstance" = none
  int : mg "int" = none
  bool : mg "bool" = none
  enumerate : mg "enumerate" = none
  zip : mg "zip" = none
  min : mg "min" = none
  max : mg "max" = none
  abs : mg "abs" = none
  str : mg "str" = none
  repr : mg "repr" = none
  dict : mg "dict" = none
section
variable {X : Cx} {e o : Expr} {es : List Expr} {ta te : TE} {t : TA} {p pos apos : Pos} {f m x : Str} {K : PySem.W.Frag}
/-- len of a text, a list, a tuple, a dict by ints and texts -/
def rLn (K : PySem.W.Frag) : List V → Hp → VK → Prop := fun xs H Q => (∃ x n, xs = [x] ∧ LenV K x H n ∧ Q (.int n) H) ∨ ∃ a kvs, xs = [V.ref a] ∧ H a = some (.dK kvs) ∧ Q (.int kvs.length) H
theorem p_len (B : Bf X.mg) (ha : PA X (e :: es) t) (hg : Gl X "len" := by rfl) (he : starEach (e :: es) X.env = (false, eval e X.env) :: starEach es X.env := by rfl) (hpl : (backTo pos (starEach es X.env)).any (·.1) = false := by rfl) :
    PE X (.Call (.Name "len" p) (e :: es) [] pos) (tCB (rLn X.K) t) := pe_callB (CallR.or call_len call_lenD) hg B.len PySem.boot_len ha (by decide) (by decide) he hpl
theorem p_all (hc : X.calm = true) (B : Bf X.mg) (ha : PA X (e :: es) t) (hg : Gl X "all" := by rfl) (he : starEach (e :: es) X.env = (false, eval e X.env) :: starEach es X.env := by rfl) (hpl : (backTo pos (starEach es X.env)).any (·.1) = false := by rfl) :
    PE X (.Call (.Name "all" p) (e :: es) [] pos) (tCB (rAll X.K) t) := pe_callB (cr_all hc) hg B.all boot_all ha (by decide) (by decide) he hpl
theorem p_isi (B : Bf X.mg) (ha : PA X (e :: es) t) (hg : Gl X "isinstance" := by rfl) (he : starEach (e :: es) X.env = (false, eval e X.env) :: starEach es X.env := by rfl) (hpl : (backTo pos (starEach es X.env)).any (·.1) = false := by rfl) :
    PE X (.Call (.Name "isinstance" p) (e :: es) [] pos) (tCB (rIsi X.K) t) := pe_callB call_isi hg B.isinstance PyProof.Rows.boot_isinstance ha (by decide) (by decide) he hpl
theorem p_isiS (u : Value) (B : Bf X.mg) (ha : PA X (e :: es) t) (hg : Gl X "isinstance" := by rfl) (he : starEach (e :: es) X.env = (false, eval e X.env) :: starEach es X.env := by rfl) (hpl : (backTo pos (starEach es X.env)).any (·.1) = false := by rfl) :
    PE X (.Call (.Name "isinstance" p) (e :: es) [] pos) (tCB (fun xs H Q => rIsi X.K xs H Q ∨ rIsiSl X.K u xs H Q) t) := pe_callB (CallR.or call_isi (call_isiSl u)) hg B.isinstance PyProof.Rows.boot_isinstance ha (by decide) (by decide) he hpl
/-- sorted of a dict by ints -/
def rSortedDI : List V → Hp → VK → Prop := fun xs H Q => ∃ (a : Addr) (kvs : List (Key × V)) (ks : List Int), xs = [.ref a] ∧ Rd H a (.dK kvs) ∧ kvs.map (·.1) = ks.map Sum.inl ∧ ks.length < 64 ∧
    ∀ (ys : List Int) (p : Addr), ys.Perm ks → ys.Pairwise (· ≤ ·) → H p = none → Q (.ref p) (upd H p (.lst (ys.map V.int)))
theorem p_sortedDI (hc : X.calm = true) (B : Bf X.mg) (ha : PA X (e :: es) t) (hg : Gl X "sorted" := by rfl) (he : starEach (e :: es) X.env = (false, eval e X.env) :: starEach es X.env := by rfl) (hpl : (backTo pos (starEach es X.env)).any (·.1) = false := by rfl) :
    PE X (.Call (.Name "sorted" p) (e :: es) [] pos) (tCB rSortedDI t) := pe_callB (call_sortedDI hc) hg B.sorted boot_sorted ha (by decide) (by decide) he hpl
def rListOf (K : PySem.W.Frag) : List V → Hp → VK → Prop := fun xs H Q => ∃ p ys, xs = [.ref p] ∧ (SqL K H p ys ∨ SqT K H p ys) ∧ ∀ l, H l = none → Q (.ref l) (upd H l (.lst ys))
theorem p_list (B : Bf X.mg) (ha : PA X (e :: es) t) (hg : Gl X "list" := by rfl) (he : starEach (e :: es) X.env = (false, eval e X.env) :: starEach es X.env := by rfl) (hpl : (backTo pos (starEach es X.env)).any (·.1) = false := by rfl) :
    PE X (.Call (.Name "list" p) (e :: es) [] pos) (tCB (rListOf X.K) t) := pe_callTy call_list_of hg B.list PyProof.Rows.boot_list ha (by decide) (by decide) he hpl
def rTupOf (K : PySem.W.Frag) : List V → Hp → VK → Prop := fun xs H Q => ∃ p ys, xs = [.ref p] ∧ ((SqL K H p ys ∧ ∀ l, H l = none → Q (.ref l) (upd H l (.tup ys))) ∨ (SqT K H p ys ∧ Q (.ref p) H))
theorem p_tuple (B : Bf X.mg) (ha : PA X (e :: es) t) (hg : Gl X "tuple" := by rfl) (he : starEach (e :: es) X.env = (false, eval e X.env) :: starEach es X.env := by rfl) (hpl : (backTo pos (starEach es X.env)).any (·.1) = false := by rfl) :
    PE X (.Call (.Name "tuple" p) (e :: es) [] pos) (tCB (rTupOf X.K) t) := pe_callTy call_tuple_of hg B.tuple PyProof.Rows.boot_tuple ha (by decide) (by decide) he hpl
def rIntOf : List V → Hp → VK → Prop := fun xs H Q => (∃ i, xs = [.int i] ∧ Q (.int i) H) ∨ ∃ k, xs = [.bl k] ∧ Q (.int (if k then 1 else 0)) H
theorem p_int (B : Bf X.mg) (ha : PA X (e :: es) t) (hg : Gl X "int" := by rfl) (he : starEach (e :: es) X.env = (false, eval e X.env) :: starEach es X.env := by rfl) (hpl : (backTo pos (starEach es X.env)).any (·.1) = false := by rfl) :
    PE X (.Call (.Name "int" p) (e :: es) [] pos) (tCB rIntOf t) := pe_callTy call_int1 hg B.int PyProof.Rows.boot_int ha (by decide) (by decide) he hpl
def rAbs : List V → Hp → VK → Prop := fun xs H Q => ∃ i, xs = [.int i] ∧ Q (.int (if i < 0 then -i else i)) H
theorem p_abs (B : Bf X.mg) (ha : PA X (e :: es) t) (hg : Gl X "abs" := by rfl) (he : starEach (e :: es) X.env = (false, eval e X.env) :: starEach es X.env := by rfl) (hpl : (backTo pos (starEach es X.env)).any (·.1) = false := by rfl) :
    PE X (.Call (.Name "abs" p) (e :: es) [] pos) (tCB rAbs t) := pe_callB call_abs hg B.abs PyProof.Rows.boot_abs ha (by decide) (by decide) he hpl
def rMin2 : List V → Hp → VK → Prop := fun xs H Q => ∃ i j, xs = [.int i, .int j] ∧ Q (.int (if j < i then j else i)) H
theorem p_min2 (hc : X.calm = true) (B : Bf X.mg) (ha : PA X (e :: es) t) (hg : Gl X "min" := by rfl) (he : starEach (e :: es) X.env = (false, eval e X.env) :: starEach es X.env := by rfl) (hpl : (backTo pos (starEach es X.env)).any (·.1) = false := by rfl) :
    PE X (.Call (.Name "min" p) (e :: es) [] pos) (tCB rMin2 t) := pe_callB (call_min2 hc) hg B.min PyProof.Rows.boot_min ha (by decide) (by decide) he hpl
def rMax2 : List V → Hp → VK → Prop := fun xs H Q => ∃ i j, xs = [.int i, .int j] ∧ Q (.int (if j > i then j else i)) H
theorem p_max2 (hc : X.calm = true) (B : Bf X.mg) (ha : PA X (e :: es) t) (hg : Gl X "max" := by rfl) (he : starEach (e :: es) X.env = (false, eval e X.env) :: starEach es X.env := by rfl) (hpl : (backTo pos (starEach es X.env)).any (·.1) = false := by rfl) :
    PE X (.Call (.Name "max" p) (e :: es) [] pos) (tCB rMax2 t) := pe_callB (call_max2 hc) hg B.max PyProof.Rows.boot_max ha (by decide) (by decide) he hpl
/-- a built-in type's name -/
theorem p_ty {T : String} {x : Str} (hg : Gl X x) (hm : X.mg x = none) (hv : bootBuiltins x = some (.type T)) (hn : x ≠ "__name__" := by decide) (hd : (x == ("__debug__" : Str)) = false := by decide) : PE X (.Name x pos) (tC (.ty T)) := pe_bltn hg hm hv rfl hn hd
theorem p_cls {C : Addr} {x : Str} (hg : Gl X x) (hm : X.mg x = some (.ref C)) (hd : (x == ("__debug__" : Str)) = false := by decide) : PE X (.Name x pos) (tC (.ref C)) := pe_glob hg hm rfl hd
/-- a module's own int -/
def GInt (mg : Str → Option Value) (x : Str) (i : Int) : Prop := ∃ t, mg x = some (.int i t)
theorem p_gint {i : Int} {x : Str} (h : GInt X.mg x i) (hg : Gl X x := by rfl) (hd : (x == ("__debug__" : Str)) = false := by decide) : PE X (.Name x pos) (tC (.int i)) := by
  obtain ⟨t, h⟩ := h
  exact pe_glob hg h ⟨t, rfl⟩ hd
/-- a def called -/
structure Gf (P : Program) (w : World) (K : PySem.W.Frag) (mg : Str → Option Value) (base : Heap) (k : Nat) (x : Str) (sp : Sp) : Prop where
  ex : ∃ f fd ps, FnOk P w K mg base CX0 k f fd ps sp ∧ mg x = some (.ref f) ∧ PySem.W.keepIn K (.ref f) = true ∧ Binds K fd ps []
theorem p_call {k j : Nat} {sp : Sp} (c : Gf X.prog X.w X.K X.mg X.base k f sp) (hr : Room j X.A) (hk : k ≤ j) (ha : PA X (e :: es) t) (hg : Gl X f := by rfl)
    (hdb : (f == ("__debug__" : Str)) = false := by decide) (he : starEach (e :: es) X.env = (false, eval e X.env) :: starEach es X.env := by rfl) (hpl : (backTo pos (starEach es X.env)).any (·.1) = false := by rfl) :
    PE X (.Call (.Name f p) (e :: es) [] pos) (tCall sp [] E0 t) := by
  obtain ⟨g, fd, ps, F, hm, kp, b⟩ := c.ex
  exact pe_call F (hr.mono hk) hg hm kp b .nil pass0 ha hdb he hpl
/-- a method, a property of a class with slots -/
structure MetS (P : Program) (w : World) (K : PySem.W.Frag) (mg : Str → Option Value) (base : Heap) (k : Nat) (C : Addr) (m : Str) (sp : Sp) : Prop where
  ex : ∃ g, SCls K C ∧ Meth K C m g ∧ FnR P w K mg base CX0 k g sp
structure PrpS (P : Program) (w : World) (K : PySem.W.Frag) (mg : Str → Option Value) (base : Heap) (k : Nat) (C : Addr) (m : Str) (sp : Sp) : Prop where
  ex : ∃ p g, SCls K C ∧ PySem.W.findIn K (.ref C) m = some (some (.ref p)) ∧ PySem.W.specialIn K (.ref p) "__get__" = some (some (.builtin "property.__get__")) ∧ PySem.W.takesIn K (.ref p) = some true ∧
    (∃ rest, PySem.W.recIn K p "property" = some (.ref g :: rest)) ∧ FnR P w K mg base CX0 k g sp
theorem p_met {k j : Nat} {C : Addr} {sp : Sp} {pl : Sem Bool} (c : MetS X.prog X.w X.K X.mg X.base k C m sp) (hr : Room j X.A) (hk : k ≤ j) (he : PE X o ta) (ha : PA X (e :: es) t)
    (hst : starEach (e :: es) X.env = (false, eval e X.env) :: starEach es X.env := by rfl) (hpl : (backTo pos (starEach es X.env)).any (·.1) = false := by rfl)
    (ht : eval (.Call (.Attribute o m apos) (e :: es) [] pos) X.env = (do
      let ov ← eval o X.env
      standAt apos.atName
      let (f, first) ← holding [ov] (getMethod ov m pl)
      callWith pos f first (backTo pos (starEach (e :: es) X.env)) (backToKw pos (keywordEach [] X.env))) := by rfl) :
    PE X (.Call (.Attribute o m apos) (e :: es) [] pos) (tMethSl C sp E0 ta t) := by
  obtain ⟨g, sc, me, F⟩ := c.ex
  exact pe_methSl (pl := pl) he sc me F (hr.mono hk) pass0 ha hst hpl ht
theorem p_prp {k j : Nat} {C : Addr} {sp : Sp} (c : PrpS X.prog X.w X.K X.mg X.base k C f sp) (hr : Room j X.A) (hk : k + 1 ≤ j) (he : PE X e ta) (hb : attributeBase e f X.env (eval e X.env) = eval e X.env := by rfl) :
    PE X (.Attribute e f pos) (tPropSl C sp E0 ta) := by
  obtain ⟨p, g, sc, h1, h2, h3, h4, F⟩ := c.ex
  exact pe_propSl he sc h1 h2 h3 h4 F (hr.mono hk) (fun _ _ _ _ h => h.elim) hb
end
end Rs

/-! Rs5: a def keeps its promise; runs of the short words. -/
namespace Rs
open PySem PySem.Spec PyProof.Rows L2 SlX StX
variable [Rs.Tabz]
section
variable {P : Program} {w : World} {K : PySem.W.Frag} {mg : Str → Option Value} {base : Heap}
theorem gf_ok {x qual : Str} {st : Stmt} {f : Addr} {fd : FuncData} {N ps : List Str} {k : Nat} {γ : Type} {pre : γ → Prop} {Rs : γ → List VP} {R : γ → VP} (F : Fun K x qual st f fd) (S : FnScope N ps (defScope st)) (len : ∀ g, (Rs g).length = ps.length)
    (body : ∀ (cdv : Value) (A : Around) (outer : List Env) (s : Shared) (H : Hp) (E : XK) (g : γ) (vs : List V) (F0 : Hp), Room k (A.deeper (envOfC qual (defScope st) s.heap.objs.size f cdv)) → pre g → Each (Rs g) vs F0 →
      ∃ t, PSs (cxOf CX0 P w K mg base N qual (defScope st) f cdv A outer s H E).nox (defBody st) t ∧ RunS t (start N vs) F0 [] (fun _ F' _ => R g .non F') (R g)) : FnOk P w K mg base CX0 (k + 1) f fd ps (SpF pre Rs R) := by
  refine F.ok S (fun vs H Q E ⟨g, F0, N0, hp, A, hv, q⟩ => (each_length hv).trans (len g)) fun cdv A outer s H vs Q E hr ⟨g, F0, N0, hp, A0, hv, q⟩ => ?_
  obtain ⟨t, h1, h2⟩ := body cdv A outer s H E g vs F0 hr hp hv
  exact ⟨t, h1, h2 F0 N0 H (Same.refl _) A0 _ (fun _ F' L' H' e' A' n => q .non F' H' e' A'.drop n) fun v F' H' e' A' r => q v F' H' e' A' r⟩
theorem gf_mk {x : Str} {st : Stmt} {f : Addr} {fd : FuncData} {N ps : List Str} {k : Nat} {γ : Type} {pre : γ → Prop} {Rs : γ → List VP} {R : γ → VP} (F : Fun K x x st f fd) (hm : mg x = some (.ref f)) (b : Binds K fd ps []) (S : FnScope N ps (defScope st)) (len : ∀ g, (Rs g).length = ps.length)
    (body : ∀ (cdv : Value) (A : Around) (outer : List Env) (s : Shared) (H : Hp) (E : XK) (g : γ) (vs : List V) (F0 : Hp), Room k (A.deeper (envOfC x (defScope st) s.heap.objs.size f cdv)) → pre g → Each (Rs g) vs F0 →
      ∃ t, PSs (cxOf CX0 P w K mg base N x (defScope st) f cdv A outer s H E).nox (defBody st) t ∧ RunS t (start N vs) F0 [] (fun _ F' _ => R g .non F') (R g)) : Gf P w K mg base (k + 1) x (SpF pre Rs R) :=
  ⟨f, fd, ps, gf_ok F S len body, hm, F.kp, b⟩
end
section
variable {K : PySem.W.Frag} {w : World} {σ : L2.St} {F : Hp} {L : Cells} {R : VP} {Rs : List VP} {t : TA} {te : TE}
/-! len, all, isinstance, list, tuple, sorted -/
theorem r_lnT (h : Run (t σ) F L (Each [Tp K Rs])) : Run (tCB (rLn K) t σ) F L (Dt K (.int Rs.length)) := r_cb h fun vs F1 e1 hv => by
  obtain ⟨v, rfl, a, ws, rfl, hs, hr⟩ := each1 hv
  exact fun F2 N H e A Q q => .inl ⟨.ref a, ws.length, rfl, .inr ⟨ws, sqT_up (e.trans A.ex) hs, rfl⟩, q _ F2 H (Same.refl _) A (by rw [each_length hr]; exact .int _)⟩
theorem r_lnL (h : Run (t σ) F L (Each [Ls K Rs])) : Run (tCB (rLn K) t σ) F L (Dt K (.int Rs.length)) := r_cb h fun vs F1 e1 hv => by
  obtain ⟨v, rfl, a, ws, rfl, hs, hr⟩ := each1 hv
  exact fun F2 N H e A Q q => .inl ⟨.ref a, ws.length, rfl, .inl ⟨ws, sqL_up (e.trans A.ex) hs, rfl⟩, q _ F2 H (Same.refl _) A (by rw [each_length hr]; exact .int _)⟩
theorem r_lnTD {ds : List PyData} (h : Run (t σ) F L (Each [Dt K (.tuple ds)])) : Run (tCB (rLn K) t σ) F L (Dt K (.int ds.length)) := by
  have := r_lnT (K := K) (Rs := ds.map (Dt K)) (h.weak fun vs F1 e hv => by
    obtain ⟨v, rfl, h1⟩ := each1 hv
    exact ⟨tp_dt.mpr h1, True.intro⟩)
  rwa [List.length_map] at this
theorem each_bls : ∀ {bs : List Bool} {vs : List V} {F : Hp}, Each (bs.map fun b => Dt K (.bool b)) vs F → vs = bs.map V.bl
  | [], vs, F, h => by rw [each0 h]; rfl
  | b :: bs, vs, F, h => by
    obtain ⟨v, ws, rfl, h1, h2⟩ := each_cons h
    rw [dt_bl h1, each_bls h2]; rfl
theorem r_all {bs : List Bool} (h : Run (t σ) F L (Each [Ls K (bs.map fun b => Dt K (.bool b))])) : Run (tCB (rAll K) t σ) F L (Dt K (.bool (bs.all id))) := r_cb h fun vs F1 e1 hv => by
  obtain ⟨v, rfl, a, ws, rfl, hs, hr⟩ := each1 hv
  rw [each_bls hr] at hs
  exact fun F2 N H e A Q q => ⟨a, bs, rfl, sqL_up (e.trans A.ex) hs, q _ F2 H (Same.refl _) A (.bl _)⟩
/-- isinstance(x, T) by the kind of the value -/
theorem r_isi {T : String} {ty : Value} {b : Bool} (h : Run (t σ) F L (Each [R, Eqv (.ty T)])) (hr : ∀ v F1 F2 H, R v F1 → Same F1 F2 → Same F2 H → TyX K H v ty) (hb : PySem.W.kitOne K ty (.type T) = some b) : Run (tCB (rIsi K) t σ) F L (Dt K (.bool b)) := r_cb h fun vs F1 e1 hv => by
  obtain ⟨v, u, rfl, h1, h2⟩ := each2 hv
  cases h2
  exact fun F2 N H e A Q q => ⟨v, .ty T, ty, .type T, b, rfl, .ty T, hr v F1 F2 H h1 e A.ex, hb, q _ F2 H (Same.refl _) A (.bl _)⟩
theorem r_tupL [MonoL Rs] (h : Run (t σ) F L (Each [Ls K Rs])) : Run (tCB (rTupOf K) t σ) F L (Tp K Rs) := r_cb h fun vs F1 e1 hv => by
  obtain ⟨v, rfl, a, ws, rfl, hs, hr⟩ := each1 hv
  exact fun F2 N H e A Q q => ⟨a, ws, rfl, .inl ⟨sqL_up (e.trans A.ex) hs, fun l hl => q _ (upd F2 l _) _ (same_new (A.free hl)) (A.new hl) ⟨l, ws, rfl, .inl (.inl upd_same), MonoL.mono _ _ _ (e.trans (same_new (A.free hl))) hr⟩⟩⟩
theorem r_tupD {ds : List PyData} (h : Run (t σ) F L (Each [Dt K (.list ds)])) : Run (tCB (rTupOf K) t σ) F L (Dt K (.tuple ds)) :=
  (r_tupL (K := K) (Rs := ds.map (Dt K)) (h.weak fun vs F1 e hv => by
    obtain ⟨v, rfl, h1⟩ := each1 hv
    exact ⟨ls_dt.mpr h1, True.intro⟩)).weak fun v F1 e hv => tp_dt.mp hv
/-! ==, in -/
theorem r_eqD {ta tb : TE} {d e : PyData} (ha : Run (ta σ) F L (Dt K d)) (hb : Run (tb σ) F L (Dt K e)) (h1 : SeqAt.shaped d = true) (h2 : SeqAt.shaped e = true) : Run (tOp (rEqD K) ta tb σ) F L (Dt K (.bool (PyData.eqv d e))) :=
  r_op ha hb fun x y F1 e1 hx hy => fun F2 N H e2 A Q q => ⟨d, e, dp_up (e2.trans A.ex) hx, dp_up (e2.trans A.ex) hy, h1, h2, q _ F2 H (Same.refl _) A (.bl _)⟩
theorem r_neD {ta tb : TE} {d e : PyData} (ha : Run (ta σ) F L (Dt K d)) (hb : Run (tb σ) F L (Dt K e)) (h1 : SeqAt.shaped d = true) (h2 : SeqAt.shaped e = true) : Run (tOp (rNeD K) ta tb σ) F L (Dt K (.bool (!PyData.eqv d e))) :=
  r_op ha hb fun x y F1 e1 hx hy => fun F2 N H e2 A Q q => ⟨d, e, dp_up (e2.trans A.ex) hx, dp_up (e2.trans A.ex) hy, h1, h2, q _ F2 H (Same.refl _) A (.bl _)⟩
/-! numbers equal -/
theorem r_eqI {ta tb : TE} {i j : Int} (ha : Run (ta σ) F L (Dt K (.int i))) (hb : Run (tb σ) F L (Dt K (.int j))) : Run (tOp rEq ta tb σ) F L (Dt K (.bool (decide (i = j)))) :=
  r_op ha hb fun x y F1 e1 hx hy => by
    cases hx; cases hy
    refine fun F2 N H e2 A Q q => ⟨rfl, q _ F2 H (Same.refl _) A ?_⟩
    have e : decide (V.int i = V.int j) = decide (i = j) := by
      by_cases h : i = j
      · subst h; simp
      · simp [h]
    rw [e]; exact .bl _
theorem r_neI {ta tb : TE} {i j : Int} (ha : Run (ta σ) F L (Dt K (.int i))) (hb : Run (tb σ) F L (Dt K (.int j))) : Run (tOp rNe ta tb σ) F L (Dt K (.bool (!decide (i = j)))) :=
  r_op ha hb fun x y F1 e1 hx hy => by
    cases hx; cases hy
    refine fun F2 N H e2 A Q q => ⟨rfl, q _ F2 H (Same.refl _) A ?_⟩
    have e : decide (V.int i = V.int j) = decide (i = j) := by
      by_cases h : i = j
      · subst h; simp
      · simp [h]
    rw [e]; exact .bl _
/-! items -/
theorem r_ixT {ta tb : TE} {ds : List PyData} {n : Nat} {d : PyData} (ha : Run (ta σ) F L (Dt K (.tuple ds))) (hb : Run (tb σ) F L (Dt K (.int (n : Nat)))) (hd : ds[n]? = some d) : Run (tOp (rIxT K) ta tb σ) F L (Dt K d) :=
  r_op ha hb fun x y F1 e1 hx hy => by
    obtain ⟨a, vs, rfl, hs, hr⟩ := tp_dt.mpr hx
    cases hy
    have hn : n < vs.length := by rw [each_length hr, List.length_map]; exact (List.getElem?_eq_some_iff.mp hd).1
    obtain ⟨R', g1, g2⟩ := each_at hr (List.getElem?_eq_getElem hn)
    rw [List.getElem?_map, hd] at g1
    cases g1
    exact fun F2 N H e2 A Q q => ⟨a, vs, (n : Int), _, rfl, rfl, sqT_up (e2.trans A.ex) hs, atI_nat (List.getElem?_eq_getElem hn), q _ F2 H (Same.refl _) A (dp_up e2 g2)⟩
theorem r_ixL {ta tb : TE} {ds : List PyData} {n : Nat} {d : PyData} (ha : Run (ta σ) F L (Dt K (.list ds))) (hb : Run (tb σ) F L (Dt K (.int (n : Nat)))) (hd : ds[n]? = some d) : Run (tOp (rIxL K) ta tb σ) F L (Dt K d) :=
  r_op ha hb fun x y F1 e1 hx hy => by
    obtain ⟨a, vs, rfl, hs, hr⟩ := ls_dt.mpr hx
    cases hy
    have hn : n < vs.length := by rw [each_length hr, List.length_map]; exact (List.getElem?_eq_some_iff.mp hd).1
    obtain ⟨R', g1, g2⟩ := each_at hr (List.getElem?_eq_getElem hn)
    rw [List.getElem?_map, hd] at g1
    cases g1
    exact fun F2 N H e2 A Q q => ⟨a, vs, (n : Int), _, rfl, rfl, sqL_up (e2.trans A.ex) hs, atI_nat (List.getElem?_eq_getElem hn), q _ F2 H (Same.refl _) A (dp_up e2 g2)⟩
/-! comprehensions in short -/
section
variable {ι : Type} {Ri Re : ι → VP} {f : ι → Bool} {xs : List ι} {tt : TT} {wi : TI} {vs : List Nat} {j j1 j2 : Nat}
end
end
end Rs

/-! Rs6: kinds of data, equality of rows. -/
namespace Rs
open PySem PySem.Spec PyProof.Rows L2 SlX StX
variable [Rs.Tabz]
def tyName : PyData → String
  | .none => "NoneType" | .bool _ => "bool" | .int _ => "int" | .str _ => "str" | .list _ => "list" | .tuple _ => "tuple" | .dict _ => "dict"
theorem ty_dt {K : PySem.W.Frag} {F : Hp} {d : PyData} {v : V} (h : Dp K F v d) : TyX K F v (.type (tyName d)) := by
  cases h with
  | non => exact .base .non
  | bl b => exact .base (.bl b)
  | int i => exact .base (.int i)
  | str x => exact .base (.str x)
  | lst s t =>
    rcases s with (s | ⟨o, s⟩) | ⟨o, its, n, hk, hc, hd, hs, hz, r⟩
    · exact .base (.lst s)
    · exact .base (.frz s)
    · exact .kList hk hc
  | tup s t =>
    rcases s with (s | ⟨o, s⟩) | ⟨o, its, n, hk, hc, hs, hz, r⟩
    · exact .base (.tup s)
    · exact .fTuple s
    · exact .kTuple hk hc
section
variable {K : PySem.W.Frag} {σ : L2.St} {F : Hp} {L : Cells} {t : TA}
theorem r_isiD {T : String} {d : PyData} {b : Bool} (h : Run (t σ) F L (Each [Dt K d, Eqv (.ty T)])) (hb : kitB (tyName d) T = some b) : Run (tCB (rIsi K) t σ) F L (Dt K (.bool b)) :=
  r_isi h (fun v F1 F2 H hv e1 e2 => ty_dt (dp_up e2 (dp_up e1 hv))) (kit_ty hb)
end
/-! ### rows of ints -/
theorem eqvAll_of {α : Type} {f : α → PyData} [DecidableEq α] (h : ∀ a b, PyData.eqv (f a) (f b) = decide (a = b)) : ∀ {xs ys : List α}, PyData.eqvAll (xs.map f) (ys.map f) = decide (xs = ys)
  | [], [] => by simp [PyData.eqvAll]
  | [], _ :: _ => by simp [PyData.eqvAll]
  | _ :: _, [] => by simp [PyData.eqvAll]
  | n :: ns, m :: ms => by
    have ih := eqvAll_of h (xs := ns) (ys := ms)
    rw [List.map_cons, List.map_cons, PyData.eqvAll, ih, h]
    by_cases h : n = m
    · subst h; simp
    · simp [h]
theorem lay_all {α : Type} {f : α → PyData} (h : ∀ a, (f a).canLay0 = true) : ∀ {xs : List α}, PyData.canLayAll0 (xs.map f) = true
  | [] => rfl
  | x :: xs => by rw [List.map_cons, PyData.canLayAll0, h, lay_all h]; rfl
theorem dep_all {α : Type} {f : α → PyData} {k : Nat} (h : ∀ a, (f a).depth ≤ k) : ∀ {xs : List α}, PyData.depthAll (xs.map f) ≤ k
  | [] => Nat.zero_le _
  | x :: xs => by
    rw [List.map_cons, PyData.depthAll]
    exact Nat.max_le.mpr ⟨h x, dep_all h⟩
theorem shaped_of {d : PyData} (h1 : d.canLay0 = true) (h2 : d.depth ≤ 64) : SeqAt.shaped d = true := by
  unfold SeqAt.shaped; rw [h1, Bool.true_and]; exact decide_eq_true h2
end Rs

/-! Rs7: runs that change cells; dicts of one's own. -/
namespace Rs
open PySem PySem.Spec PyProof.Rows L2 SlX StX
variable [Rs.Tabz]
/-- k runs, the cells may be others behind it -/
def RunX {α : Type} (k : Hp → (α → Hp → Prop) → Prop) (F : Hp) (L : Cells) (P : α → Hp → Cells → Prop) : Prop :=
  ∀ F1 N H, Same F F1 → At F1 (L ++ N) H → ∀ Q : α → Hp → Prop, (∀ v F2 L2 H2, Same F1 F2 → At F2 (L2 ++ N) H2 → P v F2 L2 → Q v H2) → k H Q
section
variable {α β : Type} {k : Hp → (α → Hp → Prop) → Prop} {F F1 : Hp} {L : Cells} {R : α → Hp → Prop} {P P' : α → Hp → Cells → Prop}
theorem RunX.up (h : RunX k F L P) (e : Same F F1) : RunX k F1 L P := fun F2 N H e2 A Q q => h F2 N H (e.trans e2) A Q q
theorem Run.x (h : Run k F L R) (hp : ∀ v F2, Same F F2 → R v F2 → P v F2 L) : RunX k F L P := fun F1 N H e A Q q => h F1 N H e A Q fun v F2 H2 e2 A2 r => q v F2 L H2 e2 A2 (hp v F2 (e.trans e2) r)
theorem RunX.perm {L' : Cells} (h : RunX k F L' P) (p : L.Perm L') : RunX k F L P := fun F1 N H e A Q q => h F1 N H e (A.perm (List.Perm.append_right N p)) Q q
theorem At.mem {H : Hp} {N : Cells} {p : Addr × HO} (A : At F (L ++ N) H) (h : p ∈ L) : H p.1 = some p.2 := A.on p (List.mem_append_left _ h)
end
section
variable {K : PySem.W.Frag} {σ : L2.St} {F : Hp} {L : Cells} {R : VP} {Rs : List VP} {t tr ta : TA} {te td ty tv : TE} {Px : V → Hp → Cells → Prop} {Pa : List V → Hp → Cells → Prop} {Nx : L2.St → Hp → Cells → Prop} {Rt : VP} {u : TS} {i j : Nat}
end
end Rs

/-! Ma: rows of houses, ways. -/
namespace Ma
open PySem
abbrev Rows := List (List Nat)
abbrev nI (n : Nat) : PyData := .int (n : Int)
abbrev dRow (r : List Nat) : PyData := .tuple (r.map nI)
abbrev dRows (rs : Rows) : PyData := .tuple (rs.map dRow)
abbrev Asc (r : List Nat) : Prop := r.Pairwise (· < ·)
/-- the rows of a web -/
structure Ok (rs : Rows) : Prop where
  pos : 1 ≤ rs.length
  le : rs.length ≤ 5
  asc : ∀ r ∈ rs, Asc r
  lt : ∀ r ∈ rs, ∀ x ∈ r, x < rs.length
  ne : ∀ (i : Nat) r, rs[i]? = some r → i ∉ r
abbrev row (rs : Rows) (y : Nat) : List Nat := rs.getD y []
/-- ways lead from h to y -/
inductive Reach (rs : Rows) (h : Nat) : Nat → Prop
  | refl : Reach rs h h
  | step {x y : Nat} : Reach rs h x → y < rs.length → x ∈ row rs y → Reach rs h y
open Classical in
noncomputable def reachL (rs : Rows) (h : Nat) : List Nat := (List.range rs.length).filter fun y => decide (Reach rs h y)
open Classical in
theorem mem_reachL {rs : Rows} {h y : Nat} : y ∈ reachL rs h ↔ y < rs.length ∧ Reach rs h y := by
  unfold reachL
  rw [List.mem_filter, List.mem_range, decide_eq_true_eq]
theorem asc_range (n : Nat) : Asc (List.range n) := List.pairwise_lt_range
theorem asc_reachL {rs : Rows} {h : Nat} : Asc (reachL rs h) := (asc_range _).filter _
theorem asc_nodup {l : List Nat} (h : Asc l) : l.Nodup := h.imp fun x => Nat.ne_of_lt x
/-! ### the search -/
open Classical in
/-- who hears here among the first i houses, and is not found -/
noncomputable def newOf (rs : Rows) (here : Nat) (f : List Nat) (i : Nat) : List Nat := (List.range i).filter fun y => decide (here ∈ row rs y ∧ y ∉ f)
theorem mem_new {rs : Rows} {here : Nat} {f : List Nat} {i y : Nat} : y ∈ newOf rs here f i ↔ y < i ∧ here ∈ row rs y ∧ y ∉ f := by
  unfold newOf
  rw [List.mem_filter, List.mem_range, decide_eq_true_eq]
structure Dfs (rs : Rows) (h : Nat) (f wt : List Nat) : Prop where
  nd : f.Nodup
  mem : h ∈ f
  lt : ∀ x ∈ f, x < rs.length
  re : ∀ x ∈ f, Reach rs h x
  sub : ∀ x ∈ wt, x ∈ f
  cl : ∀ x ∈ f, x ∉ wt → ∀ y, y < rs.length → x ∈ row rs y → y ∈ f
theorem Dfs.start {rs : Rows} {h : Nat} (hh : h < rs.length) : Dfs rs h [h] [h] :=
  ⟨by simp, by simp, by simp [hh], fun x hx => by rw [List.mem_singleton.mp hx]; exact .refl, fun x hx => hx, fun x hx hn => absurd hx hn⟩
theorem Dfs.next {rs : Rows} {h here : Nat} {f wt : List Nat} (D : Dfs rs h f (wt ++ [here])) : Dfs rs h (f ++ newOf rs here f rs.length) (wt ++ newOf rs here f rs.length) := by
  have hf : here ∈ f := D.sub _ (by simp)
  refine ⟨?_, List.mem_append_left _ D.mem, fun x hx => ?_, fun x hx => ?_, fun x hx => ?_, fun x hx hn y hy hxy => ?_⟩
  · refine List.nodup_append.mpr ⟨D.nd, ?_, fun a ha b hb e => ?_⟩
    · unfold newOf; exact List.nodup_range.filter _
    · subst e; exact (mem_new.mp hb).2.2 ha
  · rcases List.mem_append.mp hx with z | z
    · exact D.lt x z
    · exact (mem_new.mp z).1
  · rcases List.mem_append.mp hx with z | z
    · exact D.re x z
    · have q := mem_new.mp z
      exact .step (D.re _ hf) q.1 q.2.1
  · rcases List.mem_append.mp hx with z | z
    · exact List.mem_append_left _ (D.sub x (List.mem_append_left _ z))
    · exact List.mem_append_right _ z
  · rw [List.mem_append, not_or] at hn
    rcases List.mem_append.mp hx with z | z
    · by_cases e : x = here
      · subst e
        by_cases hyf : y ∈ f
        · exact List.mem_append_left _ hyf
        · exact List.mem_append_right _ (mem_new.mpr ⟨hy, hxy, hyf⟩)
      · refine List.mem_append_left _ (D.cl x z (fun w => ?_) y hy hxy)
        rcases List.mem_append.mp w with w | w
        · exact hn.1 w
        · exact e (List.mem_singleton.mp w)
    · exact absurd z hn.2
theorem nodup_len : ∀ (n : Nat) (f : List Nat), f.Nodup → (∀ x ∈ f, x < n) → f.length ≤ n
  | 0, [], _, _ => Nat.le_refl _
  | 0, x :: _, _, h => absurd (h x List.mem_cons_self) (Nat.not_lt_zero _)
  | n + 1, f, h1, h2 => by
    have ih := nodup_len n (f.erase n) (h1.erase n) fun x hx => by
      have q := (List.Nodup.mem_erase_iff h1).mp hx
      have := h2 x q.2
      omega
    rw [List.length_erase] at ih
    split at ih <;> omega
theorem Dfs.len {rs : Rows} {h : Nat} {f wt : List Nat} (D : Dfs rs h f wt) : f.length ≤ rs.length := nodup_len _ _ D.nd D.lt
theorem Dfs.done {rs : Rows} {h : Nat} {f : List Nat} (D : Dfs rs h f []) {x : Nat} : x ∈ f ↔ x ∈ reachL rs h := by
  rw [mem_reachL]
  constructor
  · exact fun hx => ⟨D.lt x hx, D.re x hx⟩
  · rintro ⟨h0, r⟩
    clear h0
    induction r with
    | refl => exact D.mem
    | step r hy hxy ih => exact D.cl _ ih (by simp) _ hy hxy
theorem Dfs.perm {rs : Rows} {h : Nat} {f : List Nat} (D : Dfs rs h f []) : (reachL rs h).Perm f :=
  (List.perm_ext_iff_of_nodup (asc_nodup asc_reachL) D.nd).mpr fun x => D.done.symm
end Ma

/-! Rn: runs over rows of houses. -/
namespace Rs
open PySem PySem.Spec PyProof.Rows L2 SlX StX Ma
variable [Rs.Tabz]
abbrev cI (r : List Nat) : List Int := r.map fun (n : Nat) => (n : Int)
theorem row_int {r : List Nat} : r.map nI = (cI r).map PyData.int := by rw [List.map_map]; rfl
section
variable {K : PySem.W.Frag} {w : World} {σ : L2.St} {F : Hp} {L : Cells} {R : VP} {Rs : List VP} {t : TA} {te ta tb : TE}
theorem r_eqN {i j : Nat} (ha : Run (ta σ) F L (Dt K (nI i))) (hb : Run (tb σ) F L (Dt K (nI j))) : Run (tOp rEq ta tb σ) F L (Dt K (.bool (decide (i = j)))) :=
  r_is (r_eqI ha hb) (congrArg PyData.bool (decide_eq_decide.mpr (by omega)))
theorem r_neN {i j : Nat} (ha : Run (ta σ) F L (Dt K (nI i))) (hb : Run (tb σ) F L (Dt K (nI j))) : Run (tOp rNe ta tb σ) F L (Dt K (.bool (!decide (i = j)))) :=
  r_is (r_neI ha hb) (congrArg (fun b => PyData.bool (!b)) (decide_eq_decide.mpr (by omega)))
theorem r_lnN {α : Type} {f : α → PyData} {xs : List α} (h : Run (t σ) F L (Each [Dt K (.tuple (xs.map f))])) : Run (tCB (rLn K) t σ) F L (Dt K (nI xs.length)) := by
  have q := r_lnTD h
  rwa [List.length_map] at q
theorem pairs_get {ds : List PyData} {i : Nat} {S : VP} (h : (Pairs K (ds.map (Dt K)))[i]? = some S) : ∃ d, ds[i]? = some d ∧ S = Tp K [Dt K (nI i), Dt K d] := by
  unfold Pairs at h
  rw [List.getElem?_mapIdx, List.getElem?_map] at h
  cases e : ds[i]? with
  | none => rw [e] at h; cases h
  | some d =>
    rw [e] at h
    cases h
    exact ⟨d, rfl, rfl⟩
theorem pairs_len {Rs : List VP} : (Pairs K Rs).length = Rs.length := by unfold Pairs; rw [List.length_mapIdx]
end
/-! ### dicts by houses -/
end Rs

/-! Rs8: objects with slots: made, told, asked. -/
namespace Rs
open PySem PySem.Spec PyProof.Rows L2 SlX StX
variable [Rs.Tabz]
/-- the slots is of vs are xs -/
def Got (is : List Nat) (xs : List V) (vs : List (Option V)) : Prop := is.length = xs.length ∧ ∀ (k i : Nat) (x : V), is[k]? = some i → xs[k]? = some x → vs[i]? = some (some x)
theorem got_nil : Got [] [] [] := ⟨rfl, fun k i x h => by cases h⟩
theorem Got.put {is : List Nat} {xs : List V} {vs : List (Option V)} {i : Nat} {x : V} (g : Got is xs vs) (h : i ∉ is) : Got (is ++ [i]) (xs ++ [x]) (putS i x vs) := by
  refine ⟨by rw [List.length_append, List.length_append, g.1]; rfl, fun k j y hk hy => ?_⟩
  by_cases hl : k < is.length
  · rw [List.getElem?_append_left hl] at hk
    rw [List.getElem?_append_left (by rw [← g.1]; exact hl)] at hy
    have hne : j ≠ i := fun z => h (z ▸ List.mem_of_getElem? hk)
    exact (putS_ne hne).mpr (g.2 k j y hk hy)
  · rw [List.getElem?_append_right (by omega)] at hk
    rw [List.getElem?_append_right (by rw [← g.1]; omega)] at hy
    have e0 : k - is.length = 0 := by
      cases z : k - is.length with
      | zero => rfl
      | succ m => rw [z] at hk; cases hk
    rw [e0] at hk
    rw [← g.1, e0] at hy
    cases hk; cases hy
    exact putS_get i x vs
/-- an object of the class at C with slots stands -/
def Ob (C : Addr) (is : List Nat) (Rs : List VP) : VP := fun v F => ∃ a dx vs xs, v = .ref a ∧ F a = some (SlO a C dx vs) ∧ F dx = some (.xd []) ∧ Got is xs vs ∧ Each Rs xs F
instance {C : Addr} {is : List Nat} {Rs : List VP} [MonoL Rs] : Mono (Ob C is Rs) := ⟨fun _ _ _ e ⟨a, dx, vs, xs, h, h1, h2, g, r⟩ => ⟨a, dx, vs, xs, h, e _ _ h1, e _ _ h2, g, MonoL.mono _ _ _ e r⟩⟩
def IsOb (C : Addr) : VP := fun v F => ∃ a dx vs, v = .ref a ∧ F a = some (SlO a C dx vs) ∧ F dx = some (.xd [])
instance {C : Addr} : Mono (IsOb C) := ⟨fun _ _ _ e ⟨a, dx, vs, h, h1, h2⟩ => ⟨a, dx, vs, h, e _ _ h1, e _ _ h2⟩⟩
theorem Ob.is {C : Addr} {is : List Nat} {Rs : List VP} {v : V} {F : Hp} (h : Ob C is Rs v F) : IsOb C v F := by
  obtain ⟨a, dx, vs, xs, h, h1, h2, _⟩ := h
  exact ⟨a, dx, vs, h, h1, h2⟩
theorem at_slt {C a dx : Addr} {vs : List (Option V)} {F H : Hp} {L : Cells} (A : At F L H) (h1 : F a = some (SlO a C dx vs)) (h2 : F dx = some (.xd [])) : Slt H a C dx vs := .inr ⟨A.ex _ _ h1, A.ex _ _ h2⟩
/-- a slot of the text -/
def SlF (K : PySem.W.Frag) (C : Addr) (f : Str) (i : Nat) : Prop := SCls K C ∧ ∃ p, Slot1 K C f p i
section
variable {K : PySem.W.Frag} {σ : L2.St} {F : Hp} {L : Cells} {Nx : L2.St → Hp → Cells → Prop} {Rt R : VP} {Rs : List VP} {t u : TS} {ta tv te : TE} {tt : TA} {C : Addr} {is : List Nat} {f : Str} {i : Nat} {E : XK}
theorem r_fld [MonoL Rs] {k : Nat} (s : SlF K C f i) (h : Run (ta σ) F L (Ob C is Rs)) (hk : is[k]? = some i) (hR : Rs[k]? = some R) : Run (tSl K ta f σ) F L R := fun F1 N H e A Q q => by
  refine h F1 N H e A _ fun v F2 H2 e2 A2 hv => ?_
  obtain ⟨a, dx, vs, xs, rfl, h1, h2, g, r⟩ := hv
  obtain ⟨sc, p, sp⟩ := s
  have hl : k < xs.length := by rw [← g.1]; exact (List.getElem?_eq_some_iff.mp hk).1
  obtain ⟨R', hR', hx⟩ := each_at r (List.getElem?_eq_getElem hl)
  rw [hR] at hR'
  cases hR'
  exact ⟨a, C, dx, p, vs, i, xs[k], rfl, at_slt A2 h1 h2, sc, sp, g.2 k i _ hk (List.getElem?_eq_getElem hl), q _ F2 H2 e2 A2 hx⟩
inductive SCell (a C dx : Addr) : List (Option V) → HO → HO → Prop
  | new : SCell a C dx [] (.ins C dx []) (.own a)
  | old (vs : List (Option V)) : SCell a C dx vs (SlO a C dx vs) (.xd [])
theorem SCell.slt {a C dx : Addr} {vs : List (Option V)} {o o2 : HO} {H : Hp} (c : SCell a C dx vs o o2) (h1 : H a = some o) (h2 : H dx = some o2) : Slt H a C dx vs := by
  cases c with
  | new => exact .inl ⟨h1, rfl⟩
  | old => exact .inr ⟨h1, h2⟩
theorem s_slset [Mono R] {a dx : Addr} {vs : List (Option V)} {o o2 : HO} (s : SlF K C f i) (hc : SCell a C dx vs o o2) (ho : Run (ta σ) F ((a, o) :: (dx, o2) :: L) (Eqv (.ref a))) (hv : Run (tv σ) F ((a, o) :: (dx, o2) :: L) R)
    (k : ∀ v F1, Same F F1 → R v F1 → Nx σ F1 ((a, SlO a C dx (putS i v vs)) :: (dx, .xd []) :: L)) : RunS (sSl K ta tv f) σ F ((a, o) :: (dx, o2) :: L) Nx Rt := fun F1 N H e A D q r => by
  refine hv F1 N H e A _ fun v F2 H2 e2 A2 hv => ?_
  refine (ho.up (e.trans e2)) F2 N H2 (Same.refl _) A2 _ fun x F3 H3 e3 A3 hx => ?_
  obtain rfl : x = .ref a := hx
  obtain ⟨sc, p, sp⟩ := s
  refine ⟨a, C, dx, p, vs, i, rfl, hc.slt (A3.on _ List.mem_cons_self) (A3.on _ (List.mem_cons_of_mem _ List.mem_cons_self)), sc, sp, ?_⟩
  have A4 : At F3 ((a, SlO a C dx (putS i v vs)) :: (dx, .xd []) :: (L ++ N)) (slH H3 a C dx (putS i v vs)) := At.put (((A3.perm (List.Perm.swap _ _ _)).put (u := .xd [])).perm (List.Perm.swap _ _ _)) (by intro _ z; unfold SlO at z; nomatch z) (by intro _ z; unfold SlO at z; nomatch z) (fun c q => codeT_ne fun h ⟨sl, h1, _⟩ => ⟨_, _, h1, fun vs z => by cases z⟩)
  exact q σ F3 _ _ (e2.trans e3) A4 (k v F3 (e.trans (e2.trans e3)) (Mono.go hv e3))
theorem q_slset [Mono R] {a dx : Addr} {vs : List (Option V)} {o o2 : HO} (s : SlF K C f i) (hc : SCell a C dx vs o o2) (ho : Run (ta σ) F ((a, o) :: (dx, o2) :: L) (Eqv (.ref a))) (hv : Run (tv σ) F ((a, o) :: (dx, o2) :: L) R)
    (k : ∀ v F1, Same F F1 → R v F1 → RunS u σ F1 ((a, SlO a C dx (putS i v vs)) :: (dx, .xd []) :: L) Nx Rt) : RunS (tSeq (sSl K ta tv f) u) σ F ((a, o) :: (dx, o2) :: L) Nx Rt :=
  s_seq (Mid := fun σ' F' L' => ∃ v, σ' = σ ∧ R v F' ∧ L' = (a, SlO a C dx (putS i v vs)) :: (dx, .xd []) :: L) (s_slset s hc ho hv fun v F1 e hr => ⟨v, rfl, hr, rfl⟩) fun σ' F' L' e ⟨v, h1, h2, h3⟩ => by
    subst h1; subst h3; exact k v F' e h2
/-! made -/
def SpI {γ : Type} (C : Addr) (pre : γ → Prop) (Rs : γ → List VP) (R : γ → VP) : Sp := fun vs H Q _ => ∃ g F N a dx ws, vs = .ref a :: ws ∧ pre g ∧ At F ((a, .ins C dx []) :: (dx, .own a) :: N) H ∧ Each (Rs g) ws F ∧ ∀ F' H', Same F F' → At F' N H' → R g (.ref a) F' → Q .non H'
theorem r_mk {γ : Type} {pre : γ → Prop} {Rs : γ → List VP} {R : γ → VP} (g : γ) (hp : pre g) [MonoL (Rs g)] (h : Run (tt σ) F L (Each (Rs g))) : Run (tMake C (SpI C pre Rs R) [] E tt σ) F L (R g) := run_bind (k := tt σ) h fun vs F1 e1 hv => fun F2 N H e2 A Q q x dx h1 h2 h3 => by
  rw [List.append_nil]
  refine ⟨g, F2, L ++ N, x, dx, vs, rfl, hp, ?_, MonoL.mono _ _ _ e2 hv, fun F' H' e' A' hr => ⟨rfl, q _ F' H' e' A' hr⟩⟩
  refine (A.cell (o := .own x) h2).cell (o := .ins C dx []) (a := x) ?_
  rw [upd_ne h3.symm]; exact h1
end
structure MkF (P : Program) (w : World) (K : PySem.W.Frag) (mg : Str → Option Value) (base : Heap) (k : Nat) (x : Str) (C : Addr) (sp : Sp) : Prop where
  ex : ∃ f fd ps, Mk K C f ∧ FnOk P w K mg base CX0 k f fd ps sp ∧ mg x = some (.ref C) ∧ Binds K fd ps []
section
variable {X : Cx} {e o : Expr} {es : List Expr} {t : TA} {ta : TE} {p pos apos : Pos} {f x m : Str}
theorem p_mk {k j : Nat} {C : Addr} {sp : Sp} (c : MkF X.prog X.w X.K X.mg X.base k x C sp) (hr : Room j X.A) (hk : k + 1 ≤ j) (ha : PA X (e :: es) t) (hg : Gl X x := by rfl)
    (hdb : (x == ("__debug__" : Str)) = false := by decide) (he : starEach (e :: es) X.env = (false, eval e X.env) :: starEach es X.env := by rfl) (hpl : (backTo pos (starEach es X.env)).any (·.1) = false := by rfl) :
    PE X (.Call (.Name x p) (e :: es) [] pos) (tMake C sp [] E0 t) := by
  obtain ⟨f, fd, ps, M, F, hm, b⟩ := c.ex
  exact pe_make M F (hr.mono hk) hg hm b .nil pass0 ha hdb he hpl
end
section
variable {P : Program} {w : World} {K : PySem.W.Frag} {mg : Str → Option Value} {base : Heap}
theorem init_ok {x qual : Str} {st : Stmt} {f C : Addr} {fd : FuncData} {N ps : List Str} {k : Nat} {γ : Type} {pre : γ → Prop} {Rs : γ → List VP} {R : γ → VP} (F : Fun K x qual st f fd) (S : FnScope N ps (defScope st)) (len : ∀ g, (Rs g).length + 1 = ps.length)
    (body : ∀ (cdv : Value) (A : Around) (outer : List Env) (s : Shared) (H : Hp) (E : XK) (g : γ) (a dx : Addr) (vs : List V) (F0 : Hp), Room k (A.deeper (envOfC qual (defScope st) s.heap.objs.size f cdv)) → pre g → Each (Rs g) vs F0 →
      ∃ t, PSs (cxOf CX0 P w K mg base N qual (defScope st) f cdv A outer s H E).nox (defBody st) t ∧ RunS t (start N (.ref a :: vs)) F0 [(a, .ins C dx []), (dx, .own a)] (fun _ F' L' => ∃ o o2, L' = [(a, o), (dx, o2)] ∧ ∀ F2, Same F' F2 → F2 a = some o → F2 dx = some o2 → R g (.ref a) F2) (fun _ _ => False)) :
    FnOk P w K mg base CX0 (k + 1) f fd ps (SpI C pre Rs R) := by
  refine F.ok S (fun vs H Q E ⟨g, F0, N0, a, dx, ws, e, hp, A, hv, q⟩ => ?_) fun cdv A outer s H vs Q E hr ⟨g, F0, N0, a, dx, ws, e, hp, A0, hv, q⟩ => ?_
  · subst e
    rw [List.length_cons, each_length hv]; exact len g
  · subst e
    obtain ⟨t, h1, h2⟩ := body cdv A outer s H E g a dx ws F0 hr hp hv
    refine ⟨t, h1, h2 F0 N0 H (Same.refl _) A0 _ (fun _ F' L' H' e' A' n => ?_) fun v F' H' e' A' r => r.elim⟩
    obtain ⟨o, o2, rfl, n⟩ := n
    have A1 : At (upd F' a o) ((dx, o2) :: N0) H' := At.keep A'
    have A2 : At (upd (upd F' a o) dx o2) N0 H' := At.keep A1
    have hne : a ≠ dx := fun z => by
      have := A1.off1
      rw [z, upd_same] at this; cases this
    have s1 : Same F' (upd (upd F' a o) dx o2) := (same_new A'.off1).trans (same_new A1.off1)
    exact q _ H' (e'.trans s1) A2 (n _ s1 (by rw [upd_ne hne, upd_same]) upd_same)
/-- by values alone -/
theorem fnr_mk {f : Addr} {fd : FuncData} {ps : List Str} {k : Nat} {sp : Sp} (G : FnOk P w K mg base CX0 k f fd ps sp) (b : Binds K fd ps []) : FnR P w K mg base CX0 k f sp :=
  (G.raw b .nil).imp fun vs H Q E h => by rw [List.append_nil]; exact h
end
section
variable {K : PySem.W.Frag} {σ : L2.St} {F : Hp} {L : Cells} {γ : Type} {pre : γ → Prop} {Rs : γ → List VP} {R : γ → VP} {S : VP} {Ss : List VP} {ta : TE} {tt : TA} {C : Addr} {E : XK}
end
end Rs

/-! Rs9: a comprehension of two fors. -/
namespace Rs
open PySem PySem.Spec PyProof.Rows L2 SlX StX
variable [Rs.Tabz]
def flat {ι κ : Type} (ys : ι → List κ) (xs : List ι) : List (ι × κ) := xs.flatMap fun x => (ys x).map fun y => (x, y)
section
variable {K : PySem.W.Frag} {σ : L2.St} {F : Hp} {L : Cells} {wi wi1 : TI} {g g1 : TG} {te : TE} {vs vs1 : List Nat}
end
end Rs

/-! Rw: what a web is. -/
namespace Rs
open PySem PySem.Spec PyProof.Rows L2 SlX StX Ma
variable [Rs.Tabz]
noncomputable def reachs (rs : Rows) : Rows := (List.range rs.length).map (reachL rs)
noncomputable def rootsN (rs : Rows) : List Nat := (List.range rs.length).filter fun h => decide ((reachL rs h).length = rs.length)
def pairsN (rs : Rows) : List (Nat × Nat) := (flat (fun p : List Nat × Nat => p.1) rs.zipIdx).map fun q => (q.1.2, q.2)
abbrev dPair (p : Nat × Nat) : PyData := .tuple [nI p.1, nI p.2]
abbrev wIx : List Nat := [0, 4, 2, 3, 1]
noncomputable def webVs (K : PySem.W.Frag) (rs : Rows) : List VP := [Dt K (dRows rs), Dt K (nI rs.length), Dt K (dRows (reachs rs)), Dt K (dRow (rootsN rs)), Dt K (.tuple ((pairsN rs).map dPair))]
instance {K : PySem.W.Frag} {rs : Rows} : MonoL (webVs K rs) := by unfold webVs; infer_instance
noncomputable def webP (C : Addr) (K : PySem.W.Frag) (rs : Rows) : VP := fun v F => Ok rs ∧ Ob C wIx (webVs K rs) v F
instance {C : Addr} {K : PySem.W.Frag} {rs : Rows} : Mono (webP C K rs) := ⟨fun _ _ _ e h => ⟨h.1, Mono.go h.2 e⟩⟩
section
variable {K : PySem.W.Frag} {w : World} {σ : L2.St} {F : Hp} {L : Cells} {R : VP} {Rs : List VP} {t : TA} {te ta tb : TE} {C : Addr} {rs : Rows}
theorem i_rangeN {n : Nat} (h : Run (te σ) F L (Dt K (nI n))) (hn : n ≤ 1000) : Run (iRng1 (tCons te tNil) σ) F L (fun J F1 => Seqs J ((List.range n).map fun i => Dt K (nI i)) F1) :=
  i_range (n := (n : Int)) (r_cons h r_nil) (by omega) (by omega)
theorem i_lstN {α : Type} {f : α → PyData} {xs : List α} (h : Run (te σ) F L (Dt K (.list (xs.map f)))) : Run (iList K te σ) F L (fun J F1 => Seqs J (xs.map fun x => Dt K (f x)) F1) :=
  i_lst (h.weak fun v F1 e hv => by have := ls_dt.mpr hv; rwa [List.map_map] at this)
/-! what a web tells -/
theorem webP.is {v : V} {F : Hp} (h : webP C K rs v F) : IsOb C v F := h.2.is
end
end Rs

/-! RsK: the words with K told, for blocks within a block. -/
namespace Rs
open PySem PySem.Spec PyProof.Rows L2 SlX StX
variable [Rs.Tabz]
section
variable {X : Cx} {e o : Expr} {es : List Expr} {ta te : TE} {t : TA} {p pos apos : Pos} {f m x : Str} {tg l : Expr}

theorem p_lenK (K : PySem.W.Frag) (B : Bf X.mg) (ha : PA X (e :: es) t) (hg : Gl X "len" := by rfl) (he : starEach (e :: es) X.env = (false, eval e X.env) :: starEach es X.env := by rfl) (hpl : (backTo pos (starEach es X.env)).any (·.1) = false := by rfl) (hK : X.K = K := by rfl) :
    PE X (.Call (.Name "len" p) (e :: es) [] pos) (tCB (rLn K) t) := by
  subst hK; exact p_len B ha hg he hpl

end
end Rs

/-! RsT: tuple * int, once too. -/
namespace L2
open PySem PySem.Spec PyProof.Rows
variable [Rs.Tabz]
theorem tuple_mul1 (l : Addr) (items : Array Value) (n : Nat) (dd : Option Addr) (sl : Array (Option Value)) (u : Tok) :
    Meets (Builtin.«tuple.__mul__» ⟨[.ref l, .int 1 u], []⟩) (fun _ R s => s.heap.get? l = some { cls := .type "tuple", dict := dd, data := .seq items n, slots := sl } ∧
      ∀ tk, R (.ok (.ret (Value.ref l))) { s with toks := tk }) :=
  .of_wp fun prog w A R s h => by
    obtain ⟨hp, g, d, tk, os⟩ := s
    obtain ⟨hl, h⟩ := h
    have f1 := AutoSeq1.idx_int
    wp_walk using wpAny_loadPart' hl
    repeat (first
      | exact ⟨_, rfl, h _⟩
      | (refine wpAny_ite_false (by decide) ?_; wp_walk using wpAny_loadPart' hl)
      | (refine wpAny_ite_true (by simp) ?_; wp_walk using wpAny_loadPart' hl))
def rRep1 (K : PySem.W.Frag) : R2 := fun x y H Q => ∃ l xs, x = .ref l ∧ y = .int 1 ∧ SqT K H l xs ∧ Q (.ref l) H
section
variable {X : Cx}
theorem op_rep1 : OpR X (binaryOp .Mult) (rRep1 X.K) := by
  intro pins s σ H x y v u Q I rx ry h
  obtain ⟨l, xs, rfl, rfl, hT, q⟩ := h
  cases rx
  obtain ⟨t, rfl⟩ := ry
  obtain ⟨its, r, ⟨⟨cls, dd, data, sl⟩, ho, hc, n, hd⟩, hs⟩ := I.tuple hT
  simp only at hc hd
  subst hc hd
  refine wpAny_binaryOp_repeat_ref (T := "tuple") (U := "int") (by decide) ⟨_, ho, rfl⟩ (fun s' => typeIs_int s' 1 t) noFill_tuple_mul F.fills_int_mul F.slot_int_rmul repeat_tuple F.slot_int_index.lookup
    (call_meets F.slot_int_rmul (typeIs_int s 1 t) F.entry_int_rmul (F.args_int_rmul_2 _ _) (int_rmul_tuple 1 t l its.toArray n dd sl)
      ⟨ho, rfl, ⟨_, ho, rfl⟩, call_meets F.slot_tuple_mul ⟨_, ho, rfl⟩ F.entry_tuple_mul (F.args_tuple_mul_2 _ _) (tuple_mul1 l its.toArray n dd sl t) ⟨ho, fun tk => ?_⟩⟩)
  exact ⟨.ref l, H, I.tok _, rfl, q⟩
def rRepTA (K : PySem.W.Frag) : R2 := fun x y H Q => rRepT K x y H Q ∨ rRep1 K x y H Q
theorem op_repTA : OpR X (binaryOp .Mult) (rRepTA X.K) := fun pins s σ H x y v u Q I rx ry h => h.elim (op_repT pins s σ H x y v u Q I rx ry) (op_rep1 pins s σ H x y v u Q I rx ry)
end
end L2
namespace Rs
open PySem PySem.Spec PyProof.Rows L2 SlX StX
variable [Rs.Tabz]
section
variable {K : PySem.W.Frag} {σ : L2.St} {F : Hp} {L : Cells} {ta tb : TE}
theorem rep_flat {α : Type} {k : Nat} {x : α} : (List.replicate k [x]).flatten = List.replicate k x := by
  induction k with
  | zero => rfl
  | succ k ih => rw [List.replicate_succ, List.flatten_cons, ih]; rfl
/-- (x,) * k -/
theorem r_rep1 {d : PyData} {k : Nat} (ha : Run (ta σ) F L (Dt K (.tuple [d]))) (hb : Run (tb σ) F L (Dt K (.int (k : Nat)))) (h1 : 1 ≤ k) (h2 : k ≤ 1000) : Run (tOp (rRepTA K) ta tb σ) F L (Dt K (.tuple (List.replicate k d))) :=
  r_op ha hb fun x y F1 e hx hy => by
    cases hy
    obtain ⟨a, vs, rfl, hs, hr⟩ := tp_dt.mpr hx
    obtain ⟨v, rfl, hv⟩ := each1 hr
    by_cases hk : k = 1
    · subst hk
      refine fun F2 N H e2 A Q q => .inr ⟨a, [v], rfl, rfl, sqT_up (e2.trans A.ex) hs, q _ F2 H (Same.refl _) A (dp_up e2 hx)⟩
    · refine fun F2 N H e2 A Q q => .inl ⟨a, (k : Int), [v], rfl, rfl, sqT_up (e2.trans A.ex) hs, by simp, by omega, by omega, by simp, fun p hp => q _ (upd F2 p _) _ (same_new (A.free hp)) (A.new hp) ?_⟩
      refine tp_dt.mp ⟨p, List.replicate k v, rfl, .inl ?_, ?_⟩
      · exact .inl (by rw [upd_same, Int.toNat_natCast, rep_flat])
      · have hv' := dp_up (e2.trans (same_new (o := .tup (List.replicate (k : Int).toNat [v]).flatten) (A.free hp))) hv
        have : ∀ m : Nat, Each ((List.replicate m d).map (Dt K)) (List.replicate m v) (upd F2 p (.tup (List.replicate (k : Int).toNat [v]).flatten)) := by
          intro m
          induction m with
          | zero => exact True.intro
          | succ m ih => exact ⟨hv', ih⟩
        exact this k
end
end Rs

/-! Mb: rounds one behind the other. -/
namespace Ma
open PySem Rs
/-- whom h hears, with itself -/
def hbL (rs : Rows) (h : Nat) : List Nat := (List.range rs.length).filter fun x => decide (x ∈ row rs h ∨ x = h)
/-- what is told to h by qs and, before, by rs -/
def toldL (rs qs : Rows) (h : Nat) : List Nat := (flat (fun near => hbL rs near) (hbL qs h)).map (·.2)
def allL (rs qs : Rows) (h : Nat) : List Nat := (List.range rs.length).filter fun x => decide (x ∈ toldL rs qs h)
def thenRow (rs qs : Rows) (h : Nat) : List Nat := (allL rs qs h).filter fun x => !decide (x = h)
/-- rs and then qs -/
def thenR (rs qs : Rows) : Rows := (List.range rs.length).map (thenRow rs qs)
theorem then_len {rs qs : Rows} : (thenR rs qs).length = rs.length := by unfold thenR; rw [List.length_map, List.length_range]
end Ma

/-! RsD: dicts by tuples of ints: put, sorted. -/
namespace L2
open PySem PySem.Spec PyProof.Rows
variable [Rs.Tabz]
section
variable {X : Cx}
end
end L2

/-! RsE: runs over dicts by tuples of ints. -/
namespace Rs
open PySem PySem.Spec PyProof.Rows L2 SlX StX Ma
variable [Rs.Tabz]
section
variable {X : Cx} {e : Expr} {es : List Expr} {t : TA} {p pos : Pos}
end
/-- a tuple that stands as .tup -/
def Tn (Rs : List VP) : VP := fun v F => ∃ a vs, v = .ref a ∧ F a = some (.tup vs) ∧ Each Rs vs F
instance {Rs : List VP} [MonoL Rs] : Mono (Tn Rs) := ⟨fun _ _ _ e ⟨a, vs, h, s, r⟩ => ⟨a, vs, h, e _ _ s, MonoL.mono _ _ _ e r⟩⟩
section
variable {K : PySem.W.Frag} {σ : L2.St} {F : Hp} {L : Cells} {R : VP} {Rs : List VP} {t : TA} {te ty td tv : TE} {Nx : L2.St → Hp → Cells → Prop} {Rt : VP} {u : TS}
theorem Tn.tp {v : V} {F : Hp} (h : Tn Rs v F) : Tp K Rs v F := by
  obtain ⟨a, vs, rfl, h1, h2⟩ := h
  exact ⟨a, vs, rfl, .inl (.inl h1), h2⟩
end
end Rs

/-! RsC: a list of ints that is written by callees, told as a thing that stays. -/
namespace Rs
open PySem PySem.Spec PyProof.Rows L2 SlX StX Ma
variable [Rs.Tabz]
/-- a list of n whole numbers, whichever -/
def ckO (n : Nat) (a : Addr) : HO := .ext fun h => ∃ (xs : List Int) (its : List Value) (c : Nat), xs.length = n ∧ Vals (xs.map V.int) its ∧ h.get? a = some { cls := .type "list", data := .seq its.toArray c }
def Ck (n : Nat) : VP := fun v F => ∃ a, v = .ref a ∧ F a = some (ckO n a)
instance {n : Nat} : Mono (Ck n) := ⟨fun _ _ _ e ⟨a, h, h1⟩ => ⟨a, h, e _ _ h1⟩⟩
section
variable {P : Program} {w : World} {K : PySem.W.Frag} {mg : Str → Option Value} {base : Heap} {A : Around} {outer : List Env} {s s' : Shared} {H H' : Hp} {a : Addr} {n : Nat}
theorem ck_open {h : Heap} (ok : HOk P w H h) (ha : H a = some (ckO n a)) (hn : n ≤ 1000) : ∃ xs : List Int, xs.length = n ∧ HOk P w (upd H a (.lst (xs.map V.int))) h := by
  obtain ⟨⟨xs, its, c, h1, h2, h3⟩, _⟩ := ok a _ ha
  refine ⟨xs, h1, ok.write (by rw [ha]; exact True.intro) (.inl rfl) (fun b u _ e => e) ⟨_, h3⟩ ⟨by rw [List.length_map, sizeLine_eq]; omega, its, c, h2, h3⟩⟩
theorem ck_shut {h : Heap} {xs : List Int} (ok : HOk P w H h) (ha : H a = some (.lst (xs.map V.int))) (hn : xs.length = n) : HOk P w (upd H a (ckO n a)) h := by
  obtain ⟨_, its, c, h2, h3⟩ := ok a _ ha
  refine ok.write (by rw [ha]; exact True.intro) (.inl rfl) (fun b u _ e => e) ⟨_, h3⟩ ⟨⟨xs, its, c, hn, h2, h3⟩, ⟨_, h3⟩, fun h1 h2 ⟨xs, its, c, q1, q2, q3⟩ st => ⟨xs, its, c, q1, q2, st _ q3⟩⟩
theorem un_same {fs : List Addr} {o : HO} {h : Heap} {u : Obj} (mu : Mut (H a)) (hu : h.get? a = some u) : Un fs [] H (upd H a o) h h := Un.write mu (.inl rfl) (fun b u _ e => e) ⟨_, hu⟩
theorem lst_at {h : Heap} {xs : List V} (ok : HOk P w H h) (ha : H a = some (.lst xs)) : ∃ u, h.get? a = some u := by
  obtain ⟨_, its, c, h2, h3⟩ := ok a _ ha
  exact ⟨_, h3⟩
theorem ck_at {h : Heap} (ok : HOk P w H h) (ha : H a = some (ckO n a)) : ∃ u, h.get? a = some u := by
  obtain ⟨_, h3, _⟩ := ok a _ ha
  exact h3
theorem env_cast {o : HO} (e : Env0 P w K mg base A outer s H) (ha : H a ≠ none) (ok : HOk P w (upd H a o) s.heap) : Env0 P w K mg base A outer s (upd H a o) :=
  ⟨e.frames, e.mod, fun b ob q => ⟨(e.bs b ob q).1, by
    have h1 := (e.bs b ob q).2
    rw [upd_ne (fun z : b = a => ha (by rw [← z]; exact h1))]; exact h1⟩, e.bsz, e.funs, fun b hb => by
    have h1 := e.frf b hb
    rw [upd_ne (fun z : b = a => ha (by rw [← z]; exact h1))]; exact h1, ok, e.bare⟩
theorem cr_cast {Q Q' : VK} {E : XK} {H0 : Hp} {r : Result} (u0 : Un (frs outer) [] H H0 s.heap s.heap) (h : CR CX0 outer P w H0 s Q' E r s') (c : ∀ v H', HOk P w H' s'.heap → Q' v H' → ∃ H'', Un (frs outer) [] H' H'' s'.heap s'.heap ∧ HOk P w H'' s'.heap ∧ Q v H'') :
    CR CX0 outer P w H s Q E r s' := by
  cases r with
  | error e => exact (show False from h).elim
  | ok fl =>
    cases fl with
    | ret u =>
      obtain ⟨v, H', e1, e2, e3, e4, e5, e6⟩ := h
      obtain ⟨H'', f1, f2, f3⟩ := c v H' e4 e6
      exact ⟨v, H'', e1, e2, (u0.trans e3).trans f1, f2, e5, f3⟩
    | next => exact h
    | brk => exact h
    | cont => exact h
/-- a def that writes to its first argument, a list of ints of one's own -/
def SpC {γ : Type} (n : Nat) (pre : γ → Prop) (Rs : γ → List VP) (R : γ → VP) : Sp := fun vs H Q _ => ∃ (g : γ) (F : Hp) (N : Cells) (a : Addr) (xs : List Int) (ws : List V), vs = .ref a :: ws ∧ pre g ∧ xs.length = n ∧ At F ((a, .lst (xs.map V.int)) :: N) H ∧ Each (Rs g) ws F ∧
  ∀ v F' H' (xs' : List Int), xs'.length = n → Same F F' → At F' ((a, .lst (xs'.map V.int)) :: N) H' → R g v F' → Q v H'
def del (F : Hp) (a : Addr) : Hp := fun b => if b = a then none else F b
theorem ck_fn {γ : Type} {pre : γ → Prop} {Rs : γ → List VP} {R : γ → VP} {k : Nat} {f : Addr} {fd : FuncData} {ps : List Str} (hn : n ≤ 1000) (hR : ∀ g v F F', R g v F → R g v F') (hRs : ∀ g vs F F', Each (Rs g) vs F → Each (Rs g) vs F')
    (G : FnOk P w K mg base CX0 k f fd ps (SpC n pre Rs R)) (len : ∀ g, (Rs g).length + 1 = ps.length) : FnOk P w K mg base CX0 k f fd ps (SpF pre (fun g => Ck n :: Rs g) R) := by
  refine ⟨fun vs H Q E ⟨g, F0, N0, hp, A, hv, q⟩ => (each_length hv).trans (len g), fun A outer s H args us vs Q E hr e0 hb r hs => ?_⟩
  obtain ⟨g, F, N, hp, hA, hv, q⟩ := hs
  obtain ⟨v, ws, rfl, ⟨a, rfl, ha⟩, hw⟩ := each_cons hv
  have hHa : H a = some (ckO n a) := hA.ex _ _ ha
  obtain ⟨xs, hx, ok1⟩ := ck_open e0.hok hHa hn
  have e1 : Env0 P w K mg base A outer s (upd H a (.lst (xs.map V.int))) := env_cast e0 (by rw [hHa]; intro z; cases z) ok1
  obtain ⟨u, hu⟩ := ck_at e0.hok hHa
  have Nne : ∀ p ∈ N, p.1 ≠ a := fun p hm z => by
    have h1 := hA.off p hm
    rw [z, ha] at h1; cases h1
  refine codeAny_mono (G.run A outer s _ args us _ (fun v H' => ∃ (F' : Hp) (xs' : List Int), xs'.length = n ∧ Same (del F a) F' ∧ At F' ((a, .lst (xs'.map V.int)) :: N) H' ∧ R g v F') E hr e1 hb r
    ⟨g, del F a, N, a, xs, ws, rfl, hp, hx, ?_, hRs g ws F _ hw, fun v F' H' xs' h1 h2 h3 h4 => ⟨F', xs', h1, h2, h3, h4⟩⟩) fun r s' hq => cr_cast (un_same (by rw [hHa]; exact True.intro) hu) hq fun v H' ok' ⟨F', xs', h1, h2, h3, h4⟩ => ?_
  · have nT : ∀ P, Tabz.ts P → P ≠ a := fun P hP => hA.notT hP (.inr ⟨_, hHa, fun ps q => by unfold ckO at q; nomatch q⟩)
    refine ⟨fun b o eb => ?_, fun p hm => ?_, fun p hm => ?_, ?_, fun p hm => ?_, fun p hm => ?_, fun p hm => ?_, (hA.tb.upd nT).up fun c q hc => ?_, fun P hP => by unfold del; rw [if_neg (nT P hP)]; exact hA.ft P hP⟩
    · unfold del at eb
      split at eb
      · cases eb
      · rename_i hne
        rw [upd_ne hne]; exact hA.ex _ _ eb
    · rcases List.mem_cons.mp hm with rfl | hm
      · exact upd_same
      · rw [upd_ne (Nne p hm)]; exact hA.on p hm
    · rcases List.mem_cons.mp hm with rfl | hm
      · unfold del; rw [if_pos rfl]
      · unfold del; rw [if_neg (Nne p hm)]; exact hA.off p hm
    · rw [List.map_cons, List.nodup_cons]
      refine ⟨fun z => ?_, hA.nd⟩
      obtain ⟨p, hm, e⟩ := List.mem_map.mp z
      exact Nne p hm e
    · rcases List.mem_cons.mp hm with rfl | hm
      · intro ys z; nomatch z
      · exact hA.nt p hm
    · rcases List.mem_cons.mp hm with rfl | hm
      · intro ys z; nomatch z
      · exact hA.nb p hm
    · rcases List.mem_cons.mp hm with rfl | hm
      · intro c q z; nomatch z
      · exact hA.nc p hm
    · have hne : c ≠ a := fun z => by
        subst z
        rw [ha] at hc
        exact codeT_ne (fun h ⟨xs, its, n, _, _, h1⟩ => ⟨_, _, h1, fun vs z => by cases z⟩) (Option.some.inj hc)
      show (if c = a then none else F c) = _
      rw [if_neg hne]; exact hc
  · have hH' : H' a = some (.lst (xs'.map V.int)) := h3.on1
    obtain ⟨u', hu'⟩ := lst_at ok' hH'
    refine ⟨upd H' a (ckO n a), un_same (by rw [hH']; exact True.intro) hu', ck_shut ok' hH' h1, ?_⟩
    have A4 : At (upd F' a (ckO n a)) N (upd H' a (ckO n a)) := At.swap (u := ckO n a) h3 (by intro ys z; unfold ckO at z; nomatch z)
    refine q v (upd F' a (ckO n a)) _ (fun b o eb => ?_) A4 (hR g v F' _ h4)
    by_cases hba : b = a
    · subst hba; rw [upd_same, ← ha]; exact eb
    · rw [upd_ne hba]
      refine h2 b o ?_
      unfold del; rw [if_neg hba]; exact eb
/-- a def that hands out a new list of ints -/
theorem ck_new {γ : Type} {pre : γ → Prop} {Rs : γ → List VP} {k : Nat} {x qual : Str} {st : Stmt} {f : Addr} {fd : FuncData} {N ps : List Str} (F : Fun K x qual st f fd) (S : FnScope N ps (defScope st)) (len : ∀ g, (Rs g).length = ps.length)
    (body : ∀ (cdv : Value) (A : Around) (outer : List Env) (s : Shared) (H : Hp) (E : XK) (g : γ) (vs : List V) (F0 : Hp), Room k (A.deeper (envOfC qual (defScope st) s.heap.objs.size f cdv)) → pre g → Each (Rs g) vs F0 →
      ∃ t, PSs (cxOf CX0 P w K mg base N qual (defScope st) f cdv A outer s H E).nox (defBody st) t ∧ RunS t (start N vs) F0 [] (fun _ _ _ => False) (fun v F' => ∃ (a : Addr) (xs : List Int), v = .ref a ∧ F' a = some (.lst (xs.map V.int)) ∧ xs.length = n ∧ F0 a = none)) :
    FnOk P w K mg base CX0 (k + 1) f fd ps (SpF pre Rs (fun _ => Ck n)) := by
  have G : FnOk P w K mg base CX0 (k + 1) f fd ps (fun vs H Q _ => ∃ g F N, pre g ∧ At F N H ∧ Each (Rs g) vs F ∧ ∀ v F' H', Same F F' → At F' N H' → (∃ (a : Addr) (xs : List Int), v = .ref a ∧ F' a = some (.lst (xs.map V.int)) ∧ xs.length = n ∧ F a = none) → Q v H') := by
    refine F.ok S (fun vs H Q E ⟨g, F0, N0, hp, A, hv, q⟩ => (each_length hv).trans (len g)) fun cdv A outer s H vs Q E hr ⟨g, F0, N0, hp, A0, hv, q⟩ => ?_
    obtain ⟨t, h1, h2⟩ := body cdv A outer s H E g vs F0 hr hp hv
    exact ⟨t, h1, h2 F0 N0 H (Same.refl _) A0 _ (fun _ F' L' H' e' A' n => n.elim) fun v F' H' e' A' r => q v F' H' e' A' r⟩
  refine ⟨fun vs H Q E ⟨g, F0, N0, hp, A, hv, q⟩ => (each_length hv).trans (len g), fun A outer s H args us vs Q E hr e0 hb r hs => ?_⟩
  obtain ⟨g, F, N, hp, hA, hv, q⟩ := hs
  refine codeAny_mono (G.run A outer s _ args us _ (fun v H' => ∃ (F' : Hp) (a : Addr) (xs : List Int), v = .ref a ∧ Same F F' ∧ At F' N H' ∧ F' a = some (.lst (xs.map V.int)) ∧ xs.length = n ∧ F a = none) E hr e0 hb r
    ⟨g, F, N, hp, hA, hv, fun v F' H' h1 h2 ⟨a, xs, h3, h4, h5, h6⟩ => ⟨F', a, xs, h3, h1, h2, h4, h5, h6⟩⟩) fun r s' hq => cr_cast (Un.refl) hq fun v H' ok' ⟨F', a, xs, h3, h1, h2, h4, h5, h6⟩ => ?_
  have hH' : H' a = some (.lst (xs.map V.int)) := h2.ex _ _ h4
  obtain ⟨u', hu'⟩ := lst_at ok' hH'
  subst h3
  refine ⟨upd H' a (ckO n a), un_same (by rw [hH']; exact True.intro) hu', ck_shut ok' hH' h5, q (.ref a) (upd F' a (ckO n a)) _ (fun b o eb => ?_) ?_ ⟨a, rfl, upd_same⟩⟩
  · rw [upd_ne (fun z => by rw [z, h6] at eb; cases eb)]; exact h1 b o eb
  · have Nne : ∀ p ∈ N, p.1 ≠ a := fun p hm z => by
      have := h2.off p hm
      rw [z, h4] at this; cases this
    refine ⟨fun b o eb => ?_, fun p hm => by rw [upd_ne (Nne p hm)]; exact h2.on p hm, fun p hm => by rw [upd_ne (Nne p hm)]; exact h2.off p hm, h2.nd, h2.nt, h2.nb, h2.nc, (h2.tb.upd fun P hP => h2.notT hP (.inr ⟨_, hH', fun ps q => nomatch q⟩)).up fun c q hc => (upd_ne (fun z => by rw [z, h4] at hc; cases hc)).trans hc, fun P hP => by rw [upd_ne (h2.notT hP (.inr ⟨_, hH', fun ps q => nomatch q⟩))]; exact h2.ft P hP⟩
    by_cases hba : b = a
    · subst hba; rw [upd_same] at eb ⊢; exact eb
    · rw [upd_ne hba] at eb ⊢; exact h2.ex b o eb
end
end Rs

/-! RsN: own == and !=, in of tuples of data, powers. -/
namespace Nq
open PySem PySem.Spec PyProof.Rows L2 SlX
variable [Rs.Tabz]
section
variable {prog : Program} {w : World} {A : Around} {E : Value → Shared → Prop} {s : Shared} {K : PySem.W.Frag} {x C L f : Addr} {h₀ : Heap} {m : Str → Option Value} {ox : Obj} {od : Option Obj} {b tb : Value}
theorem bound_ne {M : Model} {args : List Value} {Q : Option Value → Shared → Prop} (X : K.In s.heap) (I : PySem.W.InstAt s.heap x ox C od) (hs : PySem.W.findIn K (.ref C) "__ne__" = some (some (.builtin "object.__ne__")))
    (h : wpAny M A (call (.builtin "object.__ne__") (.ref x :: args)) (fun v => Q (some v)) E s) : wpAny M A (callSpecialIfBound? (.ref x) "__ne__" args) Q E s := by
  simp only [callSpecialIfBound?, bindSpecialIfBound?]
  refine wpAny_holding (wpAny_bind (wpAny_bind (wpAny_bind (I.type.here ((PySem.W.looks_findIn X hs).here ?_)))))
  simp only [F.cmp_object.ne.bind]
  refine wpAny_bind (wpAny_askSetting (wpAny_ite ?_))
  have fin : wpAny M A (call (.builtin "object.__ne__") ([.ref x] ++ args) >>= fun v => pure (some v)) Q E s := wpAny_bind (wpAny_mono h (fun v s' h' => wpAny_pure h') fun _ _ h' => h')
  split
  · exact wpAny_bind (wpAny_pure (wpAny_pure (by exact fin)))
  · exact wpAny_tryCatch (wpAny_bind (wpAny_pure (wpAny_pure (by exact fin))))
theorem ne_body {Q : Fin → Shared → Prop} (hu : A.units < cLine) (X : K.In s.heap) (I : PySem.W.InstAt s.heap x ox C od) (hs : PySem.W.findIn K (.ref C) "__eq__" = some (some (.ref f))) (hf : PySem.W.isFn K (.ref f) = true)
    (h : wpAny (model prog w) A (call (.ref f) [.ref x, b]) (fun v s' => ∃ c, v = .bool c ∧ Q (.done (.ret (.bool (!c)))) s') E s) : wpAny (model prog w) A (Builtin.«object.__ne__» ⟨[.ref x, b], []⟩) Q E s := by
  show wpAny _ _ (cRoomFor "comparison" [.ref x, b] >>= _) _ _ _
  refine wpAny_bind (wpAny_cRoomFor hu ?_)
  refine wpAny_bind (PySem.W.ifBound_K X I hs hf (wpAny_mono h (fun v s' hv => ?_) fun _ _ e => e))
  obtain ⟨c, rfl, q⟩ := hv
  show wpAny _ _ (truthy (.bool c) >>= _) _ _ _
  exact wpAny_bind (wpAny_truthy_bool (wpAny_pure q))
theorem ne_K {Q : Value → Shared → Prop} (hu : A.units + 1 < cLine) (F : Fr h₀ L s.heap m) (X₀ : K.In h₀) (I : PySem.W.InstAt s.heap x ox C od) (hb : PySem.W.Looks (model prog w) s.heap (typeOf b) tb) (hn : PySem.W.notFirst K C tb = true)
    (hs : PySem.W.findIn K (.ref C) "__ne__" = some (some (.builtin "object.__ne__"))) (hsub : PySem.W.mroIn K C (.type "object") = some true) (he : PySem.W.findIn K (.ref C) "__eq__" = some (some (.ref f))) (hf : PySem.W.isFn K (.ref f) = true)
    (h : wpAny (model prog w) A.in1 (call (.ref f) [.ref x, b]) (fun v s' => ∃ c, v = .bool c ∧ Q (.bool (!c)) s') E s) : wpAny (model prog w) A (richCompare .NotEq (.ref x) b) Q E s := by
  have X := X₀.keeps F.keep
  have one : wpAny (model prog w) A (tryCompare (.ref x) (cmpInfo .NotEq).2.1 b) (fun r s' => ∃ v, r = some v ∧ Q v s') E s := by
    unfold tryCompare
    refine wpAny_bind (bound_ne X I hs (wpAny_call (codeAny_call_builtin PySem.F.cmp_object.ne.plain PySem.F.cmpEntry_ne (PySem.W.check_slot PySem.F.cmpKind_ne PySem.F.cmpSplit_ne (I.type.andThen (PySem.W.looks_mroIn X hsub)) (PySem.F.cmpArgs_ne _ _)
      (ne_body (A := A.in1) (by show A.units + 1 < cLine; exact hu) X I he hf (wpAny_mono h (fun v s' hv => ?_) fun _ _ e => e))))))
    obtain ⟨c, rfl, q⟩ := hv
    first | exact ⟨c, rfl, wpAny_pure ⟨_, rfl, q⟩⟩ | exact ⟨c, rfl, ⟨_, rfl, q⟩⟩
  unfold richCompare
  simp only [oneThing_ref]
  refine wpAny_holding (wpAny_bind (wpAny_cRoomFor (by omega) ?_))
  refine wpAny_bind (I.type.here (wpAny_bind (hb.here ?_)))
  split
  · rename_i q
    have e : PySem.W.subIn K tb (.ref C) = some false := by
      rcases Bool.or_eq_true_iff.mp hn with e | e
      · rw [beq_iff_eq.mp e] at q; simp at q
      · exact beq_iff_eq.mp e
    refine wpAny_bind ((PySem.W.looks_subIn X e).here ?_)
    simp only [Bool.false_eq_true, if_false]
    refine wpAny_bind (wpAny_mono one (fun r s' z => ?_) fun _ _ e => e)
    obtain ⟨v, rfl, hq⟩ := z
    exact wpAny_pure hq
  · refine wpAny_bind (wpAny_pure ?_)
    simp only [Bool.false_eq_true, if_false]
    refine wpAny_bind (wpAny_mono one (fun r s' z => ?_) fun _ _ e => e)
    obtain ⟨v, rfl, hq⟩ := z
    exact wpAny_pure hq
end
/-- x != y by the class's own == -/
def rNeOwn (K : PySem.W.Frag) (C : Addr) (sp : Sp) (E : XK) : R2 := fun x y H Q => ∃ a dx vs b C' dy ws, x = .ref a ∧ y = .ref b ∧ Slt H a C dx vs ∧ Slt H b C' dy ws ∧ PySem.W.notFirst K C (.ref C') = true ∧ sp [x, y] H (fun v H' => ∃ c, v = .bl c ∧ Q (.bl (!c)) H') E
section
variable {X : Cx} {CX : CXT} {C g : Addr} {n : Nat} {sp : Sp} {E : XK}
theorem op_neOwn (hs : PySem.W.findIn X.K (.ref C) "__ne__" = some (some (.builtin "object.__ne__"))) (hsub : PySem.W.mroIn X.K C (.type "object") = some true) (he : PySem.W.findIn X.K (.ref C) "__eq__" = some (some (.ref g))) (hf : PySem.W.isFn X.K (.ref g) = true) (F : FnR X.prog X.w X.K X.mg X.base CX n g sp)
    (hr : Room (n + 1) X.A) (hx : Passes CX X E) : OpR X (compareOp .NotEq) (rNeOwn X.K C sp E) := by
  intro pins s σ H x y v u Q I rx ry h
  obtain ⟨a, dx, vs, b, C', dy, ws, rfl, rfl, ha, hb, hn, q⟩ := h
  cases (show v = Value.ref a from rx)
  cases (show u = Value.ref b from ry)
  obtain ⟨sl, od, _, J, _⟩ := slt_inst I ha
  obtain ⟨sl', od', _, J', _⟩ := slt_inst I hb
  obtain ⟨m, hF⟩ := I.fr
  have hu := hr.units
  unfold compareOp
  refine ne_K (by omega) hF I.ok.mod.kin J J'.type hn hs hsub he hf ?_
  refine wpAny_mono (wpAny_call (SlX.run_at (us := [.ref a, .ref b]) (ws := [.ref a, .ref b]) F hr.in1 I.env0.in1 hx I (.cons rfl (.cons rfl .nil)) q)) (fun w s' z => ?_) fun _ _ x => x
  obtain ⟨z', H', I', rz, c, rfl, qz⟩ := z
  obtain rfl : w = Value.bool c := rz
  exact ⟨c, rfl, .bl (!c), H', I', rfl, qz⟩
def rInDT (K : PySem.W.Frag) (neg : Bool) : R2 := fun x y H Q => ∃ d ds, Dp K H x d ∧ Dp K H y (.tuple ds) ∧ SeqAt.shaped d = true ∧ SeqAt.shaped (.tuple ds) = true ∧ Q (.bl (if neg then !ds.any (fun z => PyData.eqv z d) else ds.any fun z => PyData.eqv z d)) H
theorem roomT {A : Around} {d : PyData} {ds : List PyData} (sd : SeqAt.shaped d = true) (hu : A.units + 65 < cLine) : A.units + 1 + min (PyData.depthAll ds) d.depth < cLine := room_in_shaped sd hu
theorem op_inDT (hu : X.A.units + 65 < cLine) : OpR X (compareOp .In) (rInDT X.K false) := by
  intro pins s σ H x y v u Q I rx ry h
  obtain ⟨d, ds, hd, he, sd, se, q⟩ := h
  obtain ⟨as, r1⟩ := Dp.reads I d x v hd rx
  obtain ⟨bs, r2⟩ := Dp.reads I (.tuple ds) y u he ry
  exact SeqAt.in_tuple_reads r2 r1 (SeqAt.canLay_of_shaped se) (SeqAt.canLay_of_shaped sd) (roomT sd hu) ⟨.bl _, H, I, rfl, q⟩
def CPowX (i j : Int) : Prop := 0 ≤ j ∧ (Builtin.Int.intBits i : Int) * j ≤ 2 ^ 27
theorem op_powX : OpR X (binaryOp .Pow) (rI CPowX fun i j => .int (i ^ j.toNat)) := opI fun _ _ _ _ _ _ _ hc q => pow_int hc.1 hc.2 q
end
end Nq

/-! RsO: runs over lists of objects, own == and !=, written lists. -/
namespace Rs
open PySem PySem.Spec PyProof.Rows L2 SlX StX Ma
variable [Rs.Tabz]
structure EqS (P : Program) (w : World) (K : PySem.W.Frag) (mg : Str → Option Value) (base : Heap) (k : Nat) (C : Addr) (sp : Sp) : Prop where
  ex : ∃ g, PySem.W.findIn K (.ref C) "__ne__" = some (some (.builtin "object.__ne__")) ∧ PySem.W.mroIn K C (.type "object") = some true ∧ PySem.W.findIn K (.ref C) "__eq__" = some (some (.ref g)) ∧ PySem.W.isFn K (.ref g) = true ∧ FnR P w K mg base CX0 k g sp
section
variable {X : Cx}
theorem op_eqO {k j : Nat} {C : Addr} {sp : Sp} (c : EqS X.prog X.w X.K X.mg X.base k C sp) (hr : Room j X.A) (hk : k + 1 ≤ j) : OpR X (compareOp .Eq) (rOwn X.K C sp E0) := by
  obtain ⟨g, h1, h2, h3, h4, F⟩ := c.ex
  exact op_own (op := .Eq) (fun _ _ => rfl) h3 h4 F (hr.mono (by omega)) pass0
theorem op_neO {k j : Nat} {C : Addr} {sp : Sp} (c : EqS X.prog X.w X.K X.mg X.base k C sp) (hr : Room j X.A) (hk : k + 1 ≤ j) : OpR X (compareOp .NotEq) (Nq.rNeOwn X.K C sp E0) := by
  obtain ⟨g, h1, h2, h3, h4, F⟩ := c.ex
  exact Nq.op_neOwn h1 h2 h3 h4 F (hr.mono hk) pass0
end
section
variable {K : PySem.W.Frag} {σ : L2.St} {F : Hp} {L : Cells} {R : VP} {ta tb te : TE} {C : Addr} {E : XK} {S1 S2 : VP}
theorem r_inDT {d : PyData} {ds : List PyData} (ha : Run (ta σ) F L (Dt K d)) (hb : Run (tb σ) F L (Dt K (.tuple ds))) (s1 : SeqAt.shaped d = true) (s2 : SeqAt.shaped (.tuple ds) = true) : Run (tOp (Nq.rInDT K false) ta tb σ) F L (Dt K (.bool (ds.any fun z => PyData.eqv z d))) :=
  r_op ha hb fun x y F1 e hx hy => fun F2 N H e2 A Q q => ⟨d, ds, dp_up (e2.trans A.ex) hx, dp_up (e2.trans A.ex) hy, s1, s2, q _ F2 H (Same.refl _) A (.bl _)⟩
/-! lists -/
theorem r_cat {α : Type} {f : α → VP} [∀ x, Mono (f x)] {xs ys : List α} (ha : Run (ta σ) F L (Ln (xs.map f))) (hb : Run (tb σ) F L (Ln (ys.map f))) (h1 : xs.length + ys.length ≤ 10000) : Run (tOp rCat ta tb σ) F L (Ln ((xs ++ ys).map f)) :=
  r_op ha hb fun x y F1 e hx' hy => fun F2 N H e2 A Q q => by
    obtain ⟨a, vs, rfl, hs, hr⟩ := hx'
    obtain ⟨b, ws, rfl, hs', hr'⟩ := hy
    have hl : vs.length = xs.length := by rw [each_length hr, List.length_map]
    have hl' : ws.length = ys.length := by rw [each_length hr', List.length_map]
    refine ⟨a, b, vs, ws, rfl, rfl, A.ex _ _ (e2 _ _ hs), A.ex _ _ (e2 _ _ hs'), by rw [sizeLine_eq]; omega, fun p hp => ?_⟩
    refine q _ (upd F2 p _) _ (same_new (A.free hp)) (A.new hp) ⟨p, _, rfl, upd_same, ?_⟩
    rw [List.map_append]
    exact each_app (Mono.go hr (e2.trans (same_new (A.free hp)))) (Mono.go hr' (e2.trans (same_new (A.free hp))))
theorem each_take : ∀ {Rs : List VP} {vs : List V} (n : Nat), Each Rs vs F → Each (Rs.take n) (vs.take n) F
  | [], vs, n, h => by
    obtain rfl := each0 h
    simp [Each]
  | R :: Rs, _, 0, h => by simp [Each]
  | R :: Rs, vs, n + 1, h => by
    obtain ⟨v, ws, rfl, h1, h2⟩ := each_cons h
    exact ⟨h1, each_take n h2⟩
/-- one of a list -/
theorem r_ixLs {Rs : List VP} [MonoL Rs] {n : Nat} {R : VP} (ha : Run (ta σ) F L (Ls K Rs)) (hb : Run (tb σ) F L (Dt K (.int (n : Nat)))) (hn : Rs[n]? = some R) : Run (tOp (rIxL K) ta tb σ) F L R :=
  r_op ha hb fun x y F1 e hx hy => fun F2 N H e2 A Q q => by
    cases hy
    obtain ⟨a, vs, rfl, hs, hr⟩ := hx
    have hr2 : Each Rs vs F2 := MonoL.mono _ _ _ e2 hr
    have hl := each_length hr2
    have hlt : n < vs.length := by rw [hl]; exact (List.getElem?_eq_some_iff.mp hn).1
    obtain ⟨R', hR', hv⟩ := each_at hr2 (List.getElem?_eq_getElem hlt)
    rw [hn] at hR'
    cases hR'
    refine ⟨a, vs, (n : Int), vs[n], rfl, rfl, sqL_up (e2.trans A.ex) hs, ?_, q _ F2 H (Same.refl _) A hv⟩
    unfold atI ixN
    rw [if_pos (by omega), if_pos (by omega)]
    simp [List.getElem?_eq_getElem hlt]
/-- one of a list of one's own -/
theorem r_ixC {l : Addr} {xs : List V} {n : Nat} {v : V} (hm : (l, HO.lst xs) ∈ L) (ha : Run (ta σ) F L (Eqv (.ref l))) (hb : Run (tb σ) F L (Dt K (.int (n : Nat)))) (hn : xs[n]? = some v) : Run (tOp (rIxL K) ta tb σ) F L (Eqv v) :=
  fun F1 N H e A Q q => ha F1 N H e A _ fun x F2 H2 e2 A2 hx => hb F2 N H2 (e.trans e2) A2 _ fun y F3 H3 e3 A3 hy => by
    cases hx
    cases hy
    have hlt : n < xs.length := (List.getElem?_eq_some_iff.mp hn).1
    refine ⟨l, xs, (n : Int), v, rfl, rfl, .inl (.inl (A3.mem hm)), ?_, q _ F3 H3 (e2.trans e3) A3 rfl⟩
    unfold atI ixN
    rw [if_pos (by omega), if_pos (by omega)]
    simpa using hn
theorem r_ixI {l : Addr} {xs : List Int} {n : Nat} {i : Int} (hm : (l, HO.lst (xs.map V.int)) ∈ L) (ha : Run (ta σ) F L (Eqv (.ref l))) (hb : Run (tb σ) F L (Dt K (.int (n : Nat)))) (hn : xs[n]? = some i) : Run (tOp (rIxL K) ta tb σ) F L (Dt K (.int i)) :=
  (r_ixC hm ha hb (v := .int i) (by rw [List.getElem?_map, hn]; rfl)).weak fun v F1 e h => by
    obtain rfl : v = .int i := h
    exact .int i
theorem r_lstN {t : TA} {Rs : List VP} (h : Run (t σ) F L (Each Rs)) [MonoL Rs] (hl : Rs.length ≤ 100000) : Run (tLst t σ) F L (fun v F1 => ∃ a vs, v = .ref a ∧ F1 a = some (.lst vs) ∧ Each Rs vs F1 ∧ F a = none) := fun F1 N H e A Q q =>
  h F1 N H e A _ fun vs F2 H2 e2 A2 hv => ⟨len_ok (by rw [each_length hv]; exact hl), fun p hp => q _ (upd F2 p _) _ (e2.trans (same_new (A2.free hp))) (A2.new hp) ⟨p, vs, rfl, upd_same, MonoL.mono _ _ _ (same_new (A2.free hp)) hv, (e.trans e2).free (A2.free hp)⟩⟩
end
end Rs

/-! RsP: any whole number; bodies that hand their cells back. -/
namespace Rs
open PySem PySem.Spec PyProof.Rows L2 SlX StX Ma
variable [Rs.Tabz]
theorem room65 {k : Nat} {A : Around} (r : Room k A) : A.units + 65 < cLine := by have := r.un; omega
def IntV : VP := fun v _ => ∃ i : Int, v = .int i
instance : Mono IntV := ⟨fun _ _ _ _ h => h⟩
def BoolV : VP := fun v _ => ∃ b : Bool, v = .bl b
instance : Mono BoolV := ⟨fun _ _ _ _ h => h⟩
/-- a number below t -/
def Bd (t : Nat) : VP := fun v _ => ∃ n : Nat, n < t ∧ v = .int n
instance {t : Nat} : Mono (Bd t) := ⟨fun _ _ _ _ h => h⟩
section
variable {K : PySem.W.Frag} {σ : L2.St} {F : Hp} {L : Cells} {R : VP} {ta tb te : TE} {t : TA} {u w : TS} {tc : TT} {i : Nat} {b : Bool}
theorem r_any {d : Int} (h : Run (te σ) F L (Dt K (.int d))) : Run (te σ) F L IntV := h.weak fun v F1 e hv => ⟨d, dt_int hv⟩
theorem r_anyI {j : Int} : Run (tC (.int j) σ) F L IntV := r_c ⟨j, rfl⟩
theorem r_lnLD {ds : List PyData} (h : Run (te σ) F L (Dt K (.list ds))) : Run (tCB (rLn K) (tCons te tNil) σ) F L (Dt K (.int ds.length)) := by
  have q := r_lnL (Rs := ds.map (Dt K)) (r_cons (h.weak fun v F e hv => ls_dt.mpr hv) r_nil)
  rwa [List.length_map] at q
theorem r_anyB {n : Nat} (h : Run (te σ) F L (Bd n)) : Run (te σ) F L IntV := h.weak fun v F1 e ⟨m, _, hv⟩ => ⟨m, hv⟩
theorem a_op0 {f : Int → Int → Int} (ha : Run (ta σ) F L IntV) (hb : Run (tb σ) F L IntV) : Run (tOp (rI0 fun i j => .int (f i j)) ta tb σ) F L IntV :=
  r_op ha hb fun x y F1 e ⟨i, hx⟩ ⟨j, hy⟩ => by
    subst hx; subst hy
    exact fun F2 N H e2 A Q q => ⟨i, j, rfl, rfl, q _ F2 H (Same.refl _) A ⟨_, rfl⟩⟩
theorem a_cmp {f : Int → Int → Bool} (ha : Run (ta σ) F L IntV) (hb : Run (tb σ) F L IntV) : Run (tOp (rI0 fun i j => .bl (f i j)) ta tb σ) F L BoolV :=
  r_op ha hb fun x y F1 e ⟨i, hx⟩ ⟨j, hy⟩ => by
    subst hx; subst hy
    exact fun F2 N H e2 A Q q => ⟨i, j, rfl, rfl, q _ F2 H (Same.refl _) A ⟨_, rfl⟩⟩
/-- a factor that is small -/
theorem a_mulL {c : Int} (ha : Run (ta σ) F L (Dt K (.int c))) (hb : Run (tb σ) F L IntV) (h : -(2 ^ 64) < c ∧ c < 2 ^ 64) : Run (tOp (rI CMul fun i j => .int (i * j)) ta tb σ) F L IntV :=
  r_op ha hb fun x y F1 e hx ⟨j, hy⟩ => by
    cases hx; subst hy
    exact fun F2 N H e2 A Q q => ⟨c, j, rfl, rfl, .inl h, q _ F2 H (Same.refl _) A ⟨_, rfl⟩⟩
theorem a_mulB {n : Nat} (ha : Run (ta σ) F L (Bd n)) (hb : Run (tb σ) F L IntV) (h : n ≤ 2 ^ 63) : Run (tOp (rI CMul fun i j => .int (i * j)) ta tb σ) F L IntV :=
  r_op ha hb fun x y F1 e ⟨m, hm, hx⟩ ⟨j, hy⟩ => by
    subst hx; subst hy
    have h1 : (n : Int) ≤ 2 ^ 63 := by exact_mod_cast h
    exact fun F2 N H e2 A Q q => ⟨m, j, rfl, rfl, .inl ⟨by omega, by omega⟩, q _ F2 H (Same.refl _) A ⟨_, rfl⟩⟩
theorem a_mod {m : Nat} (ha : Run (ta σ) F L IntV) (hb : Run (tb σ) F L (Dt K (.int (m : Nat)))) (h : 0 < m) : Run (tOp (rI (fun _ j => 0 < j) fun i j => .int (i % j)) ta tb σ) F L (Bd m) :=
  r_op ha hb fun x y F1 e ⟨i, hx⟩ hy => by
    subst hx; cases hy
    have h1 : (0 : Int) ≤ i % (m : Int) := Int.emod_nonneg _ (by omega)
    have h2 : i % (m : Int) < m := Int.emod_lt_of_pos _ (by omega)
    exact fun F2 N H e2 A Q q => ⟨i, m, rfl, rfl, by omega, q _ F2 H (Same.refl _) A ⟨(i % (m : Int)).toNat, by omega, by rw [Int.toNat_of_nonneg h1]⟩⟩
theorem a_modI {m : Int} (ha : Run (ta σ) F L IntV) (hb : Run (tb σ) F L (Dt K (.int m))) (h : 0 < m) : Run (tOp (rI (fun _ j => 0 < j) fun i j => .int (i % j)) ta tb σ) F L IntV :=
  r_op ha hb fun x y F1 e ⟨i, hx⟩ hy => by
    subst hx; cases hy
    exact fun F2 N H e2 A Q q => ⟨i, m, rfl, rfl, h, q _ F2 H (Same.refl _) A ⟨_, rfl⟩⟩
theorem a_div {m : Int} (ha : Run (ta σ) F L IntV) (hb : Run (tb σ) F L (Dt K (.int m))) (h : CDivW 0 m) : Run (tOp (rI CDivW fun i j => .int (i / j)) ta tb σ) F L IntV :=
  r_op ha hb fun x y F1 e ⟨i, hx⟩ hy => by
    subst hx; cases hy
    exact fun F2 N H e2 A Q q => ⟨i, m, rfl, rfl, h, q _ F2 H (Same.refl _) A ⟨_, rfl⟩⟩
theorem a_int (h : Run (t σ) F L (Each [IntV])) : Run (tCB rIntOf t σ) F L IntV := r_cb h fun vs F1 e1 hv => by
  obtain ⟨v, rfl, i, rfl⟩ := each1 hv
  exact fun F2 N H e2 A Q q => .inl ⟨i, rfl, q _ F2 H (Same.refl _) A ⟨i, rfl⟩⟩
theorem a_intB (h : Run (t σ) F L (Each [BoolV])) : Run (tCB rIntOf t σ) F L IntV := r_cb h fun vs F1 e1 hv => by
  obtain ⟨v, rfl, i, rfl⟩ := each1 hv
  exact fun F2 N H e2 A Q q => .inr ⟨i, rfl, q _ F2 H (Same.refl _) A ⟨_, rfl⟩⟩
theorem a_abs (h : Run (t σ) F L (Each [IntV])) : Run (tCB rAbs t σ) F L IntV := r_cb h fun vs F1 e1 hv => by
  obtain ⟨v, rfl, i, rfl⟩ := each1 hv
  exact fun F2 N H e2 A Q q => ⟨i, rfl, q _ F2 H (Same.refl _) A ⟨_, rfl⟩⟩
/-- a test of whatever truth -/
theorem a_test (h : Run (te σ) F L BoolV) : Run (tTest te σ) F L (fun _ _ => True) := run_bind (k := te σ) h fun x F1 e1 ⟨b, hx⟩ => by
  subst hx
  exact run_ex b (run_and (fun _ _ _ _ _ => rfl) (run_ret fun _ _ => True.intro))
/-! bodies that hand their cells back -/
def RunT (t : TS) (σ : L2.St) (F : Hp) (L : Cells) (Rt : V → Hp → Cells → Prop) : Prop :=
  ∀ F1 N H, Same F F1 → At F1 (L ++ N) H → ∀ D : Ends, (∀ v F' L' H', Same F1 F' → At F' (L' ++ N) H' → Rt v F' L' → D.rt v H') → t D σ H
variable {Rt : V → Hp → Cells → Prop}
theorem u_assoc {t u w : TS} (h : RunT (tSeq t (tSeq u w)) σ F L Rt) : RunT (tSeq (tSeq t u) w) σ F L Rt := h
theorem u_next (h : RunT u σ F L Rt) : RunT (tSeq tNext u) σ F L Rt := h
theorem u_set (h : Run (te σ) F L R) (k : ∀ v F1, Same F F1 → R v F1 → RunT u (σ.set i (some v)) F1 L Rt) : RunT (tSeq (tAsg te (gName i)) u) σ F L Rt := fun F1 N H e A D r =>
  h F1 N H e A _ fun v F2 H2 e2 A2 hv => k v F2 (e.trans e2) hv F2 N H2 (Same.refl _) A2 D fun w F3 L3 H3 e3 A3 n => r w F3 L3 H3 (e2.trans e3) A3 n
theorem u_ret (h : Run (te σ) F L R) (k : ∀ v F1, Same F F1 → R v F1 → Rt v F1 L) : RunT (tRet te) σ F L Rt := fun F1 N H e A D r =>
  h F1 N H e A _ fun v F2 H2 e2 A2 hv => r v F2 L H2 e2 A2 (k v F2 (e.trans e2) hv)
theorem u_retq (h : Run (te σ) F L R) (k : ∀ v F1, Same F F1 → R v F1 → Rt v F1 L) : RunT (tSeq (tRet te) u) σ F L Rt := fun F1 N H e A D r =>
  h F1 N H e A _ fun v F2 H2 e2 A2 hv => r v F2 L H2 e2 A2 (k v F2 (e.trans e2) hv)
theorem u_if {t u w : TS} (h : Run (tc σ) F L (fun _ _ => True)) (h1 : RunT (tSeq t w) σ F L Rt) (h2 : RunT (tSeq u w) σ F L Rt) : RunT (tSeq (tIfS tc t u) w) σ F L Rt := fun F1 N H e A D r =>
  h F1 N H e A _ fun b F2 H2 e2 A2 _ => by
    cases b with
    | true => exact iteT (h1 F2 N H2 (e.trans e2) A2 D fun v F3 L3 H3 e3 A3 n => r v F3 L3 H3 (e2.trans e3) A3 n)
    | false => exact iteF (h2 F2 N H2 (e.trans e2) A2 D fun v F3 L3 H3 e3 A3 n => r v F3 L3 H3 (e2.trans e3) A3 n)
theorem u_setC [Mono R] {l : Addr} {xs : List V} {n : Nat} (hv : Run (te σ) F ((l, .lst xs) :: L) R) (ha : Run (ta σ) F ((l, .lst xs) :: L) (Eqv (.ref l))) (hb : Run (tb σ) F ((l, .lst xs) :: L) (Dt K (.int (n : Nat)))) (hn : n < xs.length)
    (k : ∀ v F1, Same F F1 → R v F1 → RunT u σ F1 ((l, .lst (xs.set n v)) :: L) Rt) : RunT (tSeq (tAsg te (gSub ta tb rSetL)) u) σ F ((l, .lst xs) :: L) Rt := fun F1 N H e A D r =>
  hv F1 N H e A _ fun v F2 H2 e2 A2 hvv => ha F2 N H2 (e.trans e2) A2 _ fun x F3 H3 e3 A3 hx => hb F3 N H3 ((e.trans e2).trans e3) A3 _ fun y F4 H4 e4 A4 hy => by
    cases hx
    cases hy
    refine ⟨l, xs, (n : Int), n, rfl, rfl, At.on1 A4, by unfold ixN; rw [if_pos (by omega), if_pos (by omega)]; simp, ?_⟩
    exact k v F4 (((e.trans e2).trans e3).trans e4) (Mono.go hvv (e3.trans e4)) F4 N _ (Same.refl _) (At.put A4) D fun w F5 L5 H5 e5 A5 n => r w F5 L5 H5 (((e2.trans e3).trans e4).trans e5) A5 n
end
section
variable {P : Program} {w : World} {K : PySem.W.Frag} {mg : Str → Option Value} {base : Heap}
theorem cell_ok {n : Nat} {x qual : Str} {st : Stmt} {f : Addr} {fd : FuncData} {N ps : List Str} {k : Nat} {γ : Type} {pre : γ → Prop} {Rs : γ → List VP} {R : γ → VP} (F : Fun K x qual st f fd) (S : FnScope N ps (defScope st)) (len : ∀ g, (Rs g).length + 1 = ps.length)
    (body : ∀ (cdv : Value) (A : Around) (outer : List Env) (s : Shared) (H : Hp) (E : XK) (g : γ) (a : Addr) (xs : List Int) (vs : List V) (F0 : Hp), Room k (A.deeper (envOfC qual (defScope st) s.heap.objs.size f cdv)) → pre g → xs.length = n → Each (Rs g) vs F0 →
      ∃ t, PSs (cxOf CX0 P w K mg base N qual (defScope st) f cdv A outer s H E).nox (defBody st) t ∧ RunT t (start N (.ref a :: vs)) F0 [(a, .lst (xs.map V.int))] (fun v F' L' => R g v F' ∧ ∃ xs' : List Int, xs'.length = n ∧ L' = [(a, .lst (xs'.map V.int))])) :
    FnOk P w K mg base CX0 (k + 1) f fd ps (SpC n pre Rs R) := by
  refine F.ok S (fun vs H Q E ⟨g, F0, N0, a, xs, ws, e, hp, hx, A, hv, q⟩ => ?_) fun cdv A outer s H vs Q E hr ⟨g, F0, N0, a, xs, ws, e, hp, hx, A0, hv, q⟩ => ?_
  · subst e
    rw [List.length_cons, each_length hv]; exact len g
  · subst e
    obtain ⟨t, h1, h2⟩ := body cdv A outer s H E g a xs ws F0 hr hp hx hv
    refine ⟨t, h1, h2 F0 N0 H (Same.refl _) A0 _ fun v F' L' H' e' A' ⟨hr, xs', hx', hl⟩ => ?_⟩
    subst hl
    exact q v F' H' xs' hx' e' A' hr
end
end Rs

/-! RsQ: runs of what is drawn. -/
namespace Rs
open PySem PySem.Spec PyProof.Rows L2 SlX StX Ma
variable [Rs.Tabz]
def NatV : VP := fun v _ => ∃ n : Nat, v = .int n
instance : Mono NatV := ⟨fun _ _ _ _ h => h⟩
def OneD (K : PySem.W.Frag) (ds : List PyData) : VP := fun v F => ∃ d ∈ ds, Dt K d v F
instance {K : PySem.W.Frag} {ds : List PyData} : Mono (OneD K ds) := ⟨fun _ _ _ e ⟨d, h, h1⟩ => ⟨d, h, dp_up e h1⟩⟩
/-- a list of numbers of which P holds -/
def LsP (K : PySem.W.Frag) (P : List Nat → Prop) : VP := fun v F => ∃ ns, P ns ∧ Dt K (.list (ns.map nI)) v F
instance {K : PySem.W.Frag} {P : List Nat → Prop} : Mono (LsP K P) := ⟨fun _ _ _ e ⟨d, h, h1⟩ => ⟨d, h, dp_up e h1⟩⟩
def TpP (K : PySem.W.Frag) (P : List Nat → Prop) : VP := fun v F => ∃ ns, P ns ∧ Dt K (dRow ns) v F
instance {K : PySem.W.Frag} {P : List Nat → Prop} : Mono (TpP K P) := ⟨fun _ _ _ e ⟨d, h, h1⟩ => ⟨d, h, dp_up e h1⟩⟩
def RwP (K : PySem.W.Frag) (P : Rows → Prop) : VP := fun v F => ∃ rs, P rs ∧ Dt K (dRows rs) v F
instance {K : PySem.W.Frag} {P : Rows → Prop} : Mono (RwP K P) := ⟨fun _ _ _ e ⟨d, h, h1⟩ => ⟨d, h, dp_up e h1⟩⟩
section
variable {K : PySem.W.Frag} {σ : L2.St} {F : Hp} {L : Cells} {R S : VP} {ta tb te : TE} {t : TA} {q : List V → Hp → VK → Prop} {E : XK} {Nx : L2.St → Hp → Cells → Prop} {Rt : VP}
theorem r_min2N {i j : Nat} (h : Run (t σ) F L (Each [Dt K (nI i), Dt K (nI j)])) : Run (tCB rMin2 t σ) F L (Dt K (nI (min i j))) := r_cb h fun vs F1 e1 hv => by
  obtain ⟨v, u, rfl, h1, h2⟩ := each2 hv
  cases h1; cases h2
  refine fun F2 N H e2 A Q q => ⟨i, j, rfl, ?_⟩
  by_cases hji : (j : Int) < i
  · rw [if_pos hji, show ((j : Nat) : Int) = ((min i j : Nat) : Int) from by omega]
    exact q _ F2 H (Same.refl _) A (.int _)
  · rw [if_neg hji, show ((i : Nat) : Int) = ((min i j : Nat) : Int) from by omega]
    exact q _ F2 H (Same.refl _) A (.int _)
theorem r_max2N {i j : Nat} (h : Run (t σ) F L (Each [Dt K (nI i), Dt K (nI j)])) : Run (tCB rMax2 t σ) F L (Dt K (nI (max i j))) := r_cb h fun vs F1 e1 hv => by
  obtain ⟨v, u, rfl, h1, h2⟩ := each2 hv
  cases h1; cases h2
  refine fun F2 N H e2 A Q q => ⟨i, j, rfl, ?_⟩
  by_cases hji : (j : Int) > i
  · rw [if_pos hji, show ((j : Nat) : Int) = ((max i j : Nat) : Int) from by omega]
    exact q _ F2 H (Same.refl _) A (.int _)
  · rw [if_neg hji, show ((i : Nat) : Int) = ((max i j : Nat) : Int) from by omega]
    exact q _ F2 H (Same.refl _) A (.int _)
end
end Rs

/-! Mc: parts. -/
namespace Ma
open PySem Rs L2
variable [Rs.Tabz]
def partOf (re : Rows) (h : Nat) : List Nat := (row re h).filter fun o => decide (h ∈ row re o)
def addK (f : List (List Nat)) (k : List Nat) : List (List Nat) := if k ∈ f then f else f ++ [k]
def keysOf (re : Rows) : Nat → List (List Nat)
  | 0 => []
  | i + 1 => addK (keysOf re i) (partOf re i)
theorem mem_keys {re : Rows} {k : List Nat} : ∀ {i}, k ∈ keysOf re i ↔ ∃ h < i, k = partOf re h
  | 0 => by simp [keysOf]
  | i + 1 => by
    unfold keysOf addK
    have ih := mem_keys (re := re) (k := k) (i := i)
    split
    · rename_i hc
      rw [ih]
      constructor
      · rintro ⟨h, hh, e⟩; exact ⟨h, by omega, e⟩
      · rintro ⟨h, hh, e⟩
        by_cases q : h = i
        · subst q; rw [e]; exact mem_keys.mp hc
        · exact ⟨h, by omega, e⟩
    · rw [List.mem_append, ih, List.mem_singleton]
      constructor
      · rintro (⟨h, hh, e⟩ | e)
        · exact ⟨h, by omega, e⟩
        · exact ⟨i, by omega, e⟩
      · rintro ⟨h, hh, e⟩
        by_cases q : h = i
        · subst q; exact .inr e
        · exact .inl ⟨h, by omega, e⟩
end Ma

/-! Md: rounds and roots. -/
namespace Ma
open PySem Rs L2
variable [Rs.Tabz]
theorem fold_len : ∀ (l : List Rows) (z : Rows), (l.foldl thenR z).length = z.length
  | [], _ => rfl
  | _ :: l, z => by rw [List.foldl_cons, fold_len l, then_len]
/-! ### who has heard -/
theorem Reach.trans {rs : Rows} {x y z : Nat} (h1 : Reach rs x y) (h2 : Reach rs y z) : Reach rs x z := by
  induction h2 with
  | refl => exact h1
  | step _ a b ih => exact .step ih a b
open Classical in
open Classical in
/-! ### roots -/
/-! ### the closure -/
end Ma

/-! RsR: lists of webs. -/
namespace Rs
open PySem PySem.Spec PyProof.Rows L2 SlX StX Ma
variable [Rs.Tabz]
/-- a list of webs of which P holds -/
def WsP (C : Addr) (K : PySem.W.Frag) (P : List Rows → Prop) : VP := fun v F => ∃ l, P l ∧ Ln (l.map fun r => webP C K r) v F
instance {C : Addr} {K : PySem.W.Frag} {P : List Rows → Prop} : Mono (WsP C K P) := ⟨fun _ _ _ e ⟨l, h, h1⟩ => ⟨l, h, Mono.go h1 e⟩⟩
def WbP (C : Addr) (K : PySem.W.Frag) (P : Rows → Prop) : VP := fun v F => ∃ r, P r ∧ webP C K r v F
instance {C : Addr} {K : PySem.W.Frag} {P : Rows → Prop} : Mono (WbP C K P) := ⟨fun _ _ _ e ⟨l, h, h1⟩ => ⟨l, h, Mono.go h1 e⟩⟩
def NumP (P : Nat → Prop) : VP := fun v _ => ∃ n : Nat, P n ∧ v = .int n
instance {P : Nat → Prop} : Mono (NumP P) := ⟨fun _ _ _ _ h => h⟩
section
variable {K : PySem.W.Frag} {σ : L2.St} {F : Hp} {L : Cells} {R S : VP} {ta tb te : TE} {t : TA} {E : XK} {C : Addr}
/-! a for over what is drawn -/
variable {Nx : L2.St → Hp → Cells → Prop} {Rt : VP} {tb' u : TS} {g : TG} {wi : TI}
end
end Rs

/-! RsS: the length of a set of ints; lists of two starred rows. -/
namespace Rs
open PySem PySem.Spec PyProof.Rows L2 SlX StX Ma
variable [Rs.Tabz]
section
variable {X : Cx}
variable {e : Expr} {es : List Expr} {t : TA} {p pos : Pos}
end
section
variable {K : PySem.W.Frag} {w : World} {σ : L2.St} {F : Hp} {L : Cells} {t : TA} {ta tb te : TE}
end
end Rs

/-! RsU: list(range(..)), tuple(range(..)), texts. -/
namespace Rs
open PySem PySem.Spec PyProof.Rows L2 SlX StX Ma
variable [Rs.Tabz]
section
variable {X : Cx} {a : Expr} {ta : TE} {p q pos pos2 : Pos}
theorem p_listRg (hc : X.calm = true) (B : Bf X.mg) (ha : PE X a ta) (hg : Gl X "list" := by rfl) (hgr : Gl X "range" := by rfl) (na : starEach [a] X.env = (false, eval a X.env) :: starEach [] X.env := by rfl)
    (nb : starEach [.Call (.Name "range" q) [a] [] pos2] X.env = (false, eval (.Call (.Name "range" q) [a] [] pos2) X.env) :: starEach [] X.env := by rfl) :
    PE X (.Call (.Name "list" p) [.Call (.Name "range" q) [a] [] pos2] [] pos) (tLstRg (tRg1 ta)) := pe_listRg hc hg B.list (prg_1 hgr B.range ha na) nb
theorem p_str (B : Bf X.mg) {e : Expr} {es : List Expr} {t : TA} (hm : X.mg "str" = none) (ha : PA X (e :: es) t) (hg : Gl X "str" := by rfl) (he : starEach (e :: es) X.env = (false, eval e X.env) :: starEach es X.env := by rfl) (hpl : (backTo pos (starEach es X.env)).any (·.1) = false := by rfl) :
    PE X (.Call (.Name "str" p) (e :: es) [] pos) (tCB (fun xs H Q => ∃ i, xs = [.int i] ∧ i.natAbs.log2 < 1920 ∧ Q (.str (toString i)) H) t) := pe_callTy call_str_int hg hm boot_str ha (by decide) (by decide) he hpl
end
section
variable {K : PySem.W.Frag} {σ : L2.St} {F : Hp} {L : Cells} {R : VP} {t : TA} {ta tb te : TE}
theorem rgV_nat (n : Nat) : rgV 0 (n : Int) = (List.range n).map fun i : Nat => V.int ((i : Nat) : Int) := by
  unfold rgV
  rw [show ((n : Int) - 0).toNat = n from by omega]
  exact List.map_congr_left fun (i : Nat) _ => congrArg V.int (Int.zero_add _)
theorem each_ints : ∀ {xs : List Nat} {F : Hp}, Each (xs.map fun x => Dt K (nI x)) (xs.map fun i : Nat => V.int ((i : Nat) : Int)) F
  | [], _ => True.intro
  | _ :: _, _ => ⟨.int _, each_ints⟩
theorem log_small {n : Nat} (h : n ≤ 1000) : ((n : Int)).natAbs.log2 < 1920 := by
  rw [Int.natAbs_natCast]
  by_cases h0 : n = 0
  · subst h0; decide
  · exact Nat.lt_of_lt_of_le ((Nat.log2_lt h0).mpr (show n < 2 ^ 10 by omega)) (by decide)
theorem r_strI {n : Nat} (h : Run (t σ) F L (Each [Dt K (nI n)])) (hn : n ≤ 1000) : Run (tCB (fun xs H Q => ∃ i, xs = [V.int i] ∧ i.natAbs.log2 < 1920 ∧ Q (.str (toString i)) H) t σ) F L (Dt K (.str (toString (n : Int)))) := r_cb h fun vs F1 e hv => by
  obtain ⟨v, rfl, hw⟩ := each1 hv
  cases hw
  exact run_ex (n : Int) (run_and (fun _ _ _ _ _ => rfl) (run_and (fun _ _ _ _ _ => log_small hn) (run_ret fun _ _ => .str _)))
theorem r_addS {x y : PySem.Str} (ha : Run (ta σ) F L (Dt K (.str x))) (hb : Run (tb σ) F L (Dt K (.str y))) (hl : x.length + y.length ≤ 100000) : Run (tOp (fun u v H Q => ∃ i j, u = V.str i ∧ v = .str j ∧ i.length + j.length ≤ sizeLine ∧ Q (.str (i ++ j)) H) ta tb σ) F L (Dt K (.str (x ++ y))) :=
  r_op ha hb fun u v F1 e hx hy => by
    cases hx; cases hy
    exact run_ex x (run_ex y (run_and (fun _ _ _ _ _ => rfl) (run_and (fun _ _ _ _ _ => rfl) (run_and (fun _ _ _ _ _ => len_ok hl) (run_ret fun _ _ => .str _)))))
end
section
variable {X : Cx} {a b : Expr} {rest : List Expr} {ta tb : TE} {pos : Pos}
end
end Rs

/-! RsV: own len, str, in. -/
namespace Rs
open PySem PySem.Spec PyProof.Rows L2 SlX StX Ma
variable [Rs.Tabz]
section
variable {X : Cx} {CX : CXT} {C g : Addr} {n : Nat} {sp : Sp} {E : XK}
def rLenOwn (C : Addr) (sp : Sp) (E : XK) : List V → Hp → VK → Prop := fun xs H Q => ∃ a dx vs, xs = [V.ref a] ∧ Slt H a C dx vs ∧ sp [.ref a] H (fun z H' => ∃ i : Int, z = .int i ∧ 0 ≤ i ∧ i < 2 ^ 63 ∧ Q z H') E
theorem call_lenOwn (hs : PySem.W.findIn X.K (.ref C) "__len__" = some (some (.ref g))) (hf : PySem.W.isFn X.K (.ref g) = true) (F : FnR X.prog X.w X.K X.mg X.base CX n g sp) (hr : Room (n + 1) X.A) (hx : Passes CX X E) : CallR X (.builtin "len") (rLenOwn C sp E) := by
  intro pins s σ H xs us Q I r h
  obtain ⟨a, dx, vs, rfl, hsl, q⟩ := h
  obtain ⟨u, rfl, ru⟩ := r.one
  cases (show u = Value.ref a from ru)
  obtain ⟨sl, od, _, J, _⟩ := slt_inst I hsl
  obtain ⟨m, hF⟩ := I.fr
  have hr2 : Room n X.A.in1 := Room.in1 hr
  refine PySem.W.len_K hF I.ok.mod.kin J hs hf (wpAny_mono (wpAny_call (run_at (us := [.ref a]) (ws := [.ref a]) F hr2 I.env0.in1 hx I (.cons rfl .nil) q)) (fun w s' z => ?_) fun _ _ x => x)
  obtain ⟨z', H', I', rz, i, ei, h0, h1, qz⟩ := z
  subst ei
  obtain ⟨t, e⟩ := (show ∃ t, w = Value.int i t from rz)
  cases e
  exact ⟨⟨h0, h1⟩, .int i, H', I'.tok _, ⟨_, rfl⟩, qz⟩
def rStrOwn (C : Addr) (sp : Sp) (E : XK) : List V → Hp → VK → Prop := fun xs H Q => ∃ a dx vs, xs = [V.ref a] ∧ Slt H a C dx vs ∧ sp [.ref a] H (fun z H' => ∃ y : Str, z = .str y ∧ Q z H') E
theorem call_strOwn (hs : PySem.W.findIn X.K (.ref C) "__str__" = some (some (.ref g))) (hf : PySem.W.isFn X.K (.ref g) = true) (F : FnR X.prog X.w X.K X.mg X.base CX n g sp) (hr : Room (n + 2) X.A) (hx : Passes CX X E) : CallR X (.type "str") (rStrOwn C sp E) := by
  intro pins s σ H xs us Q I r h
  obtain ⟨a, dx, vs, rfl, hsl, q⟩ := h
  obtain ⟨u, rfl, ru⟩ := r.one
  cases (show u = Value.ref a from ru)
  obtain ⟨sl, od, _, J, _⟩ := slt_inst I hsl
  have hr2 : Room n X.A.in1.in1 := (show Room (n + 1) X.A.in1 from Room.in1 hr).in1
  refine PySem.W.kso_call hr2.units0 I.kIn J hs hf (wpAny_mono (wpAny_call (run_at (us := [.ref a]) (ws := [.ref a]) F hr2 I.env0.in1.in1 hx I (.cons rfl .nil) q)) (fun w s' z => ?_) fun _ _ x => x)
  obtain ⟨z', H', I', rz, y, ey, qz⟩ := z
  subst ey
  obtain ⟨t, e⟩ := (show ∃ t, w = Value.str y t from rz)
  cases e
  exact ⟨.str y, H', I', ⟨t, rfl⟩, qz⟩
end
/-- the own len, str and in of the class at C -/
structure OwnS (P : Program) (w : World) (K : PySem.W.Frag) (mg : Str → Option Value) (base : Heap) (nm : Str) (k : Nat) (C : Addr) (sp : Sp) : Prop where
  ex : ∃ g, PySem.W.findIn K (.ref C) nm = some (some (.ref g)) ∧ PySem.W.isFn K (.ref g) = true ∧ FnR P w K mg base CX0 k g sp
section
variable {X : Cx} {k j : Nat} {C : Addr} {sp : Sp} {e : Expr} {es : List Expr} {t : TA} {p pos : Pos}
theorem p_lenO (B : Bf X.mg) (c : OwnS X.prog X.w X.K X.mg X.base "__len__" k C sp) (hr : Room j X.A) (hk : k + 1 ≤ j) (ha : PA X (e :: es) t) (hg : Gl X "len" := by rfl) (he : starEach (e :: es) X.env = (false, eval e X.env) :: starEach es X.env := by rfl) (hpl : (backTo pos (starEach es X.env)).any (·.1) = false := by rfl) :
    PE X (.Call (.Name "len" p) (e :: es) [] pos) (tCB (rLenOwn C sp E0) t) := by
  obtain ⟨g, h1, h2, F⟩ := c.ex
  exact pe_callB (call_lenOwn h1 h2 F (hr.mono hk) pass0) hg B.len PySem.boot_len ha (by decide) (by decide) he hpl
theorem p_strO (hm : X.mg "str" = none) (c : OwnS X.prog X.w X.K X.mg X.base "__str__" k C sp) (hr : Room j X.A) (hk : k + 2 ≤ j) (ha : PA X (e :: es) t) (hg : Gl X "str" := by rfl) (he : starEach (e :: es) X.env = (false, eval e X.env) :: starEach es X.env := by rfl) (hpl : (backTo pos (starEach es X.env)).any (·.1) = false := by rfl) :
    PE X (.Call (.Name "str" p) (e :: es) [] pos) (tCB (rStrOwn C sp E0) t) := by
  obtain ⟨g, h1, h2, F⟩ := c.ex
  exact pe_callTy (call_strOwn h1 h2 F (hr.mono hk) pass0) hg hm boot_str ha (by decide) (by decide) he hpl
end
section
variable {K : PySem.W.Frag} {σ : L2.St} {F : Hp} {L : Cells} {R : VP} {ta tb te : TE} {t : TA} {C : Addr} {E : XK} {S1 S2 : VP}
end
/-! f'..' -/
section
variable {K : PySem.W.Frag} {σ : L2.St} {F : Hp} {L : Cells} {te : TE}
theorem r_fmtI {n : Nat} (h : Run (te σ) F L (Dt K (nI n))) (hn : n ≤ 1000) : Run (tFmt te σ) F L (Dt K (.str (toString (n : Int)))) :=
  run_bind (k := te σ) h fun x F1 e hx => fun F2 N H e2 A Q q => by
    cases hx
    exact .inr ⟨n, rfl, log_small hn, q _ F2 H (Same.refl _) A (.str _)⟩
end
/-! words within comprehension blocks: the world told too -/
section
variable {X : Cx} {e : Expr} {es : List Expr} {t : TA} {p pos : Pos}
end
end Rs

/-! Tw0: from readings to what they ask in plain terms: no heap, no places. -/
namespace Tw
open PySem PySem.Spec PyProof.Rows L2 SlX StX Rs Ma
variable [Rs.Tabz]
/-- what is wanted of a result, of an exception -/
abbrev Wm (ε α : Type) := (α → Prop) → (ε → Prop) → Prop
@[reducible] def pur {ε α : Type} (a : α) : Wm ε α := fun Q _ => Q a
/-- how exceptions are told -/
structure Wsh (ε : Type) where
  wi : WX
  xr : ε → Value → Option Addr → Hp → Prop
  t : L2.St → Hp → Cells → Prop
  tl : ∀ σ F L M, t σ F L → t σ F (L ++ M)
section
variable {ε α β γ : Type} {Z : Wsh ε} {F F' F1 : Hp} {N M L : Cells} {X X' : ε → Prop}
def WishOk (Z : Wsh ε) (F : Hp) (N : Cells) (X : ε → Prop) : Prop := ∀ e cls d σ F1 L1 H1, Same F F1 → At F1 (L1 ++ N) H1 → Z.t σ F1 L1 → X e → Z.xr e cls d F1 → Z.wi cls d σ H1
theorem WishOk.up (h : WishOk Z F N X) (e : Same F F') : WishOk Z F' N X := fun x cls d σ F1 L1 H1 e1 => h x cls d σ F1 L1 H1 (e.trans e1)
theorem WishOk.push (h : WishOk Z F N X) : WishOk Z F (M ++ N) X := fun x cls d σ F1 L1 H1 e1 A t q r =>
  h x cls d σ F1 (L1 ++ M) H1 e1 (by rw [List.append_assoc]; exact A) (Z.tl _ _ _ _ t) q r
theorem WishOk.push1 {c : Addr × HO} (h : WishOk Z F N X) : WishOk Z F (c :: N) X := h.push (M := [c])
theorem WishOk.imp (h : WishOk Z F N X) (i : ∀ e, X' e → X e) : WishOk Z F N X' := fun x cls d σ F1 L1 H1 e1 A t q r => h x cls d σ F1 L1 H1 e1 A t (i _ q) r
/-- as Run, with the wish of exceptions -/
def RunW (Z : Wsh ε) (k : Hp → (α → Hp → Prop) → Prop) (F : Hp) (L : Cells) (R : α → Hp → Prop) (X : ε → Prop) : Prop :=
  ∀ F1 N H, Same F F1 → At F1 (L ++ N) H → WishOk Z F1 N X → ∀ Q : α → Hp → Prop, (∀ v F2 H2, Same F1 F2 → At F2 (L ++ N) H2 → R v F2 → Q v H2) → k H Q
variable {k : Hp → (α → Hp → Prop) → Prop} {R R' : α → Hp → Prop}
theorem RunW.of (h : Run k F L R) : RunW Z k F L R X := fun F1 N H e A _ Q q => h F1 N H e A Q q
theorem RunW.up (h : RunW Z k F L R X) (e : Same F F1) : RunW Z k F1 L R X := fun F2 N H e2 A w Q q => h F2 N H (e.trans e2) A w Q q
theorem RunW.weak (h : RunW Z k F L R X) (hr : ∀ v F2, Same F F2 → R v F2 → R' v F2) : RunW Z k F L R' X := fun F2 N H e2 A w Q q =>
  h F2 N H e2 A w Q fun v F3 H3 e3 A3 r => q v F3 H3 e3 A3 (hr v F3 (e2.trans e3) r)
theorem rw_bind {k2 : α → Hp → (β → Hp → Prop) → Prop} {S : β → Hp → Prop} (h1 : RunW Z k F L R X) (h2 : ∀ v F1, Same F F1 → R v F1 → RunW Z (k2 v) F1 L S X) : RunW Z (fun H Q => k H fun v H1 => k2 v H1 Q) F L S X := fun F1 N H e A w Q q =>
  h1 F1 N H e A w _ fun v F2 H2 e2 A2 r => h2 v F2 (e.trans e2) r F2 N H2 (Same.refl _) A2 (w.up e2) Q fun u F3 H3 e3 A3 s => q u F3 H3 (e2.trans e3) A3 s
theorem rw_ret {v : α} (h : ∀ F1, Same F F1 → R v F1) : RunW Z (fun H Q => Q v H) F L R X := RunW.of (run_ret h)
end

/-! ### what the slots hold -/
def SatV : List (Option VP) → L2.St → Hp → Prop
  | [], [], _ => True
  | none :: ρ, _ :: σ, F => SatV ρ σ F
  | some R :: ρ, o :: σ, F => (∃ v, o = some v ∧ R v F ∧ Mono R) ∧ SatV ρ σ F
  | _, _, _ => False
def lk : List (Option VP) → Nat → Option VP
  | [], _ => none
  | o :: _, 0 => o
  | _ :: ρ, i + 1 => lk ρ i
def st : List (Option VP) → Nat → Option VP → List (Option VP)
  | [], _, _ => []
  | _ :: ρ, 0, o => o :: ρ
  | p :: ρ, i + 1, o => p :: st ρ i o
def wipeE (ρ : List (Option VP)) : List Nat → List (Option VP)
  | [] => ρ
  | v :: vs => st (wipeE ρ vs) v none
section
variable {ρ ρ' : List (Option VP)} {σ σ' : L2.St} {F F' : Hp} {i j : Nat} {R : VP} {v : V}
theorem satV_up (e : Same F F') : ∀ {ρ σ}, SatV ρ σ F → SatV ρ σ F'
  | [], [], _ => True.intro
  | none :: ρ, _ :: σ, h => satV_up (ρ := ρ) (σ := σ) e h
  | some R :: ρ, o :: σ, ⟨⟨v, h1, h2, h3⟩, h⟩ => ⟨⟨v, h1, h3.mono _ _ _ e h2, h3⟩, satV_up (ρ := ρ) (σ := σ) e h⟩
  | [], _ :: _, h => h.elim
  | none :: _, [], h => h.elim
  | some _ :: _, [], h => h.elim
theorem satV_get : ∀ {ρ σ i}, SatV ρ σ F → lk ρ i = some R → ∃ v, σ[i]? = some (some v) ∧ R v F ∧ Mono R
  | none :: ρ, _ :: σ, 0, h, e => nomatch e
  | none :: ρ, _ :: σ, i + 1, h, e => satV_get (ρ := ρ) (σ := σ) (i := i) h e
  | some S :: ρ, o :: σ, 0, ⟨⟨v, h1, h2, h3⟩, h⟩, e => by
    cases e
    exact ⟨v, by rw [h1]; rfl, h2, h3⟩
  | some S :: ρ, o :: σ, i + 1, ⟨_, h⟩, e => satV_get (ρ := ρ) (σ := σ) (i := i) h e
  | [], _, _, _, e => nomatch e
  | none :: _, [], _, h, _ => h.elim
  | some _ :: _, [], _, h, _ => h.elim
theorem satV_none : ∀ {ρ σ i} {o : Option V}, SatV ρ σ F → SatV (st ρ i none) (σ.set i o) F
  | [], [], _, _, h => h
  | none :: ρ, _ :: σ, 0, _, h => h
  | none :: ρ, _ :: σ, i + 1, o, h => satV_none (ρ := ρ) (σ := σ) (i := i) (o := o) h
  | some S :: ρ, _ :: σ, 0, _, h => h.2
  | some S :: ρ, _ :: σ, i + 1, o, h => ⟨h.1, satV_none (ρ := ρ) (σ := σ) (i := i) (o := o) h.2⟩
  | [], _ :: _, _, _, h => h.elim
  | none :: _, [], _, _, h => h.elim
  | some _ :: _, [], _, _, h => h.elim
theorem satV_set (hr : R v F) (m : Mono R) : ∀ {ρ σ i}, SatV ρ σ F → SatV (st ρ i (some R)) (σ.set i (some v)) F
  | [], [], _, h => h
  | none :: ρ, _ :: σ, 0, h => ⟨⟨v, rfl, hr, m⟩, h⟩
  | none :: ρ, _ :: σ, i + 1, h => satV_set hr m (ρ := ρ) (σ := σ) (i := i) h
  | some S :: ρ, _ :: σ, 0, h => ⟨⟨v, rfl, hr, m⟩, h.2⟩
  | some S :: ρ, _ :: σ, i + 1, h => ⟨h.1, satV_set hr m (ρ := ρ) (σ := σ) (i := i) h.2⟩
  | [], _ :: _, _, h => h.elim
  | none :: _, [], _, h => h.elim
  | some _ :: _, [], _, h => h.elim
theorem satV_wipe (h : SatV ρ σ F) : ∀ vs, SatV (wipeE ρ vs) (wipe σ vs) F
  | [] => h
  | v :: vs => satV_none (satV_wipe h vs)
/-- some is forgotten -/
def leV : List (Option VP) → List (Option VP) → Prop
  | [], [] => True
  | _ :: ρ, none :: ρ' => leV ρ ρ'
  | some R :: ρ, some R' :: ρ' => R = R' ∧ leV ρ ρ'
  | _, _ => False
theorem satV_le : ∀ {ρ ρ' σ}, leV ρ ρ' → SatV ρ σ F → SatV ρ' σ F
  | [], [], _, _, h => h
  | none :: ρ, none :: ρ', _ :: σ, l, h => satV_le (ρ := ρ) (ρ' := ρ') (σ := σ) l h
  | some R :: ρ, none :: ρ', _ :: σ, l, h => satV_le (ρ := ρ) (ρ' := ρ') (σ := σ) l h.2
  | some R :: ρ, some R' :: ρ', o :: σ, l, h => by
    obtain ⟨l1, l2⟩ := l
    subst l1
    exact ⟨h.1, satV_le (ρ := ρ) (ρ' := ρ') (σ := σ) l2 h.2⟩
  | none :: _, some _ :: _, _, l, _ => l.elim
  | [], _ :: _, _, l, _ => l.elim
  | none :: _, [], _, l, _ => l.elim
  | some _ :: _, [], _, l, _ => l.elim
  | none :: _, none :: _, [], _, h => h.elim
  | some _ :: _, none :: _, [], _, h => h.elim
  | some _ :: _, some _ :: _, [], _, h => h.elim
end

/-! ### cells of one's own -/
/-- a cell of one's own that a slot holds; a thing of several cells -/
inductive Ow where
  | one (i : Nat) (p : Addr → HO → Hp → Prop)
  | many (i : Nat) (P : Addr → Cells → Hp → Prop)
def Ow.slot : Ow → Nat
  | .one i _ => i
  | .many i _ => i
def Ow.hold : Ow → Addr → Cells → Hp → Prop
  | .one _ p => fun a M F => ∃ o, M = [(a, o)] ∧ p a o F
  | .many _ P => P
def SatC : List Ow → L2.St → Hp → Cells → Prop
  | [], _, _, _ => True
  | .one i p :: κ, σ, F, L => ∃ a o L', L = (a, o) :: L' ∧ σ[i]? = some (some (.ref a)) ∧ (∀ F', Same F F' → p a o F') ∧ SatC κ σ F L'
  | .many i P :: κ, σ, F, L => ∃ a M L', L = M ++ L' ∧ σ[i]? = some (some (.ref a)) ∧ (∀ F', Same F F' → P a M F') ∧ SatC κ σ F L'
theorem satC_cons {c : Ow} {κ : List Ow} {σ : L2.St} {F : Hp} {L : Cells} : SatC (c :: κ) σ F L ↔ ∃ a M L', L = M ++ L' ∧ σ[c.slot]? = some (some (.ref a)) ∧ (∀ F', Same F F' → c.hold a M F') ∧ SatC κ σ F L' := by
  cases c with
  | one i p =>
    refine ⟨fun ⟨a, o, L', h1, h2, h3, h4⟩ => ⟨a, [(a, o)], L', h1, h2, fun F' e => ⟨o, rfl, h3 F' e⟩, h4⟩, fun ⟨a, M, L', h1, h2, h3, h4⟩ => ?_⟩
    obtain ⟨o, hM, _⟩ := h3 F (Same.refl _)
    subst hM
    refine ⟨a, o, L', h1, h2, fun F' e => ?_, h4⟩
    obtain ⟨o', hM, hp⟩ := h3 F' e
    cases hM
    exact hp
  | many i P => exact Iff.rfl
/-- a list of one's own -/
def ownL (Rs : List VP) : Addr → HO → Hp → Prop := fun _ o F => ∃ vs, o = .lst vs ∧ Each Rs vs F
def freeC (i : Nat) : List Ow → Bool
  | [] => true
  | c :: κ => !(Nat.beq c.slot i) && freeC i κ
def freeCs (vs : List Nat) (κ : List Ow) : Bool := vs.all fun v => freeC v κ
section
variable {κ κ' : List Ow} {σ σ' : L2.St} {F F' : Hp} {L M : Cells} {i j : Nat} {v : V} {o : Option V}
theorem satC_up (e : Same F F') : ∀ {κ L}, SatC κ σ F L → SatC κ σ F' L
  | [], _, _ => True.intro
  | c :: κ, _, h => let ⟨a, o, L', h1, h2, h3, h4⟩ := satC_cons.mp h; satC_cons.mpr ⟨a, o, L', h1, h2, fun F2 e2 => h3 F2 (e.trans e2), satC_up e h4⟩
theorem satC_tail : ∀ {κ L}, SatC κ σ F L → SatC κ σ F (L ++ M)
  | [], _, _ => True.intro
  | c :: κ, _, h => let ⟨a, o, L', h1, h2, h3, h4⟩ := satC_cons.mp h; satC_cons.mpr ⟨a, o, L' ++ M, by rw [h1, List.append_assoc], h2, h3, satC_tail h4⟩
theorem satC_set : ∀ {κ L}, freeC i κ = true → SatC κ σ F L → SatC κ (σ.set i o) F L
  | [], _, _, _ => True.intro
  | c :: κ, _, f, h => by
    obtain ⟨a, o, L', h1, h2, h3, h4⟩ := satC_cons.mp h
    rw [freeC, Bool.and_eq_true] at f
    obtain ⟨f1, f2⟩ := f
    refine satC_cons.mpr ⟨a, o, L', h1, ?_, h3, satC_set f2 h4⟩
    rw [List.getElem?_set_ne, h2]
    intro z
    rw [z, Nat.beq_refl] at f1
    cases f1
theorem satC_wipe (h : SatC κ σ F L) : ∀ {vs}, freeCs vs κ = true → SatC κ (wipe σ vs) F L
  | [], _ => h
  | v :: vs, f => by
    rw [freeCs, List.all_cons, Bool.and_eq_true] at f
    exact satC_set f.1 (satC_wipe h f.2)
/-- the same slots hold the same -/
theorem satC_agree {js : List Nat} (ag : ∀ i, i ∉ js → σ'[i]? = σ[i]?) : ∀ {κ L}, freeCs js κ = true → SatC κ σ F L → SatC κ σ' F L
  | [], _, _, _ => True.intro
  | c :: κ, _, f, h => by
    obtain ⟨a, o, L', h1, h2, h3, h4⟩ := satC_cons.mp h
    refine satC_cons.mpr ⟨a, o, L', h1, ?_, h3, satC_agree ag ?_ h4⟩
    · rw [ag, h2]
      intro z
      have := List.all_eq_true.mp f _ z
      rw [freeC, Bool.and_eq_true, Nat.beq_refl] at this
      exact absurd this.1 (by decide)
    · refine List.all_eq_true.mpr fun x hx => ?_
      have := List.all_eq_true.mp f x hx
      rw [freeC, Bool.and_eq_true] at this
      exact this.2
/-- two things change places -/
theorem satC_swap {c d : Ow} (h : SatC (c :: d :: κ) σ F L) : ∃ L2, L.Perm L2 ∧ SatC (d :: c :: κ) σ F L2 := by
  obtain ⟨a, M, L', h1, h2, h3, h4⟩ := satC_cons.mp h
  obtain ⟨a', M', L'', h1', h2', h3', h4'⟩ := satC_cons.mp h4
  subst h1 h1'
  refine ⟨M' ++ (M ++ L''), ?_, satC_cons.mpr ⟨a', M', _, rfl, h2', h3', satC_cons.mpr ⟨a, M, L'', rfl, h2, h3, h4'⟩⟩⟩
  rw [← List.append_assoc, ← List.append_assoc]
  exact List.perm_append_comm.append_right _
end

/-! ### the judgements -/
section
variable {ε α β γ δ S : Type}
structure TrE (Z : Wsh ε) (ρ : List (Option VP)) (κ : List Ow) (te : TE) (m : Wm ε α) (R : α → VP) : Prop where
  mono : ∀ a, Mono (R a)
  run : ∀ σ F L, SatV ρ σ F → SatC κ σ F L → ∀ Q X, m Q X → RunW Z (te σ) F L (fun v F1 => ∃ a, Q a ∧ R a v F1) X
structure TrT (Z : Wsh ε) (ρ : List (Option VP)) (κ : List Ow) (tt : TT) (m : Wm ε Bool) : Prop where
  run : ∀ σ F L, SatV ρ σ F → SatC κ σ F L → ∀ Q X, m Q X → RunW Z (tt σ) F L (fun b _ => Q b) X
structure TrA (Z : Wsh ε) (ρ : List (Option VP)) (κ : List Ow) (ta : TA) (m : Wm ε γ) (Rs : γ → List VP) : Prop where
  mono : ∀ g, MonoL (Rs g)
  run : ∀ σ F L, SatV ρ σ F → SatC κ σ F L → ∀ Q X, m Q X → RunW Z (ta σ) F L (fun vs F1 => ∃ g, Q g ∧ Each (Rs g) vs F1) X
structure TrI (Z : Wsh ε) (ρ : List (Option VP)) (κ : List Ow) (wi : TI) (m : Wm ε (List β)) (Rx : β → VP) : Prop where
  mono : ∀ a, Mono (Rx a)
  run : ∀ σ F L, SatV ρ σ F → SatC κ σ F L → ∀ Q X, m Q X → RunW Z (wi σ) F L (fun J F1 => ∃ xs, Q xs ∧ Seqs J (xs.map Rx) F1) X
/-- what a block ends with: on, or a value handed back -/
abbrev Ws (ε S α : Type) := (S → Prop) → (α → Prop) → (ε → Prop) → Prop
def RunSW (Z : Wsh ε) (t : TS) (σ : L2.St) (F : Hp) (L : Cells) (Nx : L2.St → Hp → Cells → Prop) (Rt : VP) (X : ε → Prop) : Prop :=
  ∀ F1 N H, Same F F1 → At F1 (L ++ N) H → WishOk Z F1 N X → ∀ D : Ends, (∀ σ' F' L' H', Same F1 F' → At F' (L' ++ N) H' → Nx σ' F' L' → D.nx σ' H') → (∀ v F' H', Same F1 F' → At F' N H' → Rt v F' → D.rt v H') → t D σ H
structure TrS (Z : Wsh ε) (ρ : List (Option VP)) (κ : List Ow) (t : TS) (m : Ws ε S α) (ρ2 : S → List (Option VP)) (κ2 : S → List Ow) (R : α → VP) : Prop where
  run : ∀ σ F L, SatV ρ σ F → SatC κ σ F L → ∀ Nx Rt X, m Nx Rt X → RunSW Z t σ F L (fun σ' F' L' => ∃ s, Nx s ∧ SatV (ρ2 s) σ' F' ∧ SatC (κ2 s) σ' F' L') (fun v F' => ∃ a, Rt a ∧ R a v F') X
end
end Tw

/-! Tw1: expressions. -/
namespace Tw
open PySem PySem.Spec PyProof.Rows L2 SlX StX Rs Ma
variable [Rs.Tabz]
/-! ### families of values -/
def dInt : Int → PyData := fun i => .int i
def dN : Nat → PyData := fun n => .int (n : Nat)
def dB : Bool → PyData := fun b => .bool b
def dS : Str → PyData := fun x => .str x
def dU : Unit → PyData := fun _ => .none
def dT {α : Type} (d : α → PyData) : List α → PyData := fun xs => .tuple (xs.map d)
def dL {α : Type} (d : α → PyData) : List α → PyData := fun xs => .list (xs.map d)
def dP {α β : Type} (d : α → PyData) (e : β → PyData) : α × β → PyData := fun p => .tuple [d p.1, e p.2]
def dP3 {α β γ : Type} (d : α → PyData) (e : β → PyData) (f : γ → PyData) : α × β × γ → PyData := fun p => .tuple [d p.1, e p.2.1, f p.2.2]
def dA : PyData → PyData := fun d => d
def fD (K : PySem.W.Frag) {α : Type} (d : α → PyData) : α → VP := fun a => Dt K (d a)
def fTp (K : PySem.W.Frag) {α : Type} (R : α → VP) : List α → VP := fun xs => Tp K (xs.map R)
def fLn {α : Type} (R : α → VP) : List α → VP := fun xs => Ln (xs.map R)
def fP (K : PySem.W.Frag) {α β : Type} (R : α → VP) (S : β → VP) : α × β → VP := fun p => Tp K [R p.1, S p.2]
instance {K : PySem.W.Frag} {α : Type} {d : α → PyData} {a : α} : Mono (fD K d a) := inferInstanceAs (Mono (Dt K (d a)))
instance {K : PySem.W.Frag} {α : Type} {R : α → VP} [∀ a, Mono (R a)] {xs : List α} : Mono (fTp K R xs) := inferInstanceAs (Mono (Tp K (xs.map R)))
instance {α : Type} {R : α → VP} [∀ a, Mono (R a)] {xs : List α} : Mono (fLn R xs) := inferInstanceAs (Mono (Ln (xs.map R)))
instance {K : PySem.W.Frag} {α β : Type} {R : α → VP} {S : β → VP} [∀ a, Mono (R a)] [∀ a, Mono (S a)] {p : α × β} : Mono (fP K R S p) := inferInstanceAs (Mono (Tp K [R p.1, S p.2]))
/-- data of which == tells whether it is the same -/
class Nice {α : Type} [DecidableEq α] (d : α → PyData) (n : outParam Nat) : Prop where
  lay : ∀ a, (d a).canLay0 = true
  dep : ∀ a, (d a).depth ≤ n
  eq : ∀ a b, PyData.eqv (d a) (d b) = decide (a = b)
instance : Nice dInt 0 := ⟨fun _ => rfl, fun _ => Nat.zero_le _, fun a b => by
  show (a == b) = _
  by_cases h : a = b
  · subst h; simp
  · simp [h]⟩
instance : Nice dN 0 := ⟨fun _ => rfl, fun _ => Nat.zero_le _, fun a b => by
  show (((a : Nat) : Int) == ((b : Nat) : Int)) = _
  by_cases h : a = b
  · subst h; simp
  · have h' : ¬ ((a : Nat) : Int) = ((b : Nat) : Int) := by omega
    simp [h, h']⟩
instance : Nice dB 0 := ⟨fun _ => rfl, fun _ => Nat.zero_le _, fun a b => by
  show (a == b) = _
  by_cases h : a = b
  · subst h; simp
  · simp [h]⟩
instance {α : Type} [DecidableEq α] {d : α → PyData} {n : Nat} [h : Nice d n] : Nice (dT d) (n + 1) := ⟨fun a => by rw [dT, PyData.canLay0]; exact lay_all h.lay, fun a => by
  rw [dT, PyData.depth]
  have := dep_all h.dep (xs := a)
  omega, fun a b => by rw [dT, dT, PyData.eqv]; exact eqvAll_of h.eq⟩
instance {α : Type} [DecidableEq α] {d : α → PyData} {n : Nat} [h : Nice d n] : Nice (dL d) (n + 1) := ⟨fun a => by rw [dL, PyData.canLay0]; exact lay_all h.lay, fun a => by
  rw [dL, PyData.depth]
  have := dep_all h.dep (xs := a)
  omega, fun a b => by rw [dL, dL, PyData.eqv]; exact eqvAll_of h.eq⟩
instance {α β : Type} [DecidableEq α] [DecidableEq β] {d : α → PyData} {e : β → PyData} {n m : Nat} [h : Nice d n] [g : Nice e m] : Nice (dP d e) (n + m + 1) := ⟨fun a => by
  simp only [dP, PyData.canLay0, PyData.canLayAll0, h.lay, g.lay, Bool.and_self], fun a => by
  have h1 := h.dep a.1
  have h2 := g.dep a.2
  simp only [dP, PyData.depth, PyData.depthAll]
  omega, fun a b => by
  simp only [dP, PyData.eqv, PyData.eqvAll, h.eq, g.eq, Bool.and_true]
  obtain ⟨a1, a2⟩ := a
  obtain ⟨b1, b2⟩ := b
  by_cases h1 : a1 = b1 <;> by_cases h2 : a2 = b2 <;> simp [h1, h2]⟩
theorem nice_shaped {α : Type} [DecidableEq α] {d : α → PyData} {n : Nat} [h : Nice d n] (hn : n ≤ 64) (a : α) : SeqAt.shaped (d a) = true := shaped_of (h.lay a) (Nat.le_trans (h.dep a) hn)
theorem nice_any {α : Type} [DecidableEq α] {d : α → PyData} {n : Nat} [h : Nice d n] {a : α} : ∀ {xs : List α}, ((xs.map d).any fun z => PyData.eqv z (d a)) = decide (a ∈ xs)
  | [] => rfl
  | x :: xs => by
    rw [List.map_cons, List.any_cons, h.eq, nice_any (xs := xs)]
    by_cases h1 : x = a
    · subst h1; simp
    · have h2 : ¬ a = x := fun z => h1 z.symm
      simp [h1, h2]

section
variable {ε α β γ δ : Type} {Z : Wsh ε} {ρ : List (Option VP)} {κ : List Ow} {K : PySem.W.Frag} {w : World} {te ta tb tc : TE} {tt tu : TT} {t : TA} {ma : Wm ε α} {mb : Wm ε β} {m : Wm ε α} {Ra R : α → VP} {Rb : β → VP} {Rc : γ → VP} {r r' : R2} {i j : Nat}
theorem TrE.of [∀ a, Mono (R a)] (h : ∀ σ F L, SatV ρ σ F → SatC κ σ F L → ∀ Q X, m Q X → Run (te σ) F L (fun v F1 => ∃ a, Q a ∧ R a v F1)) : TrE Z ρ κ te m R := ⟨inferInstance, fun σ F L s c Q X q => .of (h σ F L s c Q X q)⟩
theorem tr_c {v : V} {a : α} [∀ a, Mono (R a)] (h : ∀ F, R a v F) : TrE Z ρ κ (tC v) (pur a) R := .of fun σ F L s c Q X q => run_ret fun F1 e => ⟨a, q, h F1⟩
theorem tr_int {j : Int} : TrE Z ρ κ (tC (.int j)) (pur j) (fD K dInt) := tr_c (R := fD K dInt) fun F => .int j
theorem tr_nat (n : Nat) : TrE Z ρ κ (tC (.int (n : Nat))) (pur n) (fD K dN) := tr_c (R := fD K dN) fun F => .int _
theorem tr_bl {b : Bool} : TrE Z ρ κ (tC (.bl b)) (pur b) (fD K dB) := tr_c (R := fD K dB) fun F => .bl b
theorem tr_str {x : Str} : TrE Z ρ κ (tC (.str x)) (pur x) (fD K dS) := tr_c (R := fD K dS) fun F => .str x
theorem tr_non : TrE Z ρ κ (tC .non) (pur ()) (fD K dU) := tr_c (R := fD K dU) fun F => .non
theorem tr_var {a : α} [∀ a, Mono (R a)] (h : lk ρ i = some (R a)) : TrE Z ρ κ (tVar i) (pur a) R := .of fun σ F L s c Q X q => by
  obtain ⟨v, e, hr, m⟩ := satV_get s h
  exact (r_var e hr).weak fun _ _ _ hv => ⟨a, q, hv⟩
theorem TrE.conv {β : Type} {R' : β → VP} [∀ a, Mono (R' a)] (f : α → β) (h : TrE Z ρ κ te m R) (hr : ∀ a v F, R a v F → R' (f a) v F) : TrE Z ρ κ te (fun Q X => m (fun a => Q (f a)) X) R' :=
  ⟨inferInstance, fun σ F L s c Q X q => (h.run σ F L s c _ X q).weak fun v F2 e ⟨a, q1, r1⟩ => ⟨f a, q1, hr a v F2 r1⟩⟩
theorem tr_ni {m : Wm ε Nat} (h : TrE Z ρ κ te m (fD K dN)) : TrE Z ρ κ te (fun Q X => m (fun n => Q (n : Int)) X) (fD K dInt) := h.conv _ fun _ _ _ x => x
theorem tr_any {d : α → PyData} (h : TrE Z ρ κ te m (fD K d)) : TrE Z ρ κ te (fun Q X => m (fun a => Q (d a)) X) (fD K dA) := h.conv d fun _ _ _ x => x
theorem fTp_dT {d : α → PyData} {xs : List α} {v : V} {F : Hp} : fTp K (fD K d) xs v F ↔ fD K (dT d) xs v F := by
  show Tp K (xs.map (fD K d)) v F ↔ Dt K (.tuple (xs.map d)) v F
  rw [← tp_dt, List.map_map]
  exact Iff.rfl
theorem rLn_dL {d : α → PyData} {xs : List α} {v : V} {F : Hp} (h : fLn (fD K d) xs v F) : fD K (dL d) xs v F :=
  ls_dt.mp (by rw [List.map_map]; exact Ln.ls h)
theorem rP_dP {d : α → PyData} {e : β → PyData} {p : α × β} {v : V} {F : Hp} : fP K (fD K d) (fD K e) p v F ↔ fD K (dP d e) p v F := by
  show Tp K ([d p.1, e p.2].map (Dt K)) v F ↔ _
  exact tp_dt
theorem TrE.same {R' : α → VP} [∀ a, Mono (R' a)] (h : TrE Z ρ κ te m R) (hr : ∀ a v F, R a v F → R' a v F) : TrE Z ρ κ te m R' :=
  ⟨inferInstance, fun σ F L s c Q X q => (h.run σ F L s c _ X q).weak fun v F2 e ⟨a, q1, r1⟩ => ⟨a, q1, hr a v F2 r1⟩⟩
theorem tr_tpD {d : α → PyData} {m : Wm ε (List α)} (h : TrE Z ρ κ te m (fTp K (fD K d))) : TrE Z ρ κ te m (fD K (dT d)) := h.same fun _ _ _ => fTp_dT.mp
theorem tr_dTp {d : α → PyData} {m : Wm ε (List α)} (h : TrE Z ρ κ te m (fD K (dT d))) : TrE Z ρ κ te m (fTp K (fD K d)) := h.same fun _ _ _ => fTp_dT.mpr
theorem tr_lnD {d : α → PyData} {m : Wm ε (List α)} (h : TrE Z ρ κ te m (fLn (fD K d))) : TrE Z ρ κ te m (fD K (dL d)) := h.same fun _ _ _ => rLn_dL
theorem tr_pD {d : α → PyData} {e : β → PyData} {m : Wm ε (α × β)} (h : TrE Z ρ κ te m (fP K (fD K d) (fD K e))) : TrE Z ρ κ te m (fD K (dP d e)) := h.same fun _ _ _ => rP_dP.mp
/-! ### operations of two -/
structure Op2 (ε : Type) (r : R2) (Ra : α → VP) (Rb : β → VP) (mf : α → β → Wm ε γ) (Rc : γ → VP) : Prop where
  run : ∀ a b x y F L, Ra a x F → Rb b y F → ∀ Q X, mf a b Q X → Run (fun H q => r x y H q) F L (fun v F1 => ∃ c, Q c ∧ Rc c v F1)
theorem tr_op [∀ c, Mono (Rc c)] {mf : α → β → Wm ε γ} (o : Op2 ε r Ra Rb mf Rc) (ha : TrE Z ρ κ ta ma Ra) (hb : TrE Z ρ κ tb mb Rb) : TrE Z ρ κ (tOp r ta tb) (fun Q X => ma (fun a => mb (fun b => mf a b Q X) X) X) Rc :=
  ⟨inferInstance, fun σ F L s c Q X q => rw_bind (k := ta σ) (ha.run σ F L s c _ X q) fun x F1 e1 ⟨a, q1, hx⟩ => rw_bind (k := tb σ) (hb.run σ F1 L (satV_up e1 s) (satC_up e1 c) _ X q1) fun y F2 e2 ⟨b, q2, hy⟩ =>
    .of (o.run a b x y F2 L ((ha.mono a).mono _ _ _ e2 hx) hy Q X q2)⟩
/-- from a run of constants -/
theorem op_of {mf : α → β → Wm ε γ} (h : ∀ a b x y F L, Ra a x F → Rb b y F → ∀ Q X, mf a b Q X → ∃ c, Q c ∧ Run (tOp r (tC x) (tC y) []) F L (Rc c)) : Op2 ε r Ra Rb mf Rc :=
  ⟨fun a b x y F L hx hy Q X q => by
    obtain ⟨c, q1, h1⟩ := h a b x y F L hx hy Q X q
    exact Run.weak (k := fun H q => r x y H q) h1 fun v F1 e hv => ⟨c, q1, hv⟩⟩
theorem op_pur {f : α → β → γ} (h : ∀ a b x y F L, Ra a x F → Rb b y F → Run (tOp r (tC x) (tC y) []) F L (Rc (f a b))) : Op2 ε r Ra Rb (fun a b => pur (f a b)) Rc :=
  op_of fun a b x y F L hx hy Q X q => ⟨f a b, q, h a b x y F L hx hy⟩
variable {f : Int → Int → Int} {g : Int → Int → Bool} {C : Int → Int → Prop}
theorem o_i0i : Op2 ε (rI0 fun i j => .int (f i j)) (fD K dInt) (fD K dInt) (fun a b => pur (f a b)) (fD K dInt) :=
  op_pur fun a b x y F L hx hy => r_I0i (r_c (R := Dt K (.int a)) hx) (r_c (R := Dt K (.int b)) hy)
theorem o_addN : Op2 ε (rI0 fun i j => .int (i + j)) (fD K dN) (fD K dN) (fun a b => pur (a + b)) (fD K dN) :=
  op_pur fun a b x y F L hx hy => r_is (r_I0i (r_c (R := Dt K (.int a)) hx) (r_c (R := Dt K (.int b)) hy)) (by show _ = PyData.int ((a + b : Nat) : Int); rw [Int.natCast_add])
theorem o_gtN : Op2 ε (rI0 fun i j => .bl (decide (j < i))) (fD K dN) (fD K dN) (fun a b => pur (decide (b < a))) (fD K dB) :=
  op_pur fun a b x y F L hx hy => r_is (r_I0b (r_c (R := Dt K (.int a)) hx) (r_c (R := Dt K (.int b)) hy)) (congrArg PyData.bool (decide_eq_decide.mpr (by omega)))
theorem o_eqN : Op2 ε rEq (fD K dN) (fD K dN) (fun a b => pur (decide (a = b))) (fD K dB) := op_pur fun a b x y F L hx hy => r_eqN (r_c (R := Dt K (nI a)) hx) (r_c (R := Dt K (nI b)) hy)
theorem o_neN : Op2 ε rNe (fD K dN) (fD K dN) (fun a b => pur (!decide (a = b))) (fD K dB) := op_pur fun a b x y F L hx hy => r_neN (r_c (R := Dt K (nI a)) hx) (r_c (R := Dt K (nI b)) hy)
theorem o_eqS : Op2 ε rEq (fD K dS) (fD K dS) (fun a b => pur (decide (a = b))) (fD K dB) := op_pur fun a b x y F L hx hy => by
  cases hx; cases hy
  refine fun F2 N H e2 A Q q => ⟨rfl, q _ F2 H (Same.refl _) A ?_⟩
  have e : decide (V.str a = V.str b) = decide (a = b) := decide_eq_decide.mpr ⟨fun h => V.str.inj h, fun h => h ▸ rfl⟩
  rw [e]; exact .bl _
theorem o_neS : Op2 ε rNe (fD K dS) (fD K dS) (fun a b => pur (!decide (a = b))) (fD K dB) := op_pur fun a b x y F L hx hy => by
  cases hx; cases hy
  refine fun F2 N H e2 A Q q => ⟨rfl, q _ F2 H (Same.refl _) A ?_⟩
  have e : decide (V.str a = V.str b) = decide (a = b) := decide_eq_decide.mpr ⟨fun h => V.str.inj h, fun h => h ▸ rfl⟩
  rw [e]; exact .bl _
theorem o_eqD [DecidableEq α] {d : α → PyData} {n : Nat} [Nice d n] (hn : n ≤ 64 := by decide) : Op2 ε (rEqD K) (fD K d) (fD K d) (fun a b => pur (decide (a = b))) (fD K dB) :=
  op_pur fun a b x y F L hx hy => r_is (r_eqD (r_c (R := Dt K (d a)) hx) (r_c (R := Dt K (d b)) hy) (nice_shaped hn a) (nice_shaped hn b)) (congrArg PyData.bool (Nice.eq a b))
theorem o_neD [DecidableEq α] {d : α → PyData} {n : Nat} [Nice d n] (hn : n ≤ 64 := by decide) : Op2 ε (rNeD K) (fD K d) (fD K d) (fun a b => pur (!decide (a = b))) (fD K dB) :=
  op_pur fun a b x y F L hx hy => r_is (r_neD (r_c (R := Dt K (d a)) hx) (r_c (R := Dt K (d b)) hy) (nice_shaped hn a) (nice_shaped hn b)) (congrArg (fun b => PyData.bool (!b)) (Nice.eq a b))
theorem o_inDT [DecidableEq α] {d : α → PyData} {n : Nat} [h : Nice d n] (hn : n ≤ 63 := by decide) : Op2 ε (Nq.rInDT K false) (fD K d) (fD K (dT d)) (fun a b => pur (decide (a ∈ b))) (fD K dB) :=
  op_pur fun a b x y F L hx hy => r_is (r_inDT (r_c (R := Dt K (d a)) hx) (r_c (R := Dt K (.tuple (b.map d))) hy) (nice_shaped (by omega) a) (nice_shaped (d := dT d) (by omega) b)) (congrArg PyData.bool nice_any)
/-! items -/
theorem o_ixT {d : α → PyData} : Op2 ε (rIxT K) (fD K (dT d)) (fD K dN) (fun xs i Q X => ∃ a, xs[i]? = some a ∧ Q a) (fD K d) :=
  op_of fun xs i x y F L hx hy Q X ⟨a, h, q⟩ => ⟨a, q, r_ixT (r_c (R := Dt K (.tuple (xs.map d))) hx) (r_c (R := Dt K (.int (i : Nat))) hy) (by rw [List.getElem?_map, h]; rfl)⟩
theorem o_ixLn [∀ a, Mono (R a)] : Op2 ε (rIxL K) (fLn R) (fD K dN) (fun xs i Q X => ∃ a, xs[i]? = some a ∧ Q a) R :=
  op_of fun xs i x y F L hx hy Q X ⟨a, h, q⟩ => ⟨a, q, r_ixLs (r_ls (r_c (R := Ln (xs.map R)) hx)) (r_c (R := Dt K (.int (i : Nat))) hy) (by rw [List.getElem?_map, h]; rfl)⟩
/-! texts, lists put together -/
theorem o_addS : Op2 ε (fun u v H Q => ∃ i j, u = V.str i ∧ v = .str j ∧ i.length + j.length ≤ sizeLine ∧ Q (.str (i ++ j)) H) (fD K dS) (fD K dS) (fun a b Q X => a.length + b.length ≤ 100000 ∧ Q (a ++ b)) (fD K dS) :=
  op_of fun a b x y F L hx hy Q X q => ⟨_, q.2, r_addS (r_c (R := Dt K (.str a)) hx) (r_c (R := Dt K (.str b)) hy) q.1⟩
theorem o_cat [∀ a, Mono (R a)] : Op2 ε rCat (fLn R) (fLn R) (fun a b Q X => a.length + b.length ≤ 10000 ∧ Q (a ++ b)) (fLn R) :=
  op_of fun a b x y F L hx hy Q X q => ⟨_, q.2, r_cat (r_c (R := Ln (a.map R)) hx) (r_c (R := Ln (b.map R)) hy) q.1⟩

/-! ### chains, truth -/
def andW (ma mb : Wm ε Bool) : Wm ε Bool := fun Q X => ma (fun a => if a = true then mb Q X else Q false) X
def orW (ma mb : Wm ε Bool) : Wm ε Bool := fun Q X => ma (fun a => if a = true then Q true else mb Q X) X
def iteW (b : Bool) (m1 m2 : Wm ε α) : Wm ε α := fun Q X => if b = true then m1 Q X else m2 Q X
theorem andW_of {ma mb : Wm ε Bool} {Q : Bool → Prop} {X : ε → Prop} (a b : Bool) (h1 : ∀ P : Bool → Prop, P a → ma P X) (h2 : a = true → ∀ P : Bool → Prop, P b → mb P X) (q : Q (a && b)) : andW ma mb Q X := by
  refine h1 _ ?_
  cases a with
  | true => exact h2 rfl Q q
  | false => exact q
theorem orW_of {ma mb : Wm ε Bool} {Q : Bool → Prop} {X : ε → Prop} (a b : Bool) (h1 : ∀ P : Bool → Prop, P a → ma P X) (h2 : a = false → ∀ P : Bool → Prop, P b → mb P X) (q : Q (a || b)) : orW ma mb Q X := by
  refine h1 _ ?_
  cases a with
  | false => exact h2 rfl Q q
  | true => exact q
section
variable {ma mb mm : Wm ε Bool}
theorem tr_and (ha : TrE Z ρ κ ta ma (fD K dB)) (hb : TrE Z ρ κ tb mb (fD K dB)) : TrE Z ρ κ (tAndV ta tb) (andW ma mb) (fD K dB) :=
  ⟨inferInstance, fun σ F L s c Q X q => rw_bind (k := ta σ) (ha.run σ F L s c _ X q) fun x F1 e1 ⟨a, q1, hx⟩ => by
    cases hx
    intro F4 N H e4 A wsh Qk qk
    refine ⟨a, rfl, ?_⟩
    cases a with
    | true => exact iteT (hb.run σ F1 L (satV_up e1 s) (satC_up e1 c) Q X (by rwa [if_pos rfl] at q1) F4 N H e4 A wsh Qk qk)
    | false => exact iteF (qk _ F4 H (Same.refl _) A ⟨false, by rwa [if_neg Bool.false_ne_true] at q1, .bl false⟩)⟩
theorem tr_or (ha : TrE Z ρ κ ta ma (fD K dB)) (hb : TrE Z ρ κ tb mb (fD K dB)) : TrE Z ρ κ (tOrV ta tb) (orW ma mb) (fD K dB) :=
  ⟨inferInstance, fun σ F L s c Q X q => rw_bind (k := ta σ) (ha.run σ F L s c _ X q) fun x F1 e1 ⟨a, q1, hx⟩ => by
    cases hx
    intro F4 N H e4 A wsh Qk qk
    refine ⟨a, rfl, ?_⟩
    cases a with
    | false => exact iteF (hb.run σ F1 L (satV_up e1 s) (satC_up e1 c) Q X (by rwa [if_neg Bool.false_ne_true] at q1) F4 N H e4 A wsh Qk qk)
    | true => exact iteT (qk _ F4 H (Same.refl _) A ⟨true, by rwa [if_pos rfl] at q1, .bl true⟩)⟩
theorem tr_if {m1 m2 : Wm ε α} (ht : TrT Z ρ κ tt mm) (h1 : TrE Z ρ κ ta m1 R) (h2 : TrE Z ρ κ tb m2 R) : TrE Z ρ κ (tIf tt ta tb) (fun Q X => mm (fun b => iteW b m1 m2 Q X) X) R :=
  ⟨h1.mono, fun σ F L s c Q X q => rw_bind (k := tt σ) (ht.run σ F L s c _ X q) fun b F1 e1 q1 => by
    intro F4 N H e4 A wsh Qk qk
    cases b with
    | true => exact iteT (h1.run σ F1 L (satV_up e1 s) (satC_up e1 c) Q X q1 F4 N H e4 A wsh Qk qk)
    | false => exact iteF (h2.run σ F1 L (satV_up e1 s) (satC_up e1 c) Q X q1 F4 N H e4 A wsh Qk qk)⟩
theorem tt_test (ha : TrE Z ρ κ ta ma (fD K dB)) : TrT Z ρ κ (tTest ta) ma :=
  ⟨fun σ F L s c Q X q => rw_bind (k := ta σ) (ha.run σ F L s c _ X q) fun x F1 e1 ⟨a, q1, hx⟩ => by
    cases hx
    intro F4 N H e4 A wsh Qk qk
    exact ⟨a, rfl, qk _ F4 H (Same.refl _) A q1⟩⟩
theorem tt_B (ha : TrE Z ρ κ ta ma (fD K dB)) : TrT Z ρ κ (tB ta) ma :=
  ⟨fun σ F L s c Q X q => rw_bind (k := ta σ) (ha.run σ F L s c _ X q) fun x F1 e1 ⟨a, q1, hx⟩ => by
    cases hx
    intro F4 N H e4 A wsh Qk qk
    exact ⟨a, rfl, qk _ F4 H (Same.refl _) A q1⟩⟩
theorem tt_yes : TrT Z ρ κ tYes (pur true) := ⟨fun σ F L s c Q X q => .of (run_ret fun _ _ => q)⟩
theorem tt_not (h : TrT Z ρ κ tt ma) : TrT Z ρ κ (tNot tt) (fun Q X => ma (fun a => Q (!a)) X) :=
  ⟨fun σ F L s c Q X q => rw_bind (k := tt σ) (h.run σ F L s c _ X q) fun x F1 e1 q1 => rw_ret fun _ _ => q1⟩
theorem tt_or (h : TrT Z ρ κ tt ma) (h2 : TrT Z ρ κ tu mb) : TrT Z ρ κ (tOr tt tu) (orW ma mb) :=
  ⟨fun σ F L s c Q X q => rw_bind (k := tt σ) (h.run σ F L s c _ X q) fun a F1 e1 q1 => by
    intro F4 N H e4 A wsh Qk qk
    cases a with
    | false => exact iteF (h2.run σ F1 L (satV_up e1 s) (satC_up e1 c) Q X q1 F4 N H e4 A wsh Qk qk)
    | true => exact iteT (qk _ F4 H (Same.refl _) A (by rwa [if_pos rfl] at q1))⟩
end
end
end Tw

/-! Tw2: arguments, calls, what is built in. -/
namespace Tw
open PySem PySem.Spec PyProof.Rows L2 SlX StX Rs Ma
variable [Rs.Tabz]
def fSet (w : World) : List Nat → VP := fun xs => Rs.St w (cI xs)
instance {w : World} {xs : List Nat} : Mono (fSet w xs) := inferInstanceAs (Mono (Rs.St w (cI xs)))
/-- ascending, as often as they are -/
def strN (n : Nat) : Str := toString (n : Int)
def sortN (xs : List Nat) : List Nat := xs.mergeSort fun a b => decide (a ≤ b)
theorem sortN_perm {xs : List Nat} : (sortN xs).Perm xs := List.mergeSort_perm _ _
theorem sortN_asc {xs : List Nat} : (sortN xs).Pairwise (· ≤ ·) := by
  have := List.pairwise_mergeSort (le := fun a b : Nat => decide (a ≤ b)) (fun a b c h1 h2 => by simp only [decide_eq_true_eq] at *; omega) (fun a b => by simp only [Bool.or_eq_true, decide_eq_true_eq]; omega) xs
  exact this.imp fun h => of_decide_eq_true h
theorem sortN_eq {xs ys : List Nat} (h1 : ys.Pairwise (· ≤ ·)) (h2 : ys.Perm xs) : sortN xs = ys :=
  List.Perm.eq_of_pairwise (le := (· ≤ ·)) (fun a b _ _ x y => Nat.le_antisymm x y) sortN_asc h1 (sortN_perm.trans h2.symm)
section
variable {ε α β γ δ : Type} {Z : Wsh ε} {ρ : List (Option VP)} {κ : List Ow} {K : PySem.W.Frag} {w : World} {te ta tb tc : TE} {t : TA} {ma : Wm ε α} {mb : Wm ε β} {m : Wm ε α} {mg : Wm ε γ} {Ra R : α → VP} {Rb : β → VP} {Rc : γ → VP} {Rd : δ → VP} {Rs : γ → List VP}
/-! ### arguments -/
theorem ta_one (h : TrE Z ρ κ te m R) : TrA Z ρ κ (tCons te tNil) m fun a => [R a] :=
  have := h.mono
  ⟨fun a => inferInstanceAs (MonoL [R a]), fun σ F L s c Q X q => rw_bind (k := te σ) (h.run σ F L s c Q X q) fun v F1 e ⟨a, q1, r1⟩ => rw_ret fun F2 e2 => ⟨a, q1, Mono.go r1 e2, True.intro⟩⟩
theorem ta_cons (h : TrE Z ρ κ te m R) (h2 : TrA Z ρ κ t mg Rs) : TrA Z ρ κ (tCons te t) (fun Q X => m (fun a => mg (fun g => Q (a, g)) X) X) fun p => R p.1 :: Rs p.2 :=
  have := h.mono
  have := h2.mono
  ⟨fun p => inferInstanceAs (MonoL (R p.1 :: Rs p.2)), fun σ F L s c Q X q => rw_bind (k := te σ) (h.run σ F L s c _ X q) fun v F1 e ⟨a, q1, r1⟩ => rw_bind (k := t σ) (h2.run σ F1 L (satV_up e s) (satC_up e c) _ X q1) fun vs F2 e2 ⟨g, q2, r2⟩ =>
    rw_ret fun F3 e3 => ⟨(a, g), q2, Mono.go r1 (e2.trans e3), MonoL.mono _ _ _ e3 r2⟩⟩
/-- as many of one kind -/
theorem ta_lnil [∀ a, Mono (R a)] : TrA Z ρ κ tNil (pur []) fun xs : List α => xs.map R := ⟨fun _ => inferInstance, fun σ F L s c Q X q => .of (run_ret fun F1 e => ⟨[], q, True.intro⟩)⟩
theorem ta_lcons {ml : Wm ε (List α)} (h : TrE Z ρ κ te m R) (h2 : TrA Z ρ κ t ml fun xs => xs.map R) : TrA Z ρ κ (tCons te t) (fun Q X => m (fun a => ml (fun g => Q (a :: g)) X) X) fun xs => xs.map R :=
  have := h.mono
  ⟨fun p => inferInstance, fun σ F L s c Q X q => rw_bind (k := te σ) (h.run σ F L s c _ X q) fun v F1 e ⟨a, q1, r1⟩ => rw_bind (k := t σ) (h2.run σ F1 L (satV_up e s) (satC_up e c) _ X q1) fun vs F2 e2 ⟨g, q2, r2⟩ =>
    rw_ret fun F3 e3 => ⟨a :: g, q2, Mono.go r1 (e2.trans e3), MonoL.mono _ _ _ e3 r2⟩⟩
theorem tr_tup {ml : Wm ε (List α)} [∀ a, Mono (R a)] (h : TrA Z ρ κ t ml fun xs => xs.map R) : TrE Z ρ κ (tTup t) (fun Q X => ml (fun xs => xs.length ≤ 100000 ∧ Q xs) X) (fTp K R) :=
  ⟨inferInstance, fun σ F L s c Q X q => rw_bind (k := t σ) (h.run σ F L s c _ X q) fun vs F1 e ⟨xs, ⟨q0, q1⟩, r1⟩ =>
    .of (run_and (fun _ _ _ _ _ => len_ok (by rw [each_length r1, List.length_map]; exact q0)) (run_new fun F2 p e2 hp => ⟨xs, q1, p, vs, rfl, .inl (.inl upd_same), MonoL.mono _ _ _ (e2.trans (same_new hp)) r1⟩))⟩
theorem tr_pair (ha : TrE Z ρ κ ta ma Ra) (hb : TrE Z ρ κ tb mb Rb) : TrE Z ρ κ (tTup (tCons ta (tCons tb tNil))) (fun Q X => ma (fun a => mb (fun b => Q (a, b)) X) X) (fP K Ra Rb) :=
  have := ha.mono
  have := hb.mono
  ⟨inferInstance, fun σ F L s c Q X q => rw_bind (k := tCons ta (tCons tb tNil) σ) ((ta_cons ha (ta_one hb)).run σ F L s c _ X q) fun vs F1 e ⟨p, q1, r1⟩ =>
    .of (run_and (fun _ _ _ _ _ => len_ok (by rw [each_length r1]; show 2 ≤ 100000; decide)) (run_new fun F2 a e2 hp => ⟨p, q1, a, vs, rfl, .inl (.inl upd_same), MonoL.mono (Rs := [Ra p.1, Rb p.2]) _ _ _ (e2.trans (same_new hp)) r1⟩))⟩
/-- a list that stays -/
theorem tr_lst {ml : Wm ε (List α)} [∀ a, Mono (R a)] (h : TrA Z ρ κ t ml fun xs => xs.map R) : TrE Z ρ κ (tLst t) (fun Q X => ml (fun xs => xs.length ≤ 100000 ∧ Q xs) X) (fLn R) :=
  ⟨inferInstance, fun σ F L s c Q X q => rw_bind (k := t σ) (h.run σ F L s c _ X q) fun vs F1 e ⟨xs, ⟨q0, q1⟩, r1⟩ =>
    .of (run_and (fun _ _ _ _ _ => len_ok (by rw [each_length r1, List.length_map]; exact q0)) (run_new fun F2 p e2 hp => ⟨xs, q1, p, vs, rfl, upd_same, MonoL.mono _ _ _ (e2.trans (same_new hp)) r1⟩))⟩

/-! ### promises -/
def SpN {γ δ : Type} (Rs : γ → List VP) (spec : γ → (δ → Prop) → Prop) (R : δ → VP) : Sp := fun vs H Q _ => ∃ g F N P, At F N H ∧ Each (Rs g) vs F ∧ spec g P ∧ ∀ d v F' H', Same F F' → At F' N H' → P d → R d v F' → Q v H'
theorem tr_call {spec : γ → (δ → Prop) → Prop} {E : XK} [∀ d, Mono (Rd d)] (h : TrA Z ρ κ t mg Rs) : TrE Z ρ κ (tCall (SpN Rs spec Rd) [] E t) (fun Q X => mg (fun g => spec g Q) X) Rd :=
  ⟨inferInstance, fun σ F L s c Q X q => rw_bind (k := t σ) (h.run σ F L s c _ X q) fun vs F1 e ⟨g, q1, r1⟩ => by
    rw [List.append_nil]
    have := h.mono
    exact fun F2 N H e2 A wsh Qk qk => ⟨g, F2, L ++ N, Q, A, MonoL.mono _ _ _ e2 r1, q1, fun d v F3 H3 e3 A3 p r => qk v F3 H3 e3 A3 ⟨d, p, r⟩⟩⟩
theorem tr_met {C : Addr} {spec : α × γ → (δ → Prop) → Prop} {E : XK} [∀ d, Mono (Rd d)] (ho : TrE Z ρ κ ta ma Ra) (hS : ∀ a v F, Ra a v F → IsOb C v F) (h : TrA Z ρ κ t mg Rs) :
    TrE Z ρ κ (tMethSl C (SpN (fun p => Ra p.1 :: Rs p.2) spec Rd) E ta t) (fun Q X => ma (fun a => mg (fun g => spec (a, g) Q) X) X) Rd :=
  have := ho.mono
  have := h.mono
  ⟨inferInstance, fun σ F L s c Q X q => rw_bind (k := ta σ) (ho.run σ F L s c _ X q) fun x F1 e1 ⟨o, q1, hx⟩ => by
    obtain ⟨a, dx, vs, rfl, ha, hd⟩ := hS _ _ _ hx
    intro F2 N H e2 A wsh Qk qk
    refine ⟨a, dx, vs, rfl, .inr ⟨A.ex _ _ (e2 _ _ ha), A.ex _ _ (e2 _ _ hd)⟩, ?_⟩
    refine h.run σ F1 L (satV_up e1 s) (satC_up e1 c) _ X q1 F2 N H e2 A wsh _ fun ws F3 H3 e3 A3 ⟨g, q3, hv⟩ => ?_
    exact ⟨(o, g), F3, L ++ N, Q, A3, ⟨Mono.go hx (e2.trans e3), hv⟩, q3, fun d v F4 H4 e4 A4 p r => qk v F4 H4 (e3.trans e4) A4 ⟨d, p, r⟩⟩⟩
theorem tr_prp {C : Addr} {spec : α → (δ → Prop) → Prop} {E : XK} [∀ d, Mono (Rd d)] (ho : TrE Z ρ κ ta ma Ra) (hS : ∀ a v F, Ra a v F → IsOb C v F) :
    TrE Z ρ κ (tPropSl C (SpN (fun a => [Ra a]) spec Rd) E ta) (fun Q X => ma (fun a => spec a Q) X) Rd :=
  have := ho.mono
  ⟨inferInstance, fun σ F L s c Q X q => rw_bind (k := ta σ) (ho.run σ F L s c _ X q) fun x F1 e1 ⟨o, q1, hx⟩ => by
    obtain ⟨a, dx, vs, rfl, ha, hd⟩ := hS _ _ _ hx
    intro F2 N H e2 A wsh Qk qk
    exact ⟨a, dx, vs, rfl, .inr ⟨A.ex _ _ (e2 _ _ ha), A.ex _ _ (e2 _ _ hd)⟩, o, F2, L ++ N, Q, A, ⟨Mono.go hx e2, True.intro⟩, q1, fun d v F4 H4 e4 A4 p r => qk v F4 H4 e4 A4 ⟨d, p, r⟩⟩⟩
/-- C(..) by SpI -/
theorem tr_mk {C : Addr} {pre : γ → Prop} {R : γ → VP} {E : XK} [∀ d, Mono (R d)] (h : TrA Z ρ κ t mg Rs) : TrE Z ρ κ (tMake C (SpI C pre Rs R) [] E t) (fun Q X => mg (fun g => pre g ∧ Q g) X) R :=
  ⟨inferInstance, fun σ F L s c Q X q => rw_bind (k := t σ) (h.run σ F L s c _ X q) fun vs F1 e ⟨g, ⟨q0, q1⟩, r1⟩ => by
    have := h.mono
    refine RunW.weak (R := fun v F1 => R g v F1) (.of ?_) fun v F2 e2 hv => ⟨g, q1, hv⟩
    exact fun F2 N H e2 A Q q x dx h1 h2 h3 => (r_mk (γ := γ) (tt := fun _ H Q => Q vs H) (σ := σ) (E := E) (R := R) (Rs := Rs) g q0 (run_ret fun F3 e3 => MonoL.mono _ _ _ (e2.trans e3) r1)) F2 N H (Same.refl _) A Q q x dx h1 h2 h3⟩
/-- a reading over one value -/
theorem tr_lift {kk : TE → TE} {mf : α → Wm ε β} (hk : ∀ te σ H Q, kk te σ H Q = te σ H fun x H1 => kk (tC x) [] H1 Q) [∀ b, Mono (Rb b)] (h : TrE Z ρ κ te ma Ra) (f : ∀ a v F L, Ra a v F → ∀ Q X, mf a Q X → ∃ b, Q b ∧ Run (kk (tC v) []) F L (Rb b)) :
    TrE Z ρ κ (kk te) (fun Q X => ma (fun a => mf a Q X) X) Rb :=
  ⟨inferInstance, fun σ F L s c Q X q => by
    have e : kk te σ = fun H Q => te σ H fun x H1 => kk (tC x) [] H1 Q := by
      funext H Q
      exact hk te σ H Q
    rw [e]
    exact rw_bind (k := te σ) (h.run σ F L s c _ X q) fun x F1 e1 ⟨a, q1, hx⟩ => by
      obtain ⟨b, q2, r2⟩ := f a x F1 L hx Q X q1
      exact .of (r2.weak fun v F2 e2 hv => ⟨b, q2, hv⟩)⟩
/-- a slot of an object -/
structure Fld (K : PySem.W.Frag) (Ra : α → VP) (x : Str) (f : α → β) (Rb : β → VP) : Prop where
  run : ∀ a v F L, Ra a v F → Run (SlX.tSl K (tC v) x []) F L (Rb (f a))
theorem tr_fld {x : Str} {f : α → β} (fl : Fld K Ra x f Rb) [∀ b, Mono (Rb b)] (h : TrE Z ρ κ te ma Ra) : TrE Z ρ κ (SlX.tSl K te x) (fun Q X => ma (fun a => Q (f a)) X) Rb :=
  tr_lift (kk := fun te => SlX.tSl K te x) (mf := fun a => pur (f a)) (fun _ _ _ _ => rfl) h fun a v F L hx Q X q => ⟨f a, q, fl.run a v F L hx⟩

/-! ### what is built in -/
structure Cb (ε : Type) (q : List V → Hp → VK → Prop) (Rs : γ → List VP) (mf : γ → Wm ε δ) (R : δ → VP) : Prop where
  run : ∀ g vs F L, Each (Rs g) vs F → ∀ Q X, mf g Q X → Run (q vs) F L fun v F1 => ∃ d, Q d ∧ R d v F1
theorem Cb.of {q : List V → Hp → VK → Prop} {mf : γ → Wm ε δ} (h : ∀ g vs F L, Each (Rs g) vs F → ∀ Q X, mf g Q X → ∃ d, Q d ∧ Run (q vs) F L (Rd d)) : Cb ε q Rs mf Rd :=
  ⟨fun g vs F L hv Q X q => by
    obtain ⟨d, q2, r2⟩ := h g vs F L hv Q X q
    exact r2.weak fun v F2 e2 hv => ⟨d, q2, hv⟩⟩
theorem tr_cb {q : List V → Hp → VK → Prop} {mf : γ → Wm ε δ} [∀ d, Mono (Rd d)] (o : Cb ε q Rs mf Rd) (h : TrA Z ρ κ t mg Rs) : TrE Z ρ κ (tCB q t) (fun Q X => mg (fun g => mf g Q X) X) Rd :=
  ⟨inferInstance, fun σ F L s c Q X q => rw_bind (k := t σ) (h.run σ F L s c _ X q) fun vs F1 e ⟨g, q1, r1⟩ => .of (o.run g vs F1 L r1 Q X q1)⟩
theorem cb1 {q : List V → Hp → VK → Prop} {mf : α → Wm ε δ} (h : ∀ a v F L, Ra a v F → ∀ Q X, mf a Q X → ∃ d, Q d ∧ Run (tCB q (tCons (tC v) tNil) []) F L (Rd d)) : Cb ε q (fun a => [Ra a]) mf Rd :=
  .of fun g vs F L hv Q X q1 => by
    obtain ⟨v, rfl, hx⟩ := each1 hv
    exact h g v F L hx Q X q1
theorem cb1p {q : List V → Hp → VK → Prop} {f : α → δ} (h : ∀ a v F L, Ra a v F → Run (tCB q (tCons (tC v) tNil) []) F L (Rd (f a))) : Cb ε q (fun a => [Ra a]) (fun a => pur (f a)) Rd :=
  cb1 fun a v F L hx Q X q1 => ⟨f a, q1, h a v F L hx⟩

theorem cv {v : V} {F : Hp} {L : Cells} {R : VP} [Mono R] {σ : L2.St} (h : R v F) : Run (tCons (tC v) tNil σ) F L (Each [R]) := r_cons (r_c h) r_nil
theorem c_lenT [∀ a, Mono (R a)] : Cb ε (rLn K) (fun xs => [fTp K R xs]) (fun xs => pur xs.length) (fD K dN) :=
  cb1p fun xs v F L hx => r_is (r_lnT (cv (R := Tp K (xs.map R)) hx)) (by rw [List.length_map]; rfl)
theorem c_lenL [∀ a, Mono (R a)] : Cb ε (rLn K) (fun xs => [fLn R xs]) (fun xs => pur xs.length) (fD K dN) :=
  cb1p fun xs v F L hx => r_is (r_lnL (r_cons (r_ls (r_c (R := Ln (xs.map R)) hx)) r_nil)) (by rw [List.length_map]; rfl)
theorem c_lenDT {d : α → PyData} : Cb ε (rLn K) (fun xs => [fD K (dT d) xs]) (fun xs => pur xs.length) (fD K dN) :=
  cb1p fun xs v F L hx => r_lnN (xs := xs) (f := d) (cv (R := Dt K (.tuple (xs.map d))) hx)
theorem c_lenDL {d : α → PyData} : Cb ε (rLn K) (fun xs => [fD K (dL d) xs]) (fun xs => pur xs.length) (fD K dN) :=
  cb1p fun xs v F L hx => r_is (r_lnLD (r_c (R := Dt K (.list (xs.map d))) hx)) (by rw [List.length_map]; rfl)
theorem c_all : Cb ε (rAll K) (fun xs => [fLn (fD K dB) xs]) (fun xs => pur (xs.all id)) (fD K dB) :=
  cb1p fun xs v F L hx => r_all (r_cons (r_ls (r_c (R := Ln (xs.map (fD K dB))) hx)) r_nil)
theorem c_tupDL {d : α → PyData} : Cb ε (rTupOf K) (fun xs => [fD K (dL d) xs]) (fun xs => pur xs) (fD K (dT d)) := cb1p fun xs v F L hx => r_tupD (ds := xs.map d) (cv (R := Dt K (.list (xs.map d))) hx)
theorem c_str : Cb ε (fun xs H Q => ∃ i, xs = [V.int i] ∧ i.natAbs.log2 < 1920 ∧ Q (.str (toString i)) H) (fun n => [fD K dN n]) (fun n Q X => n ≤ 1000 ∧ Q (strN n)) (fD K dS) :=
  cb1 fun n v F L hx Q X ⟨q0, q1⟩ => ⟨_, q1, r_strI (n := n) (cv (R := Dt K (nI n)) hx) q0⟩
theorem c_minN : Cb ε rMin2 (fun p : Nat × Nat => [fD K dN p.1, fD K dN p.2]) (fun p => pur (min p.1 p.2)) (fD K dN) := .of fun g vs F L hv Q X q1 => by
  obtain ⟨v, u, rfl, h1, h2⟩ := each2 hv
  exact ⟨_, q1, r_min2N (σ := []) (t := tCons (tC v) (tCons (tC u) tNil)) (K := K) (r_cons (r_c (R := Dt K (nI g.1)) h1) (r_cons (r_c (R := Dt K (nI g.2)) h2) r_nil))⟩
theorem c_maxN : Cb ε rMax2 (fun p : Nat × Nat => [fD K dN p.1, fD K dN p.2]) (fun p => pur (max p.1 p.2)) (fD K dN) := .of fun g vs F L hv Q X q1 => by
  obtain ⟨v, u, rfl, h1, h2⟩ := each2 hv
  exact ⟨_, q1, r_max2N (σ := []) (t := tCons (tC v) (tCons (tC u) tNil)) (K := K) (r_cons (r_c (R := Dt K (nI g.1)) h1) (r_cons (r_c (R := Dt K (nI g.2)) h2) r_nil))⟩
theorem tr_ty {T : String} : TrE Z ρ κ (tC (.ty T)) (pur ()) fun _ : Unit => Eqv (.ty T) := ⟨fun _ => inferInstance, fun σ F L s c Q X q => .of (run_ret fun F1 e => ⟨(), q, rfl⟩)⟩
theorem c_isi {T : String} : Cb ε (rIsi K) (fun p : PyData × Unit => [fD K dA p.1, Eqv (.ty T)]) (fun p Q X => ∃ b, kitB (tyName p.1) T = some b ∧ Q b) (fD K dB) := .of fun g vs F L hv Q X ⟨b, q0, q1⟩ => by
  obtain ⟨v, u, rfl, h1, h2⟩ := each2 hv
  exact ⟨_, q1, r_isiD (σ := []) (t := tCons (tC v) (tCons (tC u) tNil)) (K := K) (d := g.1) (r_cons (r_c (R := Dt K g.1) h1) (r_cons (r_c h2) r_nil)) q0⟩
/-! f-strings -/
theorem tr_fmtN {mN : Wm ε Nat} (h : TrE Z ρ κ te mN (fD K dN)) : TrE Z ρ κ (tFmt te) (fun Q X => mN (fun n => n ≤ 1000 ∧ Q (strN n)) X) (fD K dS) :=
  tr_lift (kk := tFmt) (mf := fun n Q X => n ≤ 1000 ∧ Q (strN n)) (fun _ _ _ _ => rfl) h fun n v F L hx Q X ⟨q0, q1⟩ => ⟨_, q1, r_fmtI (n := n) (r_c (R := Dt K (nI n)) hx) q0⟩
structure TrJ (Z : Wsh ε) (ρ : List (Option VP)) (κ : List Ow) (ts : List TE) (m : Str → Wm ε Str) : Prop where
  run : ∀ acc σ F L, SatV ρ σ F → SatC κ σ F L → ∀ Q X, m acc Q X → RunW Z (fun H Q => tJs ts acc σ H Q) F L (fun o _ => Q o) X
theorem tj_nil : TrJ Z ρ κ [] fun acc => pur acc := ⟨fun acc σ F L s c Q X q => rw_ret fun _ _ => q⟩
theorem tj_cons {mS : Wm ε Str} {mr : Str → Wm ε Str} {ts : List TE} (h : TrE Z ρ κ te mS (fD K dS)) (r : TrJ Z ρ κ ts mr) : TrJ Z ρ κ (te :: ts) fun acc Q X => mS (fun y => (acc ++ y).length ≤ 100000 ∧ mr (acc ++ y) Q X) X :=
  ⟨fun acc σ F L s c Q X q => by
    have hcons := fun y F1 (hy : Dt K (.str y) (.str y) F1) => hy
    intro F1 N H e A wsh Qk qk
    show te σ H _
    refine h.run σ F L s c _ X q F1 N H e A wsh _ fun x F2 H2 e2 A2 ⟨y, ⟨q0, q1⟩, hx⟩ => ?_
    cases hx
    refine ⟨y, rfl, len_ok q0, ?_⟩
    exact r.run (acc ++ y) σ F2 L (satV_up (e.trans e2) s) (satC_up (e.trans e2) c) Q X q1 F2 N H2 (Same.refl _) A2 (wsh.up e2) Qk fun o F3 H3 e3 A3 r => qk o F3 H3 (e2.trans e3) A3 r⟩
theorem tr_js {ts : List TE} {mf : Str → Wm ε Str} (h : TrJ Z ρ κ ts mf) : TrE Z ρ κ (fun σ H (Q : VK) => tJs ts Str.empty σ H fun out H1 => Q (V.str out) H1) (mf Str.empty) (fD K dS) :=
  ⟨inferInstance, fun σ F L s c Q X q => rw_bind (k := fun H Q => tJs ts Str.empty σ H Q) (k2 := fun out H1 Q => Q (V.str out) H1) (h.run Str.empty σ F L s c Q X q) fun o F1 e1 q1 => rw_ret fun _ _ => ⟨o, q1, Dp.str o⟩⟩
end
end Tw

/-! Tw3: what is walked, targets, comprehensions, statements. -/
namespace Tw
open PySem PySem.Spec PyProof.Rows L2 SlX StX Rs Ma
variable [Rs.Tabz]
/-- each with its place -/
def enumL {α : Type} (xs : List α) : List (Nat × α) := xs.zipIdx.map fun p => (p.2, p.1)
section
variable {ε α β γ δ S S1 : Type} {Z : Wsh ε} {ρ : List (Option VP)} {κ κ' : List Ow} {K : PySem.W.Frag} {w : World} {te ta tb tc : TE} {t : TA} {tt : TT} {wi : TI} {g g1 g2 : TG} {ma : Wm ε α} {mb : Wm ε β} {m : Wm ε α} {ml : Wm ε (List α)} {Ra R : α → VP} {Rb : β → VP} {Rd : δ → VP} {i j : Nat}
/-! ### what is walked -/
theorem tI_of (wi' : TE → TI) {Rl : List α → VP} [∀ a, Mono (R a)] (h : TrE Z ρ κ te ml Rl) (i : ∀ xs v σ F L, Rl xs v F → Run (wi' (tC v) σ) F L (fun J F1 => Seqs J (xs.map R) F1)) (hk : ∀ te σ H Q, wi' te σ H Q = te σ H fun x H1 => wi' (tC x) σ H1 Q) : TrI Z ρ κ (wi' te) ml R :=
  ⟨inferInstance, fun σ F L s c Q X q => by
    have e : wi' te σ = fun H Q => te σ H fun x H1 => wi' (tC x) σ H1 Q := by
      funext H Q
      exact hk te σ H Q
    rw [e]
    exact rw_bind (k := te σ) (h.run σ F L s c Q X q) fun x F1 e1 ⟨xs, q1, hx⟩ => .of ((i xs x σ F1 L hx).weak fun J F2 e2 hJ => ⟨xs, q1, hJ⟩)⟩
theorem ti_tup [∀ a, Mono (R a)] (h : TrE Z ρ κ te ml (fTp K R)) : TrI Z ρ κ (iTup K te) ml R :=
  tI_of (iTup K) h (fun xs v σ F L hx => i_tup (r_c (R := Tp K (xs.map R)) hx)) fun _ _ _ _ => rfl
theorem ti_tupD {d : α → PyData} (h : TrE Z ρ κ te ml (fD K (dT d))) : TrI Z ρ κ (iTup K te) ml (fD K d) := ti_tup (tr_dTp h)
theorem ti_lst [∀ a, Mono (R a)] (h : TrE Z ρ κ te ml (fLn R)) : TrI Z ρ κ (iList K te) ml R :=
  tI_of (iList K) h (fun xs v σ F L hx => i_lst (r_ls (r_c (R := Ln (xs.map R)) hx))) fun _ _ _ _ => rfl
theorem ti_lstD {d : α → PyData} (h : TrE Z ρ κ te ml (fD K (dL d))) : TrI Z ρ κ (iList K te) ml (fD K d) :=
  tI_of (iList K) h (fun xs v σ F L hx => i_lstN (f := d) (r_c (R := Dt K (.list (xs.map d))) hx)) fun _ _ _ _ => rfl
theorem ti_rangeN {mN : Wm ε Nat} (h : TrE Z ρ κ te mN (fD K dN)) : TrI Z ρ κ (iRng1 (tCons te tNil)) (fun Q X => mN (fun n => n ≤ 1000 ∧ Q (List.range n)) X) (fD K dN) :=
  ⟨inferInstance, fun σ F L s c Q X q => rw_bind (k := te σ) (k2 := fun x H Q => iRng1 (tCons (tC x) tNil) σ H Q) (h.run σ F L s c _ X q) fun x F1 e1 ⟨n, ⟨q0, q1⟩, hx⟩ => .of (Run.weak (i_rangeN (n := n) (r_c (R := Dt K (nI n)) hx) q0) fun J F2 e2 hJ => ⟨_, q1, hJ⟩)⟩
theorem TrI.conv {R' : α → VP} (h : TrI Z ρ κ wi ml R) [∀ a, Mono (R' a)] (e : R = R') : TrI Z ρ κ wi ml R' := by subst e; exact h

/-! ### targets -/
structure TrG (g : TG) (Rx : β → VP) (js : List Nat) (up : β → List (Option VP) → List (Option VP)) : Prop where
  run : ∀ x v σ F ρ N H, SatV ρ σ F → Rx x v F → At F N H → ∀ Q : L2.St → Hp → Prop, (∀ σ2, (∀ i, i ∉ js → σ2[i]? = σ[i]?) → SatV (up x ρ) σ2 F → Q σ2 H) → g v σ H Q
theorem tg_name (j : Nat) [m : ∀ a, Mono (R a)] : TrG (gName j) R [j] fun x ρ => st ρ j (some (R x)) :=
  ⟨fun x v σ F ρ N H s hx A Q q => q _ (fun i hi => List.getElem?_set_ne fun z => hi (by rw [z]; exact List.mem_singleton.mpr rfl)) (satV_set hx (m x) s)⟩
theorem tg_pair {js1 js2 : List Nat} {up1 : α → List (Option VP) → List (Option VP)} {up2 : β → List (Option VP) → List (Option VP)} (h1 : TrG g1 R js1 up1) (h2 : TrG g2 Rb js2 up2) :
    TrG (gTup K 2 (gCons g1 (gCons g2 gNil))) (fP K R Rb) (js1 ++ js2) fun p ρ => up2 p.2 (up1 p.1 ρ) :=
  ⟨fun x v σ F ρ N H s hx A Q q => by
    obtain ⟨a, vs, rfl, hs, hr⟩ := hx
    obtain ⟨v1, v2, rfl, r1, r2⟩ := each2 hr
    refine ⟨a, [v1, v2], rfl, sqT_up A.ex hs, rfl, v1, [v2], rfl, h1.run x.1 v1 σ F ρ N H s r1 A _ fun σ1 a1 s1 => ⟨v2, [], rfl, h2.run x.2 v2 σ1 F _ N H s1 r2 A _ fun σ2 a2 s2 => ⟨rfl, q σ2 (fun i hi => ?_) s2⟩⟩⟩
    rw [List.mem_append, not_or] at hi
    rw [a2 i hi.2, a1 i hi.1]⟩
theorem TrG.conv {js : List Nat} {up : α → List (Option VP) → List (Option VP)} {R' : α → VP} (h : TrG g R js up) (e : ∀ a v F, R' a v F → R a v F) : TrG g R' js up :=
  ⟨fun x v σ F ρ N H s hx A Q q => h.run x v σ F ρ N H s (e _ _ _ hx) A Q q⟩
theorem tg_pairD {d : α → PyData} {e : β → PyData} {js1 js2 : List Nat} {up1 : α → List (Option VP) → List (Option VP)} {up2 : β → List (Option VP) → List (Option VP)} (h1 : TrG g1 (fD K d) js1 up1) (h2 : TrG g2 (fD K e) js2 up2) :
    TrG (gTup K 2 (gCons g1 (gCons g2 gNil))) (fD K (dP d e)) (js1 ++ js2) fun p ρ => up2 p.2 (up1 p.1 ρ) := (tg_pair h1 h2).conv fun _ _ _ => rP_dP.mpr
theorem wipe_agree {σ σ2 : L2.St} {js : List Nat} (hl : σ2.length = σ.length) (ag : ∀ i, i ∉ js → σ2[i]? = σ[i]?) : ∀ {vs : List Nat}, (js.all fun j => vs.contains j) = true → wipe σ2 vs = wipe σ vs := by
  have key : ∀ (vs : List Nat) (σ : L2.St) (i : Nat), (wipe σ vs)[i]? = if i ∈ vs then (if i < σ.length then some none else none) else σ[i]? := by
    intro vs
    induction vs with
    | nil => intro σ i; simp [wipe]
    | cons v vs ih =>
      intro σ i
      unfold wipe
      by_cases h : v = i
      · subst h
        rw [List.getElem?_set_self', ih]
        by_cases h2 : v ∈ vs
        · by_cases h3 : v < σ.length <;> simp [h2, h3]
        · by_cases h3 : v < σ.length <;> simp [h2, h3]
      · rw [List.getElem?_set_ne h, ih]
        have h' : ¬ i = v := fun z => h z.symm
        simp [h']
  intro vs h
  apply List.ext_getElem?
  intro i
  rw [key, key]
  by_cases hi : i ∈ vs
  · rw [if_pos hi, if_pos hi, hl]
  · rw [if_neg hi, if_neg hi]
    refine ag i fun z => hi ?_
    have := List.all_eq_true.mp h i z
    simpa using this
theorem sat_len : ∀ {ρ σ F}, SatV ρ σ F → ρ.length = σ.length
  | [], [], _, _ => rfl
  | none :: ρ, _ :: σ, F, h => by rw [List.length_cons, List.length_cons, sat_len (ρ := ρ) (σ := σ) h]
  | some _ :: ρ, _ :: σ, F, h => by rw [List.length_cons, List.length_cons, sat_len (ρ := ρ) (σ := σ) h.2]
  | [], _ :: _, _, h => h.elim
  | none :: _, [], _, h => h.elim
  | some _ :: _, [], _, h => h.elim
/-! ### lists of one's own that come to be -/
structure TrN (Z : Wsh ε) (ρ : List (Option VP)) (κ : List Ow) (te : TE) (m : Wm ε (List α)) (R : α → VP) : Prop where
  mono : ∀ a, Mono (R a)
  run : ∀ σ F L, SatV ρ σ F → SatC κ σ F L → ∀ Q X, m Q X → ∀ F1 N H, Same F F1 → At F1 (L ++ N) H → WishOk Z F1 N X → ∀ Qk : VK, (∀ a vs F2 H2 xs, Same F1 F2 → At F2 ((a, .lst vs) :: (L ++ N)) H2 → Each (xs.map R) vs F2 → Q xs → Qk (.ref a) H2) → te σ H Qk
/-- it stays -/
theorem TrN.e (h : TrN Z ρ κ te ml R) : TrE Z ρ κ te ml (fLn R) :=
  have := h.mono
  ⟨inferInstance, fun σ F L s c Q X q F1 N H e A wsh Qk qk => h.run σ F L s c Q X q F1 N H e A wsh Qk fun a vs F2 H2 xs e2 A2 r q1 =>
    qk _ _ _ (e2.trans (same_new A2.off1)) A2.keep ⟨xs, q1, a, vs, rfl, upd_same, MonoL.mono _ _ _ (same_new A2.off1) r⟩⟩
theorem tn_listL [∀ a, Mono (R a)] (h : TrE Z ρ κ te ml (fLn R)) : TrN Z ρ κ (tCB (rListOf K) (tCons te tNil)) ml R :=
  ⟨inferInstance, fun σ F L s c Q X q F1 N H e A wsh Qk qk => h.run σ F L s c _ X q F1 N H e A wsh _ fun v F2 H2 e2 A2 ⟨xs, q1, a, vs, ev, hs, r⟩ => by
    subst ev
    exact ⟨a, vs, rfl, .inl (.inl (.inl (A2.ex _ _ hs))), fun l hl => qk l vs F2 _ xs e2 (A2.cell hl) r q1⟩⟩
/-- a comprehension, one behind the other -/
def lcW (mc : β → Wm ε Bool) (me : β → Wm ε δ) : List β → Wm ε (List δ)
  | [], Q, _ => Q []
  | x :: xs, Q, X => mc x (fun b => if b = true then me x (fun y => lcW mc me xs (fun ys => Q (y :: ys)) X) X else lcW mc me xs Q X) X
theorem drop_at {xs : List β} {i : Nat} {x : β} (h : xs[i]? = some x) : xs.drop i = x :: xs.drop (i + 1) := by
  obtain ⟨hl, hx⟩ := List.getElem?_eq_some_iff.mp h
  rw [List.drop_eq_getElem_cons hl, hx]
theorem tn_lc {vs js : List Nat} {up : β → List (Option VP) → List (Option VP)} {mi : Wm ε (List β)} {mc : β → Wm ε Bool} {me : β → Wm ε δ} {Rx : β → VP} [∀ d, Mono (Rd d)] (hi : TrI Z ρ κ wi mi Rx) (hg : TrG g Rx js up) (hj : (js.all fun j => vs.contains j) = true) (fc : freeCs vs κ = true) (fj : freeCs js κ = true)
    (hc : ∀ x, TrT Z (up x (wipeE ρ vs)) κ tt (mc x)) (he : ∀ x, TrE Z (up x (wipeE ρ vs)) κ te (me x) Rd) (hlen : ∀ x, (up x (wipeE ρ vs)).length = ρ.length) :
    TrN Z ρ κ (tLc wi g tt te vs) (fun Q X => mi (fun xs => xs.length ≤ 40000 ∧ lcW mc me xs Q X) X) Rd :=
  ⟨inferInstance, fun σ F L s c Q X q F1 N H e A wsh Qk qk => hi.run σ F L s c _ X q F1 N H e A wsh _ fun J F2 H2 e2 A2 ⟨xs, ⟨hz, q1⟩, ⟨G, Y, wk, hG, hY⟩⟩ D hD => by
    have hl := sat_len s
    rw [List.length_map] at wk
    refine lc_it wk (Qd := fun H => Qk (.ref D) H) (fun i H' => ∃ F' acc ys, Same F2 F' ∧ At F' ((D, .lst acc) :: (L ++ N)) H' ∧ Each (ys.map Rd) acc F' ∧ ys.length ≤ i ∧ lcW mc me (xs.drop i) (fun zs => Q (ys ++ zs)) X) ⟨F2, [], [], Same.refl _, A2.cell hD, (show Each [] [] F2 from True.intro), Nat.le_refl _, q1⟩
      (fun i H' _ ⟨F', acc, ys, e', A', _⟩ => hG F' _ H' e' A') ?_ ?_
    · rintro i x H3 H4 hi ⟨F', acc, ys, e', A', hacc, hyl, q2⟩ y
      obtain ⟨F3, R, e3, A3, hR, hx⟩ := hY F' _ H3 i x H4 e' A' (by rw [List.length_map]; exact hi) y
      rw [List.getElem?_map] at hR
      have hxi : xs[i]? = some xs[i] := List.getElem?_eq_getElem hi
      rw [hxi] at hR
      cases hR
      rw [drop_at hxi, lcW] at q2
      have P0 : ((D, HO.lst acc) :: (L ++ N)).Perm (L ++ ((D, .lst acc) :: N)) := List.perm_middle.symm
      have e13 : Same F F3 := ((e.trans e2).trans e').trans e3
      have s3 := satV_up e13 s
      have c3 := satC_up e13 c
      have w3 : WishOk Z F3 ((D, HO.lst acc) :: N) X := (wsh.up ((e2.trans e').trans e3)).push1
      refine hg.run xs[i] x (wipe σ vs) F3 (wipeE ρ vs) _ H4 (satV_wipe s3 vs) hx A3 _ fun σ2 ag s4 => ⟨?_, ?_⟩
      · have h1 : σ2.length = (wipe σ vs).length := by
          rw [← sat_len s4, hlen, wipe_length, hl]
        rw [wipe_agree h1 ag hj]
        apply List.ext_getElem?
        intro i
        have key := wipe_agree (σ := σ) (σ2 := wipe σ vs) (js := vs) (wipe_length _ _) (fun i hi => by
          cases h : (wipe σ vs)[i]? with
          | none =>
            have : σ.length ≤ i := by
              have := List.getElem?_eq_none_iff.mp h
              rwa [wipe_length] at this
            exact (List.getElem?_eq_none_iff.mpr this).symm
          | some o =>
            have hkey : ∀ (vs : List Nat) (i : Nat), i ∉ vs → (wipe σ vs)[i]? = σ[i]? := by
              intro vs
              induction vs with
              | nil => intro i _; rfl
              | cons v vs ih =>
                intro i hi
                rw [List.mem_cons, not_or] at hi
                rw [wipe, List.getElem?_set_ne (fun z => hi.1 z.symm), ih i hi.2]
            rw [← h, hkey vs i hi]) (vs := vs) (by rw [List.all_eq_true]; intro x hx; simpa using hx)
        rw [key]
      · have c4 : SatC κ σ2 F3 L := satC_agree ag fj (satC_wipe c3 fc)
        refine (hc xs[i]).run σ2 F3 L s4 c4 _ X q2 F3 _ H4 (Same.refl _) (A3.perm P0) w3 _ fun b F5 H5 e5 A5 q5 => ?_
        cases b with
        | true =>
          rw [if_pos rfl] at q5
          refine iteT ?_
          refine (he xs[i]).run σ2 F5 L (satV_up e5 s4) (satC_up e5 c4) _ X q5 F5 _ H5 (Same.refl _) A5 (w3.up e5) _ fun y F6 H6 e6 A6 ⟨d, q6, hy⟩ => ?_
          have A7 := A6.perm P0.symm
          have hla : acc.length = ys.length := by rw [each_length hacc, List.length_map]
          refine ⟨acc, A7.on1, len_lt (by omega), F6, acc ++ [y], ys ++ [d], ((e'.trans e3).trans e5).trans e6, A7.put, ?_, by rw [List.length_append]; show ys.length + 1 ≤ i + 1; omega, ?_⟩
          · rw [List.map_append]
            exact each_app (Mono.go hacc ((e3.trans e5).trans e6)) ⟨hy, True.intro⟩
          · have e9 : (fun zs => Q (ys ++ [d] ++ zs)) = fun zs => Q (ys ++ d :: zs) := by funext zs; rw [List.append_assoc]; rfl
            rw [e9]; exact q6
        | false =>
          rw [if_neg Bool.false_ne_true] at q5
          exact iteF ⟨F5, acc, ys, (e'.trans e3).trans e5, A5.perm P0.symm, Mono.go hacc (e3.trans e5), Nat.le_succ_of_le hyl, q5⟩
    · rintro H3 ⟨F', acc, ys, e', A', hacc, hyl, q2⟩
      rw [List.drop_length, lcW, List.append_nil] at q2
      exact qk D acc F' H3 ys (e2.trans e') A' hacc q2⟩
theorem tr_lc {vs js : List Nat} {up : β → List (Option VP) → List (Option VP)} {mi : Wm ε (List β)} {mc : β → Wm ε Bool} {me : β → Wm ε δ} {Rx : β → VP} [∀ d, Mono (Rd d)] (hi : TrI Z ρ κ wi mi Rx) (hg : TrG g Rx js up) (hj : (js.all fun j => vs.contains j) = true) (fc : freeCs vs κ = true) (fj : freeCs js κ = true)
    (hlen : ∀ x, (up x (wipeE ρ vs)).length = ρ.length) (hc : ∀ x, TrT Z (up x (wipeE ρ vs)) κ tt (mc x)) (he : ∀ x, TrE Z (up x (wipeE ρ vs)) κ te (me x) Rd) :
    TrE Z ρ κ (tLc wi g tt te vs) (fun Q X => mi (fun xs => xs.length ≤ 40000 ∧ lcW mc me xs Q X) X) (fLn Rd) := (tn_lc hi hg hj fc fj hc he hlen).e
/-- what is asked, by what each asks -/
theorem lcW_of {mc : β → Wm ε Bool} {me : β → Wm ε δ} {f : β → Bool} {h : β → δ} {X : ε → Prop} : ∀ {xs : List β} {Q : List δ → Prop}, (∀ x ∈ xs, ∀ Q : Bool → Prop, Q (f x) → mc x Q X) → (∀ x ∈ xs, f x = true → ∀ Q : δ → Prop, Q (h x) → me x Q X) → Q ((xs.filter f).map h) → lcW mc me xs Q X
  | [], Q, _, _, q => q
  | x :: xs, Q, hc, he, q => by
    rw [lcW]
    refine hc x List.mem_cons_self _ ?_
    rw [List.filter_cons] at q
    cases hf : f x with
    | true =>
      rw [hf, if_pos rfl] at q
      rw [if_pos rfl]
      exact he x List.mem_cons_self hf _ (lcW_of (fun y hy => hc y (List.mem_cons_of_mem _ hy)) (fun y hy => he y (List.mem_cons_of_mem _ hy)) q)
    | false =>
      rw [hf, if_neg Bool.false_ne_true] at q
      rw [if_neg Bool.false_ne_true]
      exact lcW_of (fun y hy => hc y (List.mem_cons_of_mem _ hy)) (fun y hy => he y (List.mem_cons_of_mem _ hy)) q
/-- without a test -/
theorem lcW_map {me : β → Wm ε δ} {h : β → δ} {X : ε → Prop} {xs : List β} {Q : List δ → Prop} (he : ∀ x ∈ xs, ∀ Q : δ → Prop, Q (h x) → me x Q X) (q : Q (xs.map h)) : lcW (fun _ Q _ => Q true) me xs Q X :=
  lcW_of (f := fun _ => true) (fun _ _ _ q => q) (fun x hx _ => he x hx) (by rw [List.filter_eq_self.mpr fun _ _ => rfl]; exact q)
/-- with demons: each one says P of what it gives -/
theorem lcW_all {me : β → Wm ε δ} {X : ε → Prop} : ∀ {xs : List β} {P : β → δ → Prop} {Q : List δ → Prop}, (∀ x ∈ xs, ∀ Q : δ → Prop, (∀ y, P x y → Q y) → me x Q X) → (∀ ys : List δ, ys.length = xs.length → (∀ (i : Nat) (x : β) (y : δ), xs[i]? = some x → ys[i]? = some y → P x y) → Q ys) → lcW (fun _ Q _ => Q true) me xs Q X
  | [], P, Q, _, q => q [] rfl fun i x y h => by simp at h
  | x :: xs, P, Q, he, q => by
    rw [lcW]
    show if true = true then _ else _
    rw [if_pos rfl]
    refine he x List.mem_cons_self _ fun y hy => lcW_all (P := P) (fun z hz => he z (List.mem_cons_of_mem _ hz)) fun ys hl h => q (y :: ys) (by rw [List.length_cons, List.length_cons, hl]) fun i a b h1 h2 => ?_
    cases i with
    | zero => cases h1; cases h2; exact hy
    | succ i => exact h i a b (by simpa using h1) (by simpa using h2)
end
end Tw

/-! Tw4: statements, defs. -/
namespace Tw
open PySem PySem.Spec PyProof.Rows L2 SlX StX Rs Ma
variable [Rs.Tabz]
theorem leV_nil : leV [] [] := True.intro
theorem leV_none {o : Option VP} {ρ ρ' : List (Option VP)} (h : leV ρ ρ') : leV (o :: ρ) (none :: ρ') := by cases o <;> exact h
theorem leV_some {R : VP} {ρ ρ' : List (Option VP)} (h : leV ρ ρ') : leV (some R :: ρ) (some R :: ρ') := ⟨rfl, h⟩
section
variable {ε α β γ δ S S1 S2 : Type} {Z : Wsh ε} {ρ ρ' : List (Option VP)} {κ κ' κ1 : List Ow} {K : PySem.W.Frag} {w : World} {te ta tb tc : TE} {t u : TS} {tg : TA} {tt : TT} {wi : TI} {g : TG} {ma : Wm ε α} {mb : Wm ε β} {m : Wm ε α} {ml : Wm ε (List α)} {Ra R : α → VP} {Rb : β → VP} {Rd : δ → VP} {i j : Nat}
  {ρ2 : S → List (Option VP)} {κ2 : S → List Ow} {ρ1 : S1 → List (Option VP)} {κ1s : S1 → List Ow}
/-- the last statement -/
theorem ts_one {mm : Ws ε S δ} (h : TrS Z ρ κ (tSeq t tNext) mm ρ2 κ2 Rd) : TrS Z ρ κ t mm ρ2 κ2 Rd := h
theorem ts_next (s : S) (hv : leV ρ (ρ2 s)) (hc : ∀ σ F L, SatC κ σ F L → SatC (κ2 s) σ F L) : TrS Z ρ κ tNext (fun Nx (_ : δ → Prop) _ => Nx s) ρ2 κ2 Rd :=
  ⟨fun σ F L sv sc Nx Rt X q F1 N H e A wsh D nx rt => nx σ F1 L H (Same.refl _) A ⟨s, q, satV_le hv (satV_up e sv), hc _ _ _ (satC_up e sc)⟩⟩
theorem ts_nextq {mm : Ws ε S δ} (h : TrS Z ρ κ u mm ρ2 κ2 Rd) : TrS Z ρ κ (tSeq tNext u) mm ρ2 κ2 Rd := h
theorem ts_asg {js : List Nat} {up : α → List (Option VP) → List (Option VP)} {mk : α → Ws ε S δ} (h : TrE Z ρ κ te m R) (hg : TrG g R js up) (fj : freeCs js κ = true) (k : ∀ a, TrS Z (up a ρ) κ u (mk a) ρ2 κ2 Rd) :
    TrS Z ρ κ (tSeq (tAsg te g) u) (fun Nx Rt X => m (fun a => mk a Nx Rt X) X) ρ2 κ2 Rd :=
  ⟨fun σ F L sv sc Nx Rt X q F1 N H e A wsh D nx rt => h.run σ F L sv sc _ X q F1 N H e A wsh _ fun v F2 H2 e2 A2 ⟨a, q1, hv⟩ =>
    hg.run a v σ F2 ρ _ H2 (satV_up (e.trans e2) sv) hv A2 _ fun σ2 ag s2 => (k a).run σ2 F2 L s2 (satC_agree ag fj (satC_up (e.trans e2) sc)) Nx Rt X q1 F2 N H2 (Same.refl _) A2 (wsh.up e2) D
      (fun σ3 F3 L3 H3 e3 A3 n => nx σ3 F3 L3 H3 (e2.trans e3) A3 n) fun v F3 H3 e3 A3 n => rt v F3 H3 (e2.trans e3) A3 n⟩
theorem ts_set {mk : α → Ws ε S δ} (i : Nat) (h : TrE Z ρ κ te m R) (f : freeCs [i] κ = true) (k : ∀ a, TrS Z (st ρ i (some (R a))) κ u (mk a) ρ2 κ2 Rd) :
    TrS Z ρ κ (tSeq (tAsg te (gName i)) u) (fun Nx Rt X => m (fun a => mk a Nx Rt X) X) ρ2 κ2 Rd :=
  have := h.mono
  ts_asg h (tg_name i) f k
theorem ts_ret (h : TrE Z ρ κ te m R) : TrS Z ρ κ (tRet te) (fun (_ : S → Prop) Rt X => m Rt X) ρ2 κ2 R :=
  ⟨fun σ F L sv sc Nx Rt X q F1 N H e A wsh D nx rt => h.run σ F L sv sc _ X q F1 N H e A wsh _ fun v F2 H2 e2 A2 ⟨a, q1, hv⟩ => rt v F2 H2 e2 A2.drop ⟨a, q1, hv⟩⟩
theorem ts_retq (h : TrE Z ρ κ te m R) : TrS Z ρ κ (tSeq (tRet te) u) (fun (_ : S → Prop) Rt X => m Rt X) ρ2 κ2 R := ⟨(ts_ret h).run⟩
theorem ts_drop {mk : Ws ε S δ} (h : TrE Z ρ κ te m R) (k : TrS Z ρ κ u mk ρ2 κ2 Rd) : TrS Z ρ κ (tSeq (tDrop te) u) (fun Nx Rt X => m (fun _ => mk Nx Rt X) X) ρ2 κ2 Rd :=
  ⟨fun σ F L sv sc Nx Rt X q F1 N H e A wsh D nx rt => h.run σ F L sv sc _ X q F1 N H e A wsh _ fun v F2 H2 e2 A2 ⟨a, q1, hv⟩ =>
    k.run σ F2 L (satV_up (e.trans e2) sv) (satC_up (e.trans e2) sc) Nx Rt X q1 F2 N H2 (Same.refl _) A2 (wsh.up e2) D (fun σ3 F3 L3 H3 e3 A3 n => nx σ3 F3 L3 H3 (e2.trans e3) A3 n) fun v F3 H3 e3 A3 n => rt v F3 H3 (e2.trans e3) A3 n⟩
/-- an if, what follows in each of both -/
theorem ts_ifq {w' : TS} {mc : Wm ε Bool} {m1 m2 : Ws ε S δ} (h : TrT Z ρ κ tt mc) (h1 : TrS Z ρ κ (tSeq t w') m1 ρ2 κ2 Rd) (h2 : TrS Z ρ κ (tSeq u w') m2 ρ2 κ2 Rd) : TrS Z ρ κ (tSeq (tIfS tt t u) w') (fun Nx Rt X => mc (fun b => if b = true then m1 Nx Rt X else m2 Nx Rt X) X) ρ2 κ2 Rd :=
  ⟨fun σ F L sv sc Nx Rt X q F1 N H e A wsh D nx rt => h.run σ F L sv sc _ X q F1 N H e A wsh _ fun b F2 H2 e2 A2 q1 => by
    cases b with
    | true =>
      rw [if_pos rfl] at q1
      exact iteT (h1.run σ F2 L (satV_up (e.trans e2) sv) (satC_up (e.trans e2) sc) Nx Rt X q1 F2 N H2 (Same.refl _) A2 (wsh.up e2) D (fun σ3 F3 L3 H3 e3 A3 n => nx σ3 F3 L3 H3 (e2.trans e3) A3 n) fun v F3 H3 e3 A3 n => rt v F3 H3 (e2.trans e3) A3 n)
    | false =>
      rw [if_neg Bool.false_ne_true] at q1
      exact iteF (h2.run σ F2 L (satV_up (e.trans e2) sv) (satC_up (e.trans e2) sc) Nx Rt X q1 F2 N H2 (Same.refl _) A2 (wsh.up e2) D (fun σ3 F3 L3 H3 e3 A3 n => nx σ3 F3 L3 H3 (e2.trans e3) A3 n) fun v F3 H3 e3 A3 n => rt v F3 H3 (e2.trans e3) A3 n)⟩
/-! ### loops -/
def forW (mb : S → β → Ws ε S δ) : List β → S → Ws ε S δ
  | [], s, Nx, _, _ => Nx s
  | x :: xs, s, Nx, Rt, X => mb s x (fun s' => forW mb xs s' Nx Rt X) Rt X
theorem ts_for {js : List Nat} {up : β → List (Option VP) → List (Option VP)} {mi : Wm ε (List β)} {Rx : β → VP} {mbd : S1 → β → Ws ε S1 δ} {mr : S1 → Ws ε S δ} (s0 : S1) (h0 : leV ρ (ρ1 s0)) (hc0 : ∀ σ F L, SatC κ σ F L → SatC (κ1s s0) σ F L)
    (hi : TrI Z ρ κ wi mi Rx) (hg : TrG g Rx js up) (fj : ∀ s, freeCs js (κ1s s) = true) (hb : ∀ s x, TrS Z (up x (ρ1 s)) (κ1s s) t (mbd s x) ρ1 κ1s Rd) (hr : ∀ s, TrS Z (ρ1 s) (κ1s s) u (mr s) ρ2 κ2 Rd) :
    TrS Z ρ κ (tSeq (tFor wi g t) u) (fun Nx Rt X => mi (fun xs => forW mbd xs s0 (fun s => mr s Nx Rt X) Rt X) X) ρ2 κ2 Rd :=
  ⟨fun σ F L sv sc Nx Rt X q F1 N H e A wsh D nx rt => hi.run σ F L sv sc _ X q F1 N H e A wsh _ fun J F2 H2 e2 A2 ⟨xs, q1, ⟨G, Y, wk, hG, hY⟩⟩ => by
    rw [List.length_map] at wk
    refine for_it wk (D := { D with nx := u D }) (fun i σ' H' => ∃ F' L' s, Same F2 F' ∧ At F' (L' ++ N) H' ∧ SatV (ρ1 s) σ' F' ∧ SatC (κ1s s) σ' F' L' ∧ forW mbd (xs.drop i) s (fun s => mr s Nx Rt X) Rt X) ⟨F2, L, s0, Same.refl _, A2, satV_le h0 (satV_up (e.trans e2) sv), hc0 _ _ _ (satC_up (e.trans e2) sc), q1⟩
      (fun i σ' H' _ ⟨F', L', s, e', A', _⟩ => hG F' _ H' e' A') ?_ ?_
    · rintro i x σ' H3 H4 hi ⟨F', L', s, e', A', sv', sc', q2⟩ y
      obtain ⟨F3, R, e3, A3, hR, hx⟩ := hY F' _ H3 i x H4 e' A' (by rw [List.length_map]; exact hi) y
      rw [List.getElem?_map] at hR
      have hxi : xs[i]? = some xs[i] := List.getElem?_eq_getElem hi
      rw [hxi] at hR
      cases hR
      rw [drop_at hxi, forW] at q2
      refine hg.run xs[i] x σ' F3 (ρ1 s) _ H4 (satV_up e3 sv') hx A3 _ fun σ2 ag s2 => ?_
      exact (hb s xs[i]).run σ2 F3 L' s2 (satC_agree ag (fj s) (satC_up e3 sc')) _ Rt X q2 F3 N H4 (Same.refl _) A3 (wsh.up ((e2.trans e').trans e3)) _
        (fun σ5 F5 L5 H5 e5 A5 ⟨s', q5, sv5, sc5⟩ => ⟨F5, L5, s', (e'.trans e3).trans e5, A5, sv5, sc5, q5⟩) fun v F5 H5 e5 A5 n => rt v F5 H5 (((e2.trans e').trans e3).trans e5) A5 n
    · rintro σ' H3 ⟨F', L', s, e', A', sv', sc', q2⟩
      rw [List.drop_length, forW] at q2
      exact (hr s).run σ' F' L' sv' sc' Nx Rt X q2 F' N H3 (Same.refl _) A' (wsh.up (e2.trans e')) D (fun σ3 F3 L3 H3 e3 A3 n => nx σ3 F3 L3 H3 ((e2.trans e').trans e3) A3 n) fun v F3 H3 e3 A3 n => rt v F3 H3 ((e2.trans e').trans e3) A3 n⟩
/-- each turn is known where the invariant holds -/
theorem forW_at {mbd : S → β → Ws ε S δ} {f : Nat → S} {Nx : S → Prop} {Rt : δ → Prop} {X : ε → Prop} {xs : List β} (h : ∀ i x, xs[i]? = some x → ∀ P : S → Prop, P (f (i + 1)) → mbd (f i) x P Rt X) (q : Nx (f xs.length)) : forW mbd xs (f 0) Nx Rt X := by
  suffices H : ∀ (ys : List β) (i : Nat), (∀ j, ys[j]? = xs[i + j]?) → ys.length + i = xs.length → forW mbd ys (f i) Nx Rt X from H xs 0 (fun j => by rw [Nat.zero_add]) rfl
  intro ys
  induction ys with
  | nil => intro i hj hl; simp only [List.length_nil, Nat.zero_add] at hl; subst hl; exact q
  | cons y ys ih =>
    intro i hj hl
    rw [forW]
    have hy : xs[i]? = some y := by have := hj 0; simpa using this.symm
    exact h i y hy _ (ih (i + 1) (fun j => by have := hj (j + 1); rw [List.getElem?_cons_succ] at this; rw [this]; congr 1; omega) (by simp only [List.length_cons] at hl; omega))
/-! ### lists of one's own -/
theorem ts_newC {mk : List α → Ws ε S δ} (i : Nat) (h : TrN Z ρ κ te ml R) (f : freeCs [i] κ = true) (hi : Nat.blt i ρ.length = true) (k : ∀ xs, TrS Z (st ρ i none) (.one i (ownL (xs.map R)) :: κ) u (mk xs) ρ2 κ2 Rd) :
    TrS Z ρ κ (tSeq (tAsg te (gName i)) u) (fun Nx Rt X => ml (fun xs => mk xs Nx Rt X) X) ρ2 κ2 Rd :=
  have := h.mono
  ⟨fun σ F L sv sc Nx Rt X q F1 N H e A wsh D nx rt => h.run σ F L sv sc _ X q F1 N H e A wsh _ fun a vs F2 H2 xs e2 A2 r q1 => by
    have e12 := e.trans e2
    refine (k xs).run (σ.set i (some (.ref a))) F2 ((a, .lst vs) :: L) (satV_none (satV_up e12 sv)) ⟨a, .lst vs, L, rfl, ?_, fun F' e' => ⟨vs, rfl, MonoL.mono _ _ _ e' r⟩, satC_agree (js := [i]) (fun l hl => List.getElem?_set_ne fun z => hl (by rw [z]; exact List.mem_singleton.mpr rfl)) f (satC_up e12 sc)⟩ Nx Rt X q1 F2 N H2 (Same.refl _) A2 (wsh.up e2) D
      (fun σ3 F3 L3 H3 e3 A3 n => nx σ3 F3 L3 H3 (e2.trans e3) A3 n) fun v F3 H3 e3 A3 n => rt v F3 H3 (e2.trans e3) A3 n
    rw [List.getElem?_set_self (by rw [← sat_len sv]; exact Nat.le_of_ble_eq_true hi)]⟩
/-- what is one's own no more -/
theorem ts_dropC {c : Ow} {mm : Ws ε S δ} (h : TrS Z ρ κ t mm ρ2 κ2 Rd) : TrS Z ρ (c :: κ) t mm ρ2 κ2 Rd :=
  ⟨fun σ F L sv sc Nx Rt X q F1 N H e A wsh D nx rt => by
    obtain ⟨a, M, L', hL, h1, h2, h3⟩ := satC_cons.mp sc
    subst hL
    have P : (M ++ L' ++ N).Perm (L' ++ (M ++ N)) := by rw [← List.append_assoc]; exact List.perm_append_comm.append_right _
    refine h.run σ F L' sv h3 Nx Rt X q F1 (M ++ N) H e (A.perm P) wsh.push D (fun σ3 F3 L3 H3 e3 A3 ⟨s, n1, n2, n3⟩ => ?_) fun v F3 H3 e3 A3 n => rt v F3 H3 e3 A3.drop n
    refine nx σ3 F3 (L3 ++ M) H3 e3 ?_ ⟨s, n1, n2, satC_tail n3⟩
    rw [List.append_assoc]; exact A3⟩
theorem ts_perm2 {c d : Ow} {mm : Ws ε S δ} (h : TrS Z ρ (d :: c :: κ) t mm ρ2 κ2 Rd) : TrS Z ρ (c :: d :: κ) t mm ρ2 κ2 Rd :=
  ⟨fun σ F L sv sc Nx Rt X q F1 N H e A wsh D nx rt => by
    obtain ⟨L2, P, sc2⟩ := satC_swap sc
    exact h.run σ F L2 sv sc2 Nx Rt X q F1 N H e (A.perm (P.append_right N)) wsh D nx rt⟩
/-- l[n] = x -/
theorem ts_putC {xs : List α} {mn : Wm ε Nat} {mk : α → Nat → Ws ε S δ} (h : TrE Z ρ (.one i (ownL (xs.map R)) :: κ) te m R) (hn : TrE Z ρ (.one i (ownL (xs.map R)) :: κ) tb mn (fD K dN)) (k : ∀ a n, TrS Z ρ (.one i (ownL ((xs.set n a).map R)) :: κ) u (mk a n) ρ2 κ2 Rd) :
    TrS Z ρ (.one i (ownL (xs.map R)) :: κ) (tSeq (tAsg te (gSub (tVar i) tb rSetL)) u) (fun Nx Rt X => m (fun a => mn (fun n => n < xs.length ∧ mk a n Nx Rt X) X) X) ρ2 κ2 Rd :=
  have := h.mono
  ⟨fun σ F L sv sc Nx Rt X q F1 N H e A wsh D nx rt => by
    obtain ⟨a, o, L', hL, h1, h2, h3⟩ := sc
    obtain ⟨vs, ho, hv⟩ := h2 F (Same.refl _)
    subst hL ho
    have sc0 : SatC (.one i (ownL (xs.map R)) :: κ) σ F ((a, .lst vs) :: L') := ⟨a, .lst vs, L', rfl, h1, h2, h3⟩
    refine h.run σ F ((a, .lst vs) :: L') sv sc0 _ X q F1 N H e A wsh _ fun v F2 H2 e2 A2 ⟨x, q1, hx⟩ => ⟨.ref a, h1, ?_⟩
    have e12 := e.trans e2
    refine hn.run σ F2 ((a, .lst vs) :: L') (satV_up e12 sv) (satC_up e12 sc0) _ X q1 F2 N H2 (Same.refl _) A2 (wsh.up e2) _ fun y F3 H3 e3 A3 ⟨n, ⟨hz, q2⟩, hy⟩ => ?_
    cases hy
    have hl : vs.length = xs.length := by rw [each_length hv, List.length_map]
    have hz' : n < vs.length := by omega
    refine ⟨a, vs, (n : Int), n, rfl, rfl, A3.on1, by unfold ixN; rw [if_pos (by omega), if_pos (by omega)]; simp, ?_⟩
    have e13 := e12.trans e3
    have hv2 : Each ((xs.set n x).map R) (vs.set n v) F3 := by
      have hv3 : Each (xs.map R) vs F3 := MonoL.mono _ _ _ e13 hv
      have hx3 : R x v F3 := Mono.go hx e3
      have key : ∀ (xs : List α) (vs : List V) (n : Nat), Each (xs.map R) vs F3 → Each ((xs.set n x).map R) (vs.set n v) F3 := by
        intro xs
        induction xs with
        | nil => intro vs n h; cases vs with
          | nil => exact h
          | cons _ _ => exact h.elim
        | cons y ys ih => intro vs n h; cases vs with
          | nil => exact h.elim
          | cons u us => cases n with
            | zero => exact ⟨hx3, h.2⟩
            | succ n => exact ⟨h.1, ih us n h.2⟩
      exact key xs vs n hv3
    exact (k x n).run σ F3 ((a, .lst (vs.set n v)) :: L') (satV_up e13 sv) ⟨a, _, L', rfl, h1, fun F' e' => ⟨_, rfl, MonoL.mono _ _ _ e' hv2⟩, satC_up e13 h3⟩ Nx Rt X q2 F3 N _ (Same.refl _) (At.put A3) (wsh.up (e2.trans e3)) D
      (fun σ4 F4 L4 H4 e4 A4 n => nx σ4 F4 L4 H4 ((e2.trans e3).trans e4) A4 n) fun v F4 H4 e4 A4 n => rt v F4 H4 ((e2.trans e3).trans e4) A4 n⟩
theorem TrS.same {mm : Ws ε S δ} {R' : δ → VP} (h : TrS Z ρ κ t mm ρ2 κ2 Rd) (hr : ∀ a v F, Rd a v F → R' a v F) : TrS Z ρ κ t mm ρ2 κ2 R' :=
  ⟨fun σ F L sv sc Nx Rt X q F1 N H e A wsh D nx rt => h.run σ F L sv sc Nx Rt X q F1 N H e A wsh D nx fun v F' H' e' A' ⟨a, r1, r2⟩ => rt v F' H' e' A' ⟨a, r1, hr _ _ _ r2⟩⟩
/-- what a value says of what it stands for -/
theorem tr_fact {p : α → Prop} (hp : ∀ a v F, R a v F → p a) (h : TrE Z ρ κ te m R) : TrE Z ρ κ te (fun Q X => m (fun a => p a → Q a) X) R :=
  ⟨h.mono, fun σ F L s c Q X q => (h.run σ F L s c _ X q).weak fun v F2 e ⟨a, q1, r1⟩ => ⟨a, q1 (hp a v F2 r1), r1⟩⟩
/-- what does not hang on the heap -/
class FlatR (R : α → VP) : Prop where
  fl : ∀ a v F F', R a v F → R a v F'
instance : FlatR (fD K dInt) := ⟨fun a v F F' h => by cases h; exact .int a⟩
instance : FlatR (fD K dN) := ⟨fun a v F F' h => by cases h; exact .int _⟩
instance : FlatR (fD K dB) := ⟨fun a v F F' h => by cases h; exact .bl a⟩
instance : FlatR (fD K dS) := ⟨fun a v F F' h => by cases h; exact .str a⟩
instance : FlatR (fD K dU) := ⟨fun a v F F' h => by cases h; exact .non⟩
theorem At.unkeep {F F2 : Hp} {L : Cells} {a : Addr} {o : HO} {H : Hp} (ho : ∀ xs, o ≠ .tup xs) (hb : ∀ ps, o ≠ .tbl ps) (hc : ∀ c q, o ≠ CodeT c q) (e : Same (upd F a o) F2) (A : At F2 L H) : At (fun b => if b = a then none else F2 b) ((a, o) :: L) H := by
  have h2 : F2 a = some o := e _ _ upd_same
  refine ⟨fun b u h => ?_, fun p q => ?_, fun p q => ?_, ?_, fun p q => ?_, fun p q => (List.mem_cons.mp q).elim (fun z => z ▸ hb) (A.nb p), fun p q => (List.mem_cons.mp q).elim (fun z => z ▸ hc) (A.nc p), A.tb.up fun c q h => (if_neg (fun z : c = a => hc c q (by subst z; rw [h2] at h; exact Option.some.inj h))).trans h, fun P hP => ?_⟩
  · by_cases hb : b = a
    · rw [if_pos hb] at h; cases h
    · rw [if_neg hb] at h; exact A.ex b u h
  · rcases List.mem_cons.mp q with z | z
    · subst z; exact A.ex _ _ h2
    · exact A.on p z
  · rcases List.mem_cons.mp q with z | z
    · subst z; simp
    · show (if p.1 = a then none else F2 p.1) = none
      rw [A.off p z]; simp
  · rw [List.map_cons, List.nodup_cons]
    refine ⟨fun z => ?_, A.nd⟩
    obtain ⟨p, hp, he⟩ := List.mem_map.mp z
    have := A.off p hp
    rw [he, h2] at this; cases this
  · rcases List.mem_cons.mp q with z | z
    · subst z; exact ho
    · exact A.nt p z
  · show (if P = a then none else F2 P) = none
    split
    · rfl
    · exact A.ft P hP
/-- one's own list, looked at as a value -/
theorem tr_bor {xs : List α} {mm : Wm ε δ} [FlatR Rd] [∀ a, Mono (R a)] (h : TrE Z (st ρ i (some (fLn R xs))) κ te mm Rd) (f : freeCs [i] κ = true) (hi : Nat.blt i ρ.length = true) (hX : ∀ Q X, mm Q X → mm Q (fun _ => False)) : TrE Z ρ (.one i (ownL (xs.map R)) :: κ) te mm Rd :=
  ⟨h.mono, fun σ F L sv sc Q X q F1 N H e A wsh Qk qk => by
    obtain ⟨a, o, L', hL, h1, h2, h3⟩ := sc
    obtain ⟨vs, ho, hv⟩ := h2 F1 e
    subst hL ho
    have A1 : At F1 ((a, .lst vs) :: (L' ++ N)) H := A
    have e1 : Same F1 (upd F1 a (.lst vs)) := same_new A1.off1
    have sv1 : SatV (st ρ i (some (fLn R xs))) (σ.set i (some (.ref a))) (upd F1 a (.lst vs)) := satV_set (show fLn R xs (.ref a) _ from ⟨a, vs, rfl, upd_same, MonoL.mono _ _ _ e1 hv⟩) inferInstance (satV_up (e.trans e1) sv)
    have eσ : σ.set i (some (.ref a)) = σ := by
      apply List.ext_getElem?
      intro j
      by_cases hj : i = j
      · subst hj
        rw [List.getElem?_set_self (by rw [← sat_len sv]; exact Nat.le_of_ble_eq_true hi), h1]
      · rw [List.getElem?_set_ne hj]
    rw [eσ] at sv1
    refine h.run σ (upd F1 a (.lst vs)) L' sv1 (satC_up (e.trans e1) h3) Q _ (hX Q X q) (upd F1 a (.lst vs)) N H (Same.refl _) A1.keep (fun _ _ _ _ _ _ _ _ _ _ z => z.elim) Qk fun v F2 H2 e2 A2 ⟨d, q2, r⟩ => ?_
    have A3 := At.unkeep (F := F1) (o := .lst vs) (fun xs z => nomatch z) (fun xs z => nomatch z) (fun c q z => nomatch z) e2 A2
    refine qk v _ H2 (fun b u hb => ?_) A3 ⟨d, q2, FlatR.fl _ _ _ _ r⟩
    have hne : b ≠ a := ne_of_none hb A1.off1
    show (if b = a then none else F2 b) = some u
    rw [if_neg hne]
    exact e2 b u (e1 b u hb)⟩
end

/-! ### defs -/
def Z0 : Wsh Empty where
  wi := fun _ _ _ _ => False
  xr := fun _ _ _ _ => False
  t := fun _ _ _ => True
  tl := fun _ _ _ _ h => h
def X0 : Empty → Prop := fun _ => False
theorem wish0 {F : Hp} {N : Cells} {X : Empty → Prop} : WishOk Z0 F N X := fun e => nomatch e
def ofArgs : List VP → Nat → List (Option VP)
  | [], n => List.replicate n none
  | R :: Rs, n + 1 => some R :: ofArgs Rs n
  | R :: Rs, 0 => some R :: ofArgs Rs 0
class MonoAll (Rs : List VP) : Prop where
  all : ∀ R ∈ Rs, Mono R
instance : MonoAll [] := ⟨fun _ h => nomatch h⟩
instance {R : VP} {Rs : List VP} [m : Mono R] [h : MonoAll Rs] : MonoAll (R :: Rs) := ⟨fun S hS => (List.mem_cons.mp hS).elim (fun z => z ▸ m) (h.all S)⟩
theorem sat_start : ∀ {Rs : List VP} {vs : List V} {F : Hp} {n : Nat}, MonoAll Rs → Each Rs vs F → SatV (ofArgs Rs n) (vs.map some ++ List.replicate (n - vs.length) none) F
  | [], [], F, n, _, _ => by
    rw [ofArgs, List.map_nil, List.nil_append, List.length_nil, Nat.sub_zero]
    induction n with
    | zero => exact True.intro
    | succ n ih => exact ih
  | R :: Rs, v :: vs, F, n, m, h => by
    have ih := sat_start (n := n - 1) (Rs := Rs) (vs := vs) ⟨fun S hS => m.all S (List.mem_cons_of_mem _ hS)⟩ h.2
    have hm := m.all R List.mem_cons_self
    cases n with
    | zero =>
      refine ⟨⟨v, rfl, h.1, hm⟩, ?_⟩
      have e : 0 - (v :: vs).length = 0 - 1 - vs.length := by rw [List.length_cons]; omega
      rw [e]; exact ih
    | succ n =>
      refine ⟨⟨v, rfl, h.1, hm⟩, ?_⟩
      have e : n + 1 - (v :: vs).length = n + 1 - 1 - vs.length := by rw [List.length_cons]; omega
      rw [e]; exact ih
  | [], _ :: _, _, _, _, h => h.elim
  | _ :: _, [], _, _, _, h => h.elim
section
variable {P : Program} {w : World} {K : PySem.W.Frag} {mg : Str → Option Value} {base : Heap} {γ δ S : Type}
theorem gw_ok {x qual : Str} {stt : Stmt} {f : Addr} {fd : FuncData} {N ps : List Str} {k : Nat} {Rs : γ → List VP} {spec : γ → (δ → Prop) → Prop} {R : δ → VP} (Nx : (δ → Prop) → S → Prop) (F : Fun K x qual stt f fd) (Sc : FnScope N ps (defScope stt)) (len : ∀ g, (Rs g).length = ps.length) (hm : ∀ g, MonoAll (Rs g)) (ρ2 : S → List (Option VP)) (κ2 : S → List Ow)
    (hN : ∀ Q s, Nx Q s → ∃ d, Q d ∧ ∀ F, R d .non F)
    (body : ∀ (cdv : Value) (A : Around) (outer : List Env) (s : Shared) (H : Hp) (E : XK) (g : γ), Room k (A.deeper (envOfC qual (defScope stt) s.heap.objs.size f cdv)) →
      ∃ t, PSs (cxOf CX0 P w K mg base N qual (defScope stt) f cdv A outer s H E).nox (defBody stt) t ∧ ∃ m : Ws Empty S δ, TrS Z0 (ofArgs (Rs g) N.length) [] t m ρ2 κ2 R ∧ ∀ Q, (∃ vs F, Each (Rs g) vs F) → spec g Q → m (Nx Q) Q X0) :
    FnOk P w K mg base CX0 (k + 1) f fd ps (SpN Rs spec R) := by
  refine F.ok Sc (fun vs H Q E ⟨g, F0, N0, P0, A, hv, q⟩ => (each_length hv).trans (len g)) fun cdv A outer s H vs Q E hr ⟨g, F0, N0, P0, A0, hv, hs, q⟩ => ?_
  obtain ⟨t, h1, m, h2, h3⟩ := body cdv A outer s H E g hr
  refine ⟨t, h1, ?_⟩
  refine h2.run (start N vs) F0 [] (sat_start (hm g) hv) True.intro _ _ _ (h3 P0 ⟨vs, F0, hv⟩ hs) F0 N0 H (Same.refl _) A0 wish0 _ (fun σ' F' L' H' e' A' ⟨s', n, _⟩ => ?_) fun v F' H' e' A' ⟨d, pd, r⟩ => q d v F' H' e' A' pd r
  obtain ⟨d, pd, rd⟩ := hN _ _ n
  exact q d .non F' H' e' A'.drop pd (rd F')
theorem gw_mk {x : Str} {stt : Stmt} {f : Addr} {fd : FuncData} {N ps : List Str} {k : Nat} {Rs : γ → List VP} {spec : γ → (δ → Prop) → Prop} {R : δ → VP} (F : Fun K x x stt f fd) (hmg : mg x = some (.ref f)) (b : Binds K fd ps []) (Sc : FnScope N ps (defScope stt)) (len : ∀ g, (Rs g).length = ps.length) (hm : ∀ g, MonoAll (Rs g))
    (body : ∀ (cdv : Value) (A : Around) (outer : List Env) (s : Shared) (H : Hp) (E : XK) (g : γ), Room k (A.deeper (envOfC x (defScope stt) s.heap.objs.size f cdv)) →
      ∃ t, PSs (cxOf CX0 P w K mg base N x (defScope stt) f cdv A outer s H E).nox (defBody stt) t ∧ ∃ m : Ws Empty Unit δ, TrS Z0 (ofArgs (Rs g) N.length) [] t m (fun _ => List.replicate N.length none) (fun _ => []) R ∧ ∀ Q, (∃ vs F, Each (Rs g) vs F) → spec g Q → m (fun _ => False) Q X0) :
    Gf P w K mg base (k + 1) x (SpN Rs spec R) :=
  ⟨f, fd, ps, gw_ok (fun _ _ => False) F Sc len hm _ _ (fun _ _ h => h.elim) body, hmg, F.kp, b⟩
theorem gw_met {x qual : Str} {stt : Stmt} {f : Addr} {fd : FuncData} {N ps : List Str} {k : Nat} {Rs : γ → List VP} {spec : γ → (δ → Prop) → Prop} {R : δ → VP} (F : Fun K x qual stt f fd) (Sc : FnScope N ps (defScope stt)) (len : ∀ g, (Rs g).length = ps.length) (hm : ∀ g, MonoAll (Rs g))
    (body : ∀ (cdv : Value) (A : Around) (outer : List Env) (s : Shared) (H : Hp) (E : XK) (g : γ), Room k (A.deeper (envOfC qual (defScope stt) s.heap.objs.size f cdv)) →
      ∃ t, PSs (cxOf CX0 P w K mg base N qual (defScope stt) f cdv A outer s H E).nox (defBody stt) t ∧ ∃ m : Ws Empty Unit δ, TrS Z0 (ofArgs (Rs g) N.length) [] t m (fun _ => List.replicate N.length none) (fun _ => []) R ∧ ∀ Q, (∃ vs F, Each (Rs g) vs F) → spec g Q → m (fun _ => False) Q X0) :
    FnOk P w K mg base CX0 (k + 1) f fd ps (SpN Rs spec R) := gw_ok (fun _ _ => False) F Sc len hm _ _ (fun _ _ h => h.elim) body
/-- a promise by a precondition, as one by a wish -/
theorem SpF.toN {pre : γ → Prop} {Rs : γ → List VP} {f : γ → δ} {R : δ → VP} {vs : List V} {H : Hp} {Q : VK} {E : XK} (h : SpN Rs (fun g Q => pre g ∧ Q (f g)) R vs H Q E) : SpF pre Rs (fun g => R (f g)) vs H Q E :=
  let ⟨g, F, N, P, A, hv, ⟨hp, p⟩, q⟩ := h
  ⟨g, F, N, hp, A, hv, fun v F' H' e A' r => q _ v F' H' e A' p r⟩
theorem Gf.toN {k : Nat} {x : Str} {pre : γ → Prop} {Rs : γ → List VP} {f : γ → δ} {R : δ → VP} (h : Gf P w K mg base k x (SpF pre Rs (fun g => R (f g)))) : Gf P w K mg base k x (SpN Rs (fun g Q => pre g ∧ Q (f g)) R) :=
  let ⟨a, fd, ps, F, h1, h2, h3⟩ := h
  ⟨a, fd, ps, F.imp fun _ _ _ _ => SpF.toN, h1, h2, h3⟩
end
end Tw

/-! Tw5: a class's own ==, len, str, in; more of numbers, lists, pairs. -/
namespace Tw
open PySem PySem.Spec PyProof.Rows L2 SlX StX Rs Ma
variable [Rs.Tabz]
section
variable {ε α β γ δ S : Type} {Z : Wsh ε} {ρ : List (Option VP)} {κ : List Ow} {K : PySem.W.Frag} {w : World} {te ta tb tc : TE} {t : TA} {u u1 w1 : TS} {ma : Wm ε α} {mb : Wm ε β} {m : Wm ε α} {ml : Wm ε (List α)} {Ra R : α → VP} {Rb : β → VP} {Rc : γ → VP} {Rd : δ → VP} {C : Addr} {E : XK} {i j : Nat}
  {ρ2 : S → List (Option VP)} {κ2 : S → List Ow}
theorem o_eqOwn {spec : α × β → (Bool → Prop) → Prop} [∀ a, Mono (Ra a)] [∀ b, Mono (Rb b)] (hn : PySem.W.notFirst K C (.ref C) = true) (h1 : ∀ a v F, Ra a v F → IsOb C v F) (h2 : ∀ a v F, Rb a v F → IsOb C v F) :
    Op2 ε (rOwn K C (SpN (fun p : α × β => [Ra p.1, Rb p.2]) spec (fD K dB)) E) Ra Rb (fun a b Q _ => spec (a, b) Q) (fD K dB) :=
  ⟨fun a b x y F L hx hy Q X q => fun F2 N H e2 A Qk qk => by
    obtain ⟨p, dx, vs, rfl, q1, q2⟩ := h1 _ _ _ hx
    obtain ⟨p', dy, ws, rfl, q3, q4⟩ := h2 _ _ _ hy
    exact ⟨p, dx, vs, p', C, dy, ws, rfl, rfl, at_slt A (e2 _ _ q1) (e2 _ _ q2), at_slt A (e2 _ _ q3) (e2 _ _ q4), hn, (a, b), F2, L ++ N, Q, A, ⟨Mono.go hx e2, Mono.go hy e2, True.intro⟩, q, fun d v F3 H3 e3 A3 pd r => qk v F3 H3 e3 A3 ⟨d, pd, r⟩⟩⟩
theorem o_neOwn {spec : α × β → (Bool → Prop) → Prop} [∀ a, Mono (Ra a)] [∀ b, Mono (Rb b)] (hn : PySem.W.notFirst K C (.ref C) = true) (h1 : ∀ a v F, Ra a v F → IsOb C v F) (h2 : ∀ a v F, Rb a v F → IsOb C v F) :
    Op2 ε (Nq.rNeOwn K C (SpN (fun p : α × β => [Ra p.1, Rb p.2]) spec (fD K dB)) E) Ra Rb (fun a b Q _ => spec (a, b) fun c => Q (!c)) (fD K dB) :=
  ⟨fun a b x y F L hx hy Q X q => fun F2 N H e2 A Qk qk => by
    obtain ⟨p, dx, vs, rfl, q1, q2⟩ := h1 _ _ _ hx
    obtain ⟨p', dy, ws, rfl, q3, q4⟩ := h2 _ _ _ hy
    exact ⟨p, dx, vs, p', C, dy, ws, rfl, rfl, at_slt A (e2 _ _ q1) (e2 _ _ q2), at_slt A (e2 _ _ q3) (e2 _ _ q4), hn, (a, b), F2, L ++ N, fun c => Q (!c), A, ⟨Mono.go hx e2, Mono.go hy e2, True.intro⟩, q, fun d v F3 H3 e3 A3 pd r => ⟨d, dt_bl r, qk _ F3 H3 e3 A3 ⟨!d, pd, .bl _⟩⟩⟩⟩
theorem c_lenOwn {spec : α → (Nat → Prop) → Prop} [∀ a, Mono (Ra a)] (h1 : ∀ a v F, Ra a v F → IsOb C v F) : Cb ε (rLenOwn C (SpN (fun a => [Ra a]) spec (fD K dN)) E) (fun a => [Ra a]) (fun a Q _ => spec a fun n => n ≤ 100000 ∧ Q n) (fD K dN) :=
  ⟨fun g vs F L hv Q X q => fun F2 N H e2 A Qk qk => by
    obtain ⟨x, rfl, hx⟩ := each1 hv
    obtain ⟨a, dx, us, rfl, q1, q2⟩ := h1 _ _ _ hx
    refine ⟨a, dx, us, rfl, at_slt A (e2 _ _ q1) (e2 _ _ q2), g, F2, L ++ N, fun n => n ≤ 100000 ∧ Q n, A, ⟨Mono.go hx e2, True.intro⟩, q, fun d v F3 H3 e3 A3 pd r => ?_⟩
    obtain ⟨p1, p2⟩ := pd
    cases r
    exact ⟨(d : Int), rfl, by omega, by omega, qk _ F3 H3 e3 A3 ⟨d, p2, .int _⟩⟩⟩
theorem c_strOwn {spec : α → (Str → Prop) → Prop} [∀ a, Mono (Ra a)] (h1 : ∀ a v F, Ra a v F → IsOb C v F) : Cb ε (rStrOwn C (SpN (fun a => [Ra a]) spec (fD K dS)) E) (fun a => [Ra a]) (fun a Q _ => spec a Q) (fD K dS) :=
  ⟨fun g vs F L hv Q X q => fun F2 N H e2 A Qk qk => by
    obtain ⟨x, rfl, hx⟩ := each1 hv
    obtain ⟨a, dx, us, rfl, q1, q2⟩ := h1 _ _ _ hx
    refine ⟨a, dx, us, rfl, at_slt A (e2 _ _ q1) (e2 _ _ q2), g, F2, L ++ N, Q, A, ⟨Mono.go hx e2, True.intro⟩, q, fun d v F3 H3 e3 A3 pd r => ?_⟩
    cases r
    exact ⟨d, rfl, qk _ F3 H3 e3 A3 ⟨d, pd, .str _⟩⟩⟩
/-! numbers -/
/-! lists, pairs -/
end
end Tw

/-! Rz: list(zip(a, b, strict=True)) of two tuples. -/
namespace Rz
open PySem PySem.Spec PyProof.Rows
variable [Rs.Tabz]
open PySem.Sem (wp)
section
variable {prog : Program} {w : World} {A : Around} {E : Value → Shared → Prop} {s : Shared}
open Builtin.SmallTypes (nextOf nextOrEnd)
abbrev IsZS (h : Heap) (z TI TO : Addr) (f0 : Value) (f1 : Bool) : Prop :=
  h.get? z = some { cls := .type "zip", dict := none, data := .fields #[f0, .bool f1, .bool true, .ref TI, .ref TO], slots := #[] }
/-- the zip while it is used up: nothing is out yet, or the first pair is -/
def ZSt (h : Heap) (z TI TO i1 i2 l1 l2 S : Addr) (xs ys : Array Value) (k : Nat) : Prop :=
  IsPair h TI (.ref i1) (.ref i2) ∧ h.IsTupleIter i1 l1 k ∧ h.IsTupleIter i2 l2 k ∧ h.IsTuple l1 xs ∧ h.IsTuple l2 ys ∧
  ((k = 0 ∧ IsZS h z TI TO .none false ∧ IsPair h TO .none .none) ∨ ∃ (T : Addr) (f : Bool) (oT : Obj), IsZS h z TI TO (rawInt T) f ∧ h.get? T = some oT ∧ T ≠ z ∧ T ≠ i1 ∧ T ≠ i2 ∧ T ≠ S)
theorem ZSt.keep {h h' : Heap} {z TI TO i1 i2 l1 l2 S : Addr} {xs ys : Array Value} {k : Nat} (Z : ZSt h z TI TO i1 i2 l1 l2 S xs ys k) (D : ZipApart z TI TO i1 i2 l1 l2) (hS : S ≠ z ∧ S ≠ TI ∧ S ≠ TO ∧ S ≠ i1 ∧ S ≠ i2 ∧ S ≠ l1 ∧ S ≠ l2)
    (kp : ∀ b o, b ≠ S → h.get? b = some o → h'.get? b = some o) : ZSt h' z TI TO i1 i2 l1 l2 S xs ys k := by
  obtain ⟨a1, a2, a3, a4, a5, a6⟩ := Z
  refine ⟨kp _ _ hS.2.1.symm a1, a2.at fun o e => kp _ o hS.2.2.2.1.symm e, a3.at fun o e => kp _ o hS.2.2.2.2.1.symm e, ?_, ?_, ?_⟩
  · obtain ⟨o, ho, x⟩ := a4; exact ⟨o, kp _ _ hS.2.2.2.2.2.1.symm ho, x⟩
  · obtain ⟨o, ho, x⟩ := a5; exact ⟨o, kp _ _ hS.2.2.2.2.2.2.symm ho, x⟩
  · rcases a6 with ⟨b1, b2, b3⟩ | ⟨T, f, oT, b1, b2, b3, b4, b5, b6⟩
    · exact .inl ⟨b1, kp _ _ hS.1.symm b2, kp _ _ hS.2.2.1.symm b3⟩
    · exact .inr ⟨T, f, oT, kp _ _ hS.1.symm b1, kp _ _ b6 b2, b3, b4, b5, b6⟩
end
end Rz

/-! Rz2: the list of a strict zip. -/
namespace Rz
open PySem PySem.Spec PyProof.Rows
variable [Rs.Tabz]
open PySem.Sem (wp)
section
variable {prog : Program} {w : World} {A : Around} {E : Value → Shared → Prop} {s : Shared} {R : Result → Shared → Prop} {z TI TO i1 i2 l1 l2 S B : Addr} {xs ys : Array Value}
end
end Rz

/-! Rz3: the word list(zip(a, b, strict=True)). -/
namespace Rz
open PySem PySem.Spec PyProof.Rows L2
variable [Rs.Tabz]
section
variable {M : Model} {A : Around} {E : Value → Shared → Prop} {s : Shared} {env : Env}
end
section
variable {X : Cx}
variable {e : Expr} {es : List Expr} {kws : List Keyword} {t tk : TA} {p p2 pos pos2 : Pos}
end
end Rz
namespace Rs
open PySem PySem.Spec PyProof.Rows L2 SlX StX
variable [Rs.Tabz]
section
variable {X : Cx} {e : Expr} {es : List Expr} {kws : List Keyword} {t tk : TA} {p p2 pos pos2 : Pos}
end
section
variable {K : PySem.W.Frag} {σ : L2.St} {F : Hp} {L : Cells} {t tk : TA}
/-- what is told of new things -/
def grow (F : Hp) (S : Addr) (as : List Addr) (H2 : Hp) : Hp := fun b => if b = S then H2 b else if b ∈ as then H2 b else F b
end
end Rs

/-! Tw6: conversions, comprehensions of two fors, zip, repeated tuples. -/
namespace Tw
open PySem PySem.Spec PyProof.Rows L2 SlX StX Rs Ma
variable [Rs.Tabz]
def fCk (n : Nat) : Unit → VP := fun _ => Ck n
instance {n : Nat} {u : Unit} : Mono (fCk n u) := inferInstanceAs (Mono (Ck n))
section
variable {ε α β γ δ S : Type} {Z : Wsh ε} {ρ : List (Option VP)} {κ : List Ow} {K : PySem.W.Frag} {w : World} {te ta tb tc : TE} {tt tt1 : TT} {t : TA} {u u1 w1 : TS} {wi wi1 : TI} {g g1 : TG} {ma : Wm ε α} {mb : Wm ε β} {m : Wm ε α} {ml : Wm ε (List α)} {Ra R : α → VP} {Rb : β → VP} {Rc : γ → VP} {Rd : δ → VP} {C : Addr} {E : XK} {i j : Nat}
  {ρ2 : S → List (Option VP)} {κ2 : S → List Ow}
theorem ts_neverq : TrS Z ρ κ (tSeq tNever u) (fun (_ : S → Prop) (_ : δ → Prop) _ => False) ρ2 κ2 Rd := ⟨fun σ F L sv sc Nx Rt X q => q.elim⟩
/-- (d,) * n -/
theorem o_rep1 {d : α → PyData} : Op2 ε (rRepTA K) (fD K (dT d)) (fD K dN) (fun xs n Q X => ∃ a, xs = [a] ∧ (1 ≤ n ∧ n ≤ 1000) ∧ Q (List.replicate n a)) (fD K (dT d)) :=
  op_of fun xs n x y F L hx hy Q X ⟨a, h, h0, q⟩ => ⟨_, q, by
    subst h
    refine r_is (r_rep1 (d := d a) (k := n) (r_c (R := Dt K (.tuple [d a])) hx) (r_c (R := Dt K (.int (n : Nat))) hy) h0.1 h0.2) ?_
    show PyData.tuple _ = PyData.tuple _
    rw [List.map_replicate]⟩
/-- two data of any kinds -/
theorem o_eqA {d : α → PyData} {e : β → PyData} : Op2 ε (rEqD K) (fD K d) (fD K e) (fun a b Q X => (SeqAt.shaped (d a) = true ∧ SeqAt.shaped (e b) = true) ∧ Q (PyData.eqv (d a) (e b))) (fD K dB) :=
  op_of fun a b x y F L hx hy Q X q => ⟨_, q.2, r_eqD (r_c (R := Dt K (d a)) hx) (r_c (R := Dt K (e b)) hy) q.1.1 q.1.2⟩
/-! ### two fors -/
end
section
variable {P : Program} {w : World} {K : PySem.W.Frag} {mg : Str → Option Value} {base : Heap} {γ δ : Type} {k : Nat} {C : Addr} {x nm : Str} {pre : γ → Prop} {Rs : γ → List VP} {f : γ → δ} {R : δ → VP}
theorem _root_.L2.MetS.toN (h : MetS P w K mg base k C x (SpF pre Rs (fun g => R (f g)))) : MetS P w K mg base k C x (SpN Rs (fun g Q => pre g ∧ Q (f g)) R) :=
  let ⟨g, h1, h2, h3⟩ := h
  ⟨g, h1, h2, h3.imp fun _ _ _ _ => SpF.toN⟩
end
end Tw

/-! Tw7: sorted of a list of tuples. -/
namespace Tw
open PySem PySem.Spec PyProof.Rows L2 SlX StX Rs Ma
variable [Rs.Tabz]
/-- sorted of a list of alike data: ps the values with their data -/
def rSortedDt (K : PySem.W.Frag) : List V → Hp → VK → Prop := fun vs H Q => ∃ (a : Addr) (ps : List (V × PyData)), vs = [.ref a] ∧ (SqL K H a (ps.map (·.1)) ∨ SqT K H a (ps.map (·.1))) ∧ (∀ p ∈ ps, Dp K H p.1 p.2) ∧ PySem.W.AllAlike (ps.map (·.2)) ∧ PySem.W.Sortable (ps.map (·.2)) ∧ (∀ p ∈ ps, p.2.depth ≤ 8) ∧
  ∀ q, H q = none → Q (.ref q) (upd H q (.lst ((ps.mergeSort (PySem.W.dataLe false (·.2))).map (·.1))))
mutual
theorem reads_in {h : Heap} : ∀ (d : PyData) (v : Value) (as : List Addr), Reads h v d as → ∀ a ∈ as, ∃ o, h.get? a = some o
  | .none, _, _, r, a, m => by cases r; cases m
  | .bool _, _, _, r, a, m => by cases r; cases m
  | .int _, _, _, r, a, m => by cases r; cases m
  | .str _, _, _, r, a, m => by cases r; cases m
  | .list xs, _, _, r, a, m => by
    cases r with
    | list h1 h2 h3 h4 =>
      rcases List.mem_cons.mp m with z | z
      · subst z; exact ⟨_, h1⟩
      · exact readsAll_in xs _ _ h4 a z
  | .tuple xs, _, _, r, a, m => by
    cases r with
    | tuple h1 h2 h3 h4 => exact readsAll_in xs _ _ h4 a m
  | .dict kvs, _, _, r, a, m => by
    cases r with
    | dict h1 h2 h3 h4 h5 =>
      rw [List.cons_append] at m
      rcases List.mem_cons.mp m with z | z
      · subst z; exact ⟨_, h1⟩
      · rcases List.mem_append.mp z with z | z
        · exact readsKeys_in kvs _ _ h4 a z
        · exact readsVals_in kvs _ _ h5 a z
theorem readsAll_in {h : Heap} : ∀ (ds : List PyData) (vs : List Value) (as : List Addr), ReadsAll h vs ds as → ∀ a ∈ as, ∃ o, h.get? a = some o
  | [], _, _, r, a, m => by cases r; cases m
  | d :: ds, _, _, r, a, m => by
    cases r with
    | cons h1 h2 =>
      rcases List.mem_append.mp m with z | z
      · exact reads_in d _ _ h1 a z
      · exact readsAll_in ds _ _ h2 a z
theorem readsKeys_in {h : Heap} : ∀ (kvs : List (PyData × PyData)) (vs : List Value) (as : List Addr), ReadsAll h vs (kvs.map (·.1)) as → ∀ a ∈ as, ∃ o, h.get? a = some o
  | [], _, _, r, a, m => by cases r; cases m
  | (k, v) :: kvs, _, _, r, a, m => by
    cases r with
    | cons h1 h2 =>
      rcases List.mem_append.mp m with z | z
      · exact reads_in k _ _ h1 a z
      · exact readsKeys_in kvs _ _ h2 a z
theorem readsVals_in {h : Heap} : ∀ (kvs : List (PyData × PyData)) (vs : List Value) (as : List Addr), ReadsAll h vs (kvs.map (·.2)) as → ∀ a ∈ as, ∃ o, h.get? a = some o
  | [], _, _, r, a, m => by cases r; cases m
  | (k, v) :: kvs, _, _, r, a, m => by
    cases r with
    | cons h1 h2 =>
      rcases List.mem_append.mp m with z | z
      · exact reads_in v _ _ h1 a z
      · exact readsVals_in kvs _ _ h2 a z
end
section
variable {X : Cx}
theorem cr_sortedDt (hu : X.A.units + 64 < cLine) : CallR X (.builtin "sorted") (rSortedDt X.K) := by
  intro pins s σ H vs us Q I r h
  obtain ⟨a, ps, rfl, hs, hd, hal, hk2, hdep, q⟩ := h
  obtain ⟨its, rv, ⟨T, o, n, hT, ho, hc, hdt⟩, hz⟩ : ∃ its : List Value, Vals (ps.map (·.1)) its ∧ (∃ (T : String) (o : Obj) (n : Nat), (T = "list" ∨ T = "tuple") ∧ s.heap.get? a = some o ∧ o.cls = .type T ∧ o.data = .seq its.toArray n) ∧ (ps.map (·.1)).length ≤ sizeLine := by
    rcases hs with hs | hs
    · obtain ⟨its, rv, hl, hz⟩ := I.list hs
      obtain ⟨o, ho, hc, n, hd⟩ := hl.isList
      exact ⟨its, rv, ⟨_, o, n, .inl rfl, ho, hc, hd⟩, hz⟩
    · obtain ⟨its, rv, hl, hz⟩ := I.tuple hs
      obtain ⟨o, ho, hc, n, hd⟩ := hl
      exact ⟨its, rv, ⟨_, o, n, .inr rfl, ho, hc, hd⟩, hz⟩
  rw [Vals.ref1 r]
  have hli : its.length = ps.length := by have := rv.length; rw [List.length_map] at this; exact this.symm
  have hz2 : ps.length ≤ sizeLine := by rw [List.length_map] at hz; exact hz
  refine Calls.call_function_entry PyProof.Rows.kind_sorted PyProof.Rows.plain_sorted PyProof.Rows.entry_sorted (PyProof.Rows.args_sorted1 _) ?_
  unfold Builtin.«sorted»
  refine wpAny_bind (m := checkCount "sorted" 1 1 _) (wpAny_pure ?_)
  refine wpAny_bind (wpAny_collect_seq a hT ho hc hdt (fun h' hk => ?_) (by rw [List.size_toArray, hli]; exact hz2))
  have I1 : Inv X pins σ H { s with heap := h' } := I.kept (t' := s.toks) hk
  have e1 : PySem.W.EachIs (fun (v : Value) (p : V × PyData) => RelV p.1 v) its ps := by
    have : ∀ (ps : List (V × PyData)) (its : List Value), Vals (ps.map (·.1)) its → PySem.W.EachIs (fun (v : Value) (p : V × PyData) => RelV p.1 v) its ps := by
      intro ps
      induction ps with
      | nil => intro its h; cases h; exact .nil
      | cons p ps ih => intro its h; cases h with | cons h1 h2 => exact .cons h1 (ih _ h2)
    exact this ps its rv
  show wpAny _ _ _ _ _ { s with heap := h' }
  rw [List.toList_toArray]
  refine wpAny_bind (wpAny_newList ?_ (by rw [hli]; exact hz2))
  have hoL : (h'.push (seqObj "list" its.toArray 0)).get? h'.objs.size = some (seqObj "list" its.toArray 0) := Heap.get?_push_size _ rfl
  have kb : ∀ b o, h'.get? b = some o → (h'.push (seqObj "list" its.toArray 0)).get? b = some o := fun b o e => Heap.get?_push_of_some _ e
  show wpAny _ _ _ _ _ { s with heap := h'.push (seqObj "list" its.toArray 0) }
  have e2 : PySem.W.EachIs (fun v (p : V × PyData) => ∃ as, Reads (h'.push (seqObj "list" its.toArray 0)) v p.2 as ∧ h'.objs.size ∉ as) its ps := by
    have : ∀ (ps : List (V × PyData)) (its : List Value), (∀ p ∈ ps, Dp X.K H p.1 p.2) → Vals (ps.map (·.1)) its → PySem.W.EachIs (fun v (p : V × PyData) => ∃ as, Reads s.heap v p.2 as) its ps := by
      intro ps
      induction ps with
      | nil => intro its _ h; cases h; exact .nil
      | cons p ps ih => intro its hp h; cases h with | cons h1 h2 => exact .cons (Dp.reads I _ _ _ (hp p List.mem_cons_self) h1) (ih _ (fun y hy => hp y (List.mem_cons_of_mem _ hy)) h2)
    refine (this ps its hd rv).mono fun v p ⟨as, hr⟩ => ⟨as, PyProof.Rows.Reads.keeps (fun b o e => kb _ _ (hk b o e)) hr, fun hm => ?_⟩
    obtain ⟨o', ho'⟩ := reads_in p.2 v as hr _ hm
    exact Nat.lt_irrefl _ (Heap.lt_size (hk _ _ ho'))
  refine wpAny_bind (wpAny_holding (PySem.W.list_sort_data (s := { s with heap := h'.push (seqObj "list" its.toArray 0) }) (bs := ps) (enc := fun p : V × PyData => p.2) (R := fun v p => RelV p.1 v) hoL e1 e2 hal hk2 hz2 (fun p hp => ?_) fun out hlo eo => ?_))
  · have := hdep p hp
    show X.A.in1.units + 1 + p.2.depth < cLine
    have h1 : X.A.in1.units ≤ X.A.units + 1 := Nat.le_refl _
    omega
  · have hv : Vals ((ps.mergeSort (PySem.W.dataLe false (·.2))).map (·.1)) out := by
      have : ∀ (qs : List (V × PyData)) (out : List Value), PySem.W.EachIs (fun (v : Value) (p : V × PyData) => RelV p.1 v) out qs → Vals (qs.map (·.1)) out := by
        intro qs
        induction qs with
        | nil => intro out h; cases h; exact .nil
        | cons p ps ih => intro out h; cases h with | cons h1 h2 => exact .cons h1 (ih _ h2)
      exact this _ _ eo
    have hlen : ((ps.mergeSort (PySem.W.dataLe false (·.2))).map (·.1)).length ≤ sizeLine := by rw [List.length_map, (List.mergeSort_perm _ _).length_eq]; exact hz2
    obtain ⟨e', he'⟩ := PyProof.Rows.sortedHeap_at (vs := its) (out := out.toArray) hoL
    refine wpAny_pure ⟨_, rfl, .ref h'.objs.size, upd H h'.objs.size (.lst _), I1.laid (t' := s.toks) (fun b u e => ?_) (Nat.le_refl _) ⟨hlen, out, e', hv, he'⟩, rfl, q _ (I1.hok.fresh (Nat.le_refl _))⟩
    have hb : b < h'.objs.size := Heap.lt_size e
    rw [PyProof.Rows.sortedHeap_old (Nat.ne_of_lt hb) (by rw [size_push']; exact Nat.lt_succ_of_lt hb)]
    exact Heap.get?_push_of_some _ e
theorem p_sortedDt {e : Expr} {es : List Expr} {t : TA} {p pos : Pos} {j : Nat} (hr : Room j X.A) (B : Bf X.mg) (ha : PA X (e :: es) t) (hg : Gl X "sorted" := by rfl) (he : starEach (e :: es) X.env = (false, eval e X.env) :: starEach es X.env := by rfl) (hpl : (backTo pos (starEach es X.env)).any (·.1) = false := by rfl) :
    PE X (.Call (.Name "sorted" p) (e :: es) [] pos) (tCB (rSortedDt X.K) t) := pe_callB (cr_sortedDt hr.units) hg B.sorted boot_sorted ha (by decide) (by decide) he hpl
end
theorem cI_le {a b : List Nat} : cI a ≤ cI b ↔ a ≤ b := by
  have key : ∀ a b : List Nat, cI b < cI a ↔ b < a := by
    intro a
    induction a with
    | nil => intro b; simp
    | cons x a ih =>
      intro b
      cases b with
      | nil => simp
      | cons y b =>
        show ((y : Int) :: cI b) < ((x : Int) :: cI a) ↔ _
        rw [List.cons_lt_cons_iff, List.cons_lt_cons_iff, ih]
        constructor
        · rintro (h | ⟨h1, h2⟩)
          · exact .inl (by omega)
          · exact .inr ⟨by omega, h2⟩
        · rintro (h | ⟨h1, h2⟩)
          · exact .inl (by omega)
          · exact .inr ⟨by omega, h2⟩
  rw [← List.not_lt, ← List.not_lt, key]
section
variable {ε α : Type} {K : PySem.W.Frag}
end
end Tw

/-! Tw8: two lists of one's own at once; list(range(n)) as one's own; the cask. -/
namespace Tw
open PySem PySem.Spec PyProof.Rows L2 SlX StX Rs Ma
variable [Rs.Tabz]
section
variable {ε α β γ δ S : Type} {Z : Wsh ε} {ρ : List (Option VP)} {κ : List Ow} {K : PySem.W.Frag} {w : World} {te ta tb tc : TE} {t : TA} {u u1 w1 : TS} {ma : Wm ε (List α)} {mb : Wm ε (List β)} {m : Wm ε α} {mn : Wm ε Nat} {Ra R : α → VP} {Rb : β → VP} {Rd : δ → VP} {i j : Nat}
  {ρ2 : S → List (Option VP)} {κ2 : S → List Ow}
theorem tr_perm2 {c d : Ow} (h : TrE Z ρ (d :: c :: κ) te m R) : TrE Z ρ (c :: d :: κ) te m R :=
  ⟨h.mono, fun σ F L sv sc Q X q F1 N H e A wsh Qk qk => by
    obtain ⟨L2, P, sc2⟩ := satC_swap sc
    exact h.run σ F L2 sv sc2 Q X q F1 N H e (A.perm (P.append_right N)) wsh Qk fun v F2 H2 e2 A2 r => qk v F2 H2 e2 (A2.perm (P.symm.append_right N)) r⟩
theorem tn_listRg (h : TrE Z ρ κ te mn (fD K dN)) : TrN Z ρ κ (tLstRg (tRg1 te)) (fun Q X => mn (fun n => n ≤ 1000 ∧ Q (List.range n)) X) (fD K dN) :=
  ⟨inferInstance, fun σ F L s c Q X q F1 N H e A wsh Qk qk => h.run σ F L s c _ X q F1 N H e A wsh _ fun v F2 H2 e2 A2 ⟨n, ⟨q0, q1⟩, r⟩ => by
    cases r
    refine ⟨(n : Int), rfl, RgOk.of_le (by omega) (by omega) (by omega) (by omega), fun p hp => ?_⟩
    rw [rgV_nat]
    exact qk p _ F2 _ (List.range n) e2 (A2.cell hp) each_ints q1⟩
end
section
variable {P : Program} {w : World} {K : PySem.W.Frag} {mg : Str → Option Value} {base : Heap} {γ δ : Type} {k : Nat}
/-- the cask, the scoop -/
theorem cask_toN {x : Str} (h : Gf P w K mg base k x (SpF (γ := List Int × Nat) (fun g => g.1.length ≤ 63) (fun g => [Dt K (.list (g.1.map .int)), Dt K (nI g.2)]) (fun _ => Ck 3))) :
    Gf P w K mg base k x (SpN (fun g : List Int × Nat => [fD K (dL dInt) g.1, fD K dN g.2]) (fun (g : List Int × Nat) (Q : Unit → Prop) => g.1.length ≤ 63 ∧ Q ()) (fCk 3)) := Gf.toN (f := fun _ => ()) (R := fCk 3) h
theorem scoop_toN {x : Str} (h : Gf P w K mg base k x (SpF (γ := Nat) (fun t => 1 ≤ t ∧ t ≤ 1000) (fun t => [Ck 3, Dt K (nI t)]) Bd)) :
    Gf P w K mg base k x (SpN (fun g : Unit × Nat => [fCk 3 g.1, fD K dN g.2]) (fun (g : Unit × Nat) (Q : Nat → Prop) => (1 ≤ g.2 ∧ g.2 ≤ 1000) ∧ ∀ n, n < g.2 → Q n) (fD K dN)) :=
  let ⟨a, fd, ps, F, h1, h2, h3⟩ := h
  ⟨a, fd, ps, F.imp fun vs H Q E ⟨g, F0, N, P, A, hv, ⟨hp, q⟩, r⟩ => ⟨g.2, F0, N, hp, A, hv, fun v F' H' e A' ⟨n, hn, hv⟩ => r n v F' H' e A' (q n hn) (by subst hv; exact .int _)⟩, h1, h2, h3⟩
end
end Tw

/-! Tw9: the head's parts that are alike in all laws. -/
namespace Tw
open PySem PySem.Spec PyProof.Rows L2 SlX StX Rs Ma
variable [Rs.Tabz]
def TopFn (K : PySem.W.Frag) (x : Str) (st : Stmt) (ps : List Str) : Prop := ∃ f fd, PySem.W.nsIn K mainGlobals x = some (some (.ref f)) ∧ Fun K x x st f fd ∧ Binds K fd ps []
theorem top_fn {K : PySem.W.Frag} {x : Str} {st : Stmt} {ps : List Str} {f : Addr} {oc : Value} {od an : Option Addr} {osl : Array (Option Value)} {kV doc pm cdv ct : Value} (a : PySem.W.nsIn K mainGlobals x = some (some (.ref f)))
    (l : K.lookup f = some ⟨oc, od, .func (PySem.W.fnOf x x (defArgs st) (defBody st) (defScope st) .none kV doc pm an cdv ct), osl⟩) (c : PySem.W.codeIn K cdv x = true) (k : PySem.W.keepIn K (.ref f) = true)
    (b : ∀ (kV doc pm : Value) (an : Option Addr) (cdv ct : Value) (us : List Value), us.length = ps.length → bindArgs (PySem.W.fnOf x x (defArgs st) (defBody st) (defScope st) .none kV doc pm an cdv ct) ⟨us, []⟩ = pure (ps.zip us)) : TopFn K x st ps :=
  ⟨f, _, a, fun_mk l c k, (fun_mk (st := st) l c k).binds b⟩
def MetFn (K : PySem.W.Frag) (C : Addr) (x qual : Str) (st : Stmt) (ps : List Str) : Prop := ∃ f fd, PySem.W.findIn K (.ref C) x = some (some (.ref f)) ∧ PySem.W.isFn K (.ref f) = true ∧ Fun K x qual st f fd ∧ Binds K fd ps []
theorem met_fn {K : PySem.W.Frag} {C : Addr} {x qual : Str} {st : Stmt} {ps : List Str} {f : Addr} {oc : Value} {od an : Option Addr} {osl : Array (Option Value)} {kV doc pm cdv ct : Value} (a : PySem.W.findIn K (.ref C) x = some (some (.ref f))) (i : PySem.W.isFn K (.ref f) = true)
    (l : K.lookup f = some ⟨oc, od, .func (PySem.W.fnOf x qual (defArgs st) (defBody st) (defScope st) .none kV doc pm an cdv ct), osl⟩) (c : PySem.W.codeIn K cdv qual = true) (k : PySem.W.keepIn K (.ref f) = true)
    (b : ∀ (kV doc pm : Value) (an : Option Addr) (cdv ct : Value) (us : List Value), us.length = ps.length → bindArgs (PySem.W.fnOf x qual (defArgs st) (defBody st) (defScope st) .none kV doc pm an cdv ct) ⟨us, []⟩ = pure (ps.zip us)) : MetFn K C x qual st ps :=
  ⟨f, _, a, i, fun_mk l c k, (fun_mk (st := st) l c k).binds b⟩
def PrpFn (K : PySem.W.Frag) (C : Addr) (x qual : Str) (st : Stmt) : Prop := ∃ p g fd, PySem.W.findIn K (.ref C) x = some (some (.ref p)) ∧ PySem.W.specialIn K (.ref p) "__get__" = some (some (.builtin "property.__get__")) ∧ PySem.W.takesIn K (.ref p) = some true ∧
    (∃ rest, PySem.W.recIn K p "property" = some (.ref g :: rest)) ∧ Fun K x qual st g fd ∧ Binds K fd ["self"] []
theorem prp_fn {K : PySem.W.Frag} {C p : Addr} {x qual : Str} {st : Stmt} {f : Addr} {rest : List Value} {oc : Value} {od an : Option Addr} {osl : Array (Option Value)} {kV doc pm cdv ct : Value} (a : PySem.W.findIn K (.ref C) x = some (some (.ref p)))
    (s : PySem.W.specialIn K (.ref p) "__get__" = some (some (.builtin "property.__get__"))) (t : PySem.W.takesIn K (.ref p) = some true) (r : PySem.W.recIn K p "property" = some (.ref f :: rest))
    (l : K.lookup f = some ⟨oc, od, .func (PySem.W.fnOf x qual (defArgs st) (defBody st) (defScope st) .none kV doc pm an cdv ct), osl⟩) (c : PySem.W.codeIn K cdv qual = true) (k : PySem.W.keepIn K (.ref f) = true)
    (b : ∀ (kV doc pm : Value) (an : Option Addr) (cdv ct : Value) (us : List Value), us.length = 1 → bindArgs (PySem.W.fnOf x qual (defArgs st) (defBody st) (defScope st) .none kV doc pm an cdv ct) ⟨us, []⟩ = pure ((["self"] : List Str).zip us)) : PrpFn K C x qual st :=
  ⟨p, f, _, a, s, t, ⟨rest, r⟩, fun_mk l c k, (fun_mk (st := st) l c k).binds b⟩
def SlotAt (K : PySem.W.Frag) (C : Addr) (x : Str) (i : Nat) : Prop := ∃ p, Slot1 K C x p i
theorem slot_at {K : PySem.W.Frag} {C p : Addr} {x : Str} {i : Nat} (a : PySem.W.findIn K (.ref C) x = some (some (.ref p))) (s : PySem.W.specialIn K (.ref p) "__get__" = some (some (.builtin "member_descriptor.__get__"))) (t : PySem.W.takesIn K (.ref p) = some true)
    (y : PySem.W.typeIn K (.ref p) = some (.type "member_descriptor")) (j : PySem.W.slotIn K p C = some i) (h : i < 1000) : SlotAt K C x i := ⟨p, a, s, t, y, j, h⟩
theorem kit_self {K : PySem.W.Frag} {C : Addr} : PySem.W.kitOne K (.ref C) (.ref C) = some true := by
  unfold PySem.W.kitOne; rw [if_pos (by simp)]
/-- law's, as the head asks it -/
def spLaw (K : PySem.W.Frag) : Sp := fun vs H Q _ => ∃ (a : Addr) (ns : List Int), vs = [.ref a] ∧ SqL K H a (ns.map V.int) ∧ ns.length ≤ 63 ∧ TabT (fun _ => none) H ∧ ∀ H', Q (.bl true) H'
open Classical in
/-- all but the tables -/
noncomputable def cutT (H : Hp) : Hp := fun b => if Tabz.ts b then none else H b
theorem cutT_at {H : Hp} {b : Addr} (h : ¬ Tabz.ts b) : cutT H b = H b := by unfold cutT; rw [if_neg h]
theorem at_start {H : Hp} (tb : TabT (fun _ => none) H) : At (cutT H) [] H := At.nil (fun b u e => by
  unfold cutT at e
  split at e
  · cases e
  · exact e) (tb.up fun c q h => nomatch h) fun P hP => by unfold cutT; rw [if_pos hP]
theorem sqL_cut {K : PySem.W.Frag} {H : Hp} {a : Addr} {xs : List V} (tb : TabT (fun _ => none) H) (h : SqL K H a xs) : SqL K (cutT H) a xs := by
  rcases h with (h | ⟨o, h⟩) | h
  · refine .inl (.inl ?_)
    rw [cutT_at fun z => by obtain ⟨ps, e, _⟩ := tb a z; rw [h] at e; cases e]; exact h
  · refine .inl (.inr ⟨o, ?_⟩)
    rw [cutT_at fun z => by obtain ⟨ps, e, _⟩ := tb a z; rw [h] at e; cases e]; exact h
  · exact .inr h
end Tw

/-! Sn0: sets whose elements are keys of any one kind of heap keys; the search. -/
namespace Sn
open PySem PySem.Spec PyProof.Rows L2
variable [Rs.Tabz]

/-- a kind of keys that a set shows nothing of -/
structure SKind (P : Program) (w : World) (K : Type) [DecidableEq K] where
  kd : HeapKind P w K
  noClass : ∀ {A : Around} {E : Value → Shared → Prop} {s : Shared} {k : K} {a : Addr} {Q : Bool → Shared → Prop}, kd.is s.heap k a → Q false s → wpAny (model P w) A (ofAClassStatement 8 (.ref a)) Q E s
  byVal : ∀ {A : Around} {E : Value → Shared → Prop} {s : Shared} {k : K} {a : Addr} {Q : Bool → Shared → Prop}, kd.is s.heap k a → Q true s → wpAny (model P w) A (hashByValue 8 (.ref a)) Q E s
  stay : ∀ {h h' : Heap} {k : K} {a : Addr}, kd.is h k a → (∀ b o vs n, h.get? b = some o → o.data = .seq vs n → h'.get? b = some o) → kd.is h' k a

section
variable {P : Program} {w : World} {K : Type} [DecidableEq K] (kk : SKind P w K)
def hs (p : Addr × K) : Int := kk.kd.hash p.2
def row1 (p : Addr × K) : Int × Value := (hs kk p, .ref p.1)
/-- the object o at a is the set of the keys of L -/
structure SI (h : Heap) (a : Addr) (L : List (Addr × K)) (o : Obj) (es : Array (Int × Value)) (ep : Nat) (t : SetTable) : Prop where
  at' : h.get? a = some o
  exact' : o.ExactSet
  data : o.data = .set es ep t
  rows : es.toList = L.map (row1 kk)
  tab : TabOk t (L.map (hs kk))
  nd : (L.map (·.2)).Nodup
  keys : ∀ p ∈ L, kk.kd.is h p.2 p.1
  plain : t.plain = true
  led : w.params.followText "set-order" = true ∨ t.led = true
  room : L.length * 5 < t.mask * 3
  few : L.length < 64
variable {kk}
theorem rows_len {es : Array (Int × Value)} {L : List (Addr × K)} (h : es.toList = L.map (row1 kk)) : es.size = L.length := by
  rw [← Array.length_toList, h, List.length_map]
theorem rows_at {es : Array (Int × Value)} {L : List (Addr × K)} (h : es.toList = L.map (row1 kk)) (i : Nat) : es[i]? = (L[i]?).map (row1 kk) := by
  rw [← Array.getElem?_toList, h, List.getElem?_map]
theorem fits_of {t : SetTable} {n : Nat} (h1 : t.place.size = n) (h2 : t.dummies = #[]) (h3 : n ≤ t.mask) : t.fits n = true := by
  have e : t.fill = n := by
    unfold SetTable.fill
    rw [h1, h2]; rfl
  unfold SetTable.fits
  rw [e, h1, Bool.and_eq_true, beq_iff_eq, decide_eq_true_eq]
  exact ⟨rfl, h3⟩
section
variable {h : Heap} {a : Addr} {L : List (Addr × K)} {o : Obj} {es : Array (Int × Value)} {ep : Nat} {t : SetTable}
theorem SI.sz (R : SI kk h a L o es ep t) : t.place.size = es.size := by
  rw [R.tab.sz, List.length_map, rows_len R.rows]
theorem SI.fits (R : SI kk h a L o es ep t) : t.fits es.size = true := by
  refine fits_of R.sz R.tab.dm ?_
  have := R.room
  rw [rows_len R.rows]
  omega
theorem SI.notGone (R : SI kk h a L o es ep t) : ¬ t.gaveWay = true := by
  unfold SetTable.gaveWay
  rw [mask_odd R.tab.mok]
  decide
theorem SI.hashAt (R : SI kk h a L o es ep t) {i : Nat} {p : Addr × K} (hp : L[i]? = some p) : (es[i]?.map (·.1)).getD 0 = hs kk p := by
  rw [rows_at R.rows, hp]; rfl
theorem SI.inPlace (R : SI kk h a L o es ep t) {i : Nat} {p : Addr × K} (hp : L[i]? = some p) : ∃ j, t.place.toList[i]? = some j := by
  have h1 := (List.getElem?_eq_some_iff.mp hp).1
  have h2 : i < t.place.toList.length := by
    rw [Array.length_toList, R.tab.sz, List.length_map]; exact h1
  exact ⟨_, List.getElem?_eq_getElem h2⟩
theorem SI.ofPlace (R : SI kk h a L o es ep t) {i j : Nat} (hj : t.place.toList[i]? = some j) : ∃ p, L[i]? = some p := by
  have h1 := (List.getElem?_eq_some_iff.mp hj).1
  rw [Array.length_toList, R.tab.sz, List.length_map] at h1
  exact ⟨_, List.getElem?_eq_getElem h1⟩
end

/-- the n-th step of the way of a hash -/
abbrev stp (t : SetTable) (v : Int) (n : Nat) : SetTable.Probe := nth t.mask (runAt t.mask (SetTable.bits v % (t.mask + 1)) (SetTable.bits v)) n
theorem stp_dummy (t : SetTable) (v : Int) : ∀ n, (stp t v n).dummy = none
  | 0 => rfl
  | n + 1 => by
    have ih := stp_dummy t v n
    show (nth t.mask _ (n + 1)).dummy = none
    rw [nth_succ]
    unfold adv
    split
    · exact ih
    · exact ih
theorem stp_add (t : SetTable) (v : Int) (c q : Nat) : nth t.mask (stp t v c) q = stp t v (c + q) := (nth_add t.mask c _ q).symm

section
variable {A : Around} {E : Value → Shared → Prop} {s : Shared}
/-- a search among such keys shows nothing -/
theorem unseen {k : K} {b : Addr} {Q : Bool → Shared → Prop} (hk : kk.kd.is s.heap k b) (ys : List Value) (hy : ∀ y ∈ ys, ∃ k' c, y = Value.ref c ∧ kk.kd.is s.heap k' c) (h : Q false s) :
    wpAny (model P w) A (searchCouldBeSeen (.ref b) ys) Q E s := by
  unfold searchCouldBeSeen
  refine wpAny_bind (wpAny_forIn_list _ (fun left r s' => (r.1 = none ∧ s' = s) ∧ ∀ y ∈ left, ∃ k' c, y = Value.ref c ∧ kk.kd.is s.heap k' c) _ (fun y left r s' H => ?_) (fun r s' H => ?_) _ _ ⟨⟨rfl, rfl⟩, hy⟩)
  · obtain ⟨⟨h1, rfl⟩, h2⟩ := H
    obtain ⟨k', c, rfl, hc⟩ := h2 y List.mem_cons_self
    have more := fun u (hu : u ∈ left) => h2 u (List.mem_cons_of_mem _ hu)
    dsimp only
    cases hv : (b == c || (carriedByValue (.ref b) && carriedByValue (.ref c)))
    · refine wp_if_neg (by decide) (wpAny_bind (kk.kd.quiet hk ?_))
      simp only [Bool.not_true, Bool.false_eq_true, if_false]
      refine wpAny_bind (kk.kd.quiet hc ?_)
      simp only [Bool.not_true, Bool.false_eq_true, if_false]
      refine wpAny_bind (kk.noClass hk ?_)
      simp only [Bool.false_eq_true, if_false]
      refine wpAny_bind (kk.noClass hc ?_)
      simp only [Bool.false_eq_true, if_false]
      exact wpAny_pure ⟨⟨rfl, rfl⟩, more⟩
    · exact wp_if_pos rfl (wpAny_pure ⟨⟨rfl, rfl⟩, more⟩)
  · obtain ⟨r1, r2⟩ := r
    obtain ⟨⟨h1, rfl⟩, _⟩ := H
    simp only at h1
    subst h1
    exact wpAny_pure h

variable {a : Addr} {L : List (Addr × K)} {o : Obj} {es : Array (Int × Value)} {ep : Nat} {t : SetTable}
/-- the search, with n steps to the free slot -/
theorem look (R : SI kk s.heap a L o es ep t) {x : Addr} {k : K} (hx : kk.kd.is s.heap k x) (hr : kk.kd.room A) {N : Nat} (hN : N < 10 * SetTable.turns t.mask)
    (free : way t.mask (kk.kd.hash k) N ∉ t.place.toList) (taken : ∀ c, c < N → way t.mask (kk.kd.hash k) c ∈ t.place.toList) {Q : SetFound → Shared → Prop}
    (qin : k ∈ L.map (·.2) → Q (.there none) s) (qout : k ∉ L.map (·.2) → Q (.free (way t.mask (kk.kd.hash k) N) false) s) :
    ∀ (n f c : Nat) (from' : Option SetTable.Probe), c + n = N → n < f → from'.getD (t.probeStart (kk.kd.hash k)) = stp t (kk.kd.hash k) c →
      (∀ (i : Nat) p, L[i]? = some p → p.2 = k → ∃ c', c ≤ c' ∧ c' < N ∧ t.place.toList[i]? = some (way t.mask (kk.kd.hash k) c')) →
      wpAny (model P w) A (setSearchFrom a (.ref x) (kk.kd.hash k) true f from') Q E s := by
  intro n
  induction n using Nat.strongRecOn with
  | ind n ih =>
    intro f c from' hc hf hfrom ahead
    obtain ⟨f, rfl⟩ : ∃ g, f = g + 1 := ⟨f - 1, by omega⟩
    rw [setSearchFrom_succ]
    refine wpAny_bind (wpAny_setState_of R.at' R.data R.fits ?_)
    dsimp only
    refine wp_if_neg R.notGone ?_
    try refine wpAny_bind (wpAny_pure ?_)
    have spec := go_spec t R.tab.ris R.tab.dm (fun i => (es[i]?.map (·.1)).getD 0) (kk.kd.hash k) (10 * SetTable.turns t.mask) n (stp t (kk.kd.hash k) c) (stp_dummy _ _ _) (by omega)
      (fun q hq => by rw [stp_add]; exact taken (c + q) (by omega)) (by rw [stp_add, hc]; exact free)
    rcases spec with ⟨q, i, hq, hi, hh, first, probe⟩ | ⟨none', probe⟩
    · rw [stp_add] at hi
      rw [stp_add, stp_add] at probe
      have probe' : t.probe (fun i => (es[i]?.map (·.1)).getD 0) (kk.kd.hash k) (from'.getD (t.probeStart (kk.kd.hash k))) = some (.candidate (stp t (kk.kd.hash k) (c + q)).j i (stp t (kk.kd.hash k) (c + (q + 1)))) := by rw [hfrom]; exact probe
      rw [probe']
      dsimp only
      obtain ⟨p, hp⟩ := R.ofPlace hi
      have hpL := List.mem_of_getElem? hp
      have entry : es[i]? = some (hs kk p, Value.ref p.1) := by rw [rows_at R.rows, hp]; rfl
      have slot := slot_live R.tab.ris hi
      have rest : wpAny (model P w) A (searchRest a (.ref x) (kk.kd.hash k) true f es t (stp t (kk.kd.hash k) (c + q)).j i (stp t (kk.kd.hash k) (c + (q + 1)))) Q E s := by
        unfold searchRest
        rw [entry]
        dsimp only
        refine wpAny_bind (wpAny_holding (kk.kd.eqBool hr (R.keys p hpL) hx ?_))
        refine wpAny_bind (wpAny_setState_of R.at' R.data R.fits ?_)
        dsimp only
        by_cases same : p.2 = k
        · exact wp_if_pos (by simp [same]) (wpAny_pure (qin (List.mem_map.mpr ⟨p, hpL, same⟩)))
        · refine wp_if_neg (by simp [same]) ?_
          try refine wpAny_bind (wpAny_pure ?_)
          rw [sameMem]
          dsimp only
          simp only [if_true, slot, entry]
          refine wpAny_bind (wpAny_isSame_ref_self (wpAny_bind (wpAny_pure ?_)))
          simp only [if_true]
          refine wp_if_neg (by simp [same]) ?_
          refine ih (n - (q + 1)) (by omega) f (c + (q + 1)) _ (by omega) (by omega) rfl fun i0 p0 h0 e0 => ?_
          obtain ⟨c', a1, a2, a3⟩ := ahead i0 p0 h0 e0
          refine ⟨c', ?_, a2, a3⟩
          rcases Nat.lt_trichotomy c' (c + q) with z | z | z
          · refine absurd ?_ (first (c' - c) i0 (by omega) (by rw [stp_add, show c + (c' - c) = c' by omega]; exact a3))
            exact (R.hashAt h0).trans (congrArg kk.kd.hash e0)
          · rw [z] at a3
            have s2 := slot_live R.tab.ris a3
            rw [slot] at s2
            injection s2 with s2
            rw [← s2, hp] at h0
            exact absurd ((congrArg Prod.snd (Option.some.inj h0)).trans e0) same
          · omega
      cases hled : t.led
      · refine wp_if_pos rfl (wpAny_bind (unseen hx _ (fun y hy => ?_) ?_))
        · obtain ⟨e, he, ee⟩ := List.mem_map.mp hy
          have he1 : e ∈ es.toList := by
            have : e ∈ es ∧ e.1 = kk.kd.hash k := by simpa using he
            simpa using this.1
          rw [R.rows] at he1
          obtain ⟨z, hz, rfl⟩ := List.mem_map.mp he1
          exact ⟨z.2, z.1, ee.symm, R.keys z hz⟩
        · refine wp_if_neg (by decide) ?_
          try refine wpAny_bind (wpAny_pure ?_)
          exact rest
      · refine wp_if_neg (by decide) ?_
        try refine wpAny_bind (wpAny_pure ?_)
        exact rest
    · rw [stp_add, hc] at probe
      have probe' : t.probe (fun i => (es[i]?.map (·.1)).getD 0) (kk.kd.hash k) (from'.getD (t.probeStart (kk.kd.hash k))) = some (.empty (way t.mask (kk.kd.hash k) N) none) := by rw [hfrom]; exact probe
      rw [probe']
      dsimp only
      refine wpAny_pure (qout fun hm => ?_)
      obtain ⟨p0, h0, e0⟩ := List.mem_map.mp hm
      obtain ⟨i0, hi0⟩ := List.mem_iff_getElem?.mp h0
      obtain ⟨c', a1, a2, a3⟩ := ahead i0 p0 hi0 e0
      refine absurd ?_ (none' (c' - c) i0 (by omega) (by rw [stp_add, show c + (c' - c) = c' by omega]; exact a3))
      exact (R.hashAt hi0).trans (congrArg kk.kd.hash e0)

/-- the search as adding asks for it -/
theorem seek (R : SI kk s.heap a L o es ep t) {x : Addr} {k : K} (hx : kk.kd.is s.heap k x) (hr : kk.kd.room A) {Q : SetFound → Shared → Prop} (qin : k ∈ L.map (·.2) → Q (.there none) s)
    (qout : ∀ N, k ∉ L.map (·.2) → way t.mask (kk.kd.hash k) N ∉ t.place.toList → (∀ c, c < N → way t.mask (kk.kd.hash k) c ∈ t.place.toList) → Q (.free (way t.mask (kk.kd.hash k) N) false) s) :
    wpAny (model P w) A (setSearch a (.ref x) (kk.kd.hash k) true) Q E s := by
  have hroom := R.room
  obtain ⟨N, hN, free, taken⟩ := R.tab.first (by rw [List.length_map]; omega) (kk.kd.hash k)
  have bound : 10 * SetTable.turns t.mask ≤ 99999 := by
    unfold SetTable.turns
    rcases R.tab.mok with e | e | e <;> omega
  refine look R hx hr hN free taken qin (fun hn => qout N hn free taken) N 100000 0 none (Nat.zero_add _) (by omega) rfl fun i p hp e => ?_
  obtain ⟨j, hj⟩ := R.inPlace hp
  have hi : (L.map (hs kk))[i]? = some (kk.kd.hash k) := by rw [List.getElem?_map, hp, ← e]; rfl
  obtain ⟨c, hc, ec⟩ := R.tab.before free hi hj
  exact ⟨c, Nat.zero_le _, hc, by rw [hj, ec]⟩
end
end
end Sn

/-! Sn1: adding to a set of keys. -/
namespace Sn
open PySem PySem.Spec PyProof.Rows L2
variable [Rs.Tabz]
section
variable {P : Program} {w : World} {K : Type} [DecidableEq K] {kk : SKind P w K}

/-- the entries in another order -/
theorem picked {L : List (Addr × K)} {es : Array (Int × Value)} (h : es.toList = L.map (row1 kk)) : ∀ is : List Nat, (∀ i ∈ is, i < L.length) →
    is.filterMap (fun i => es[i]?) = (is.filterMap fun i => L[i]?).map (row1 kk) ∧ (is.filterMap fun i => L[i]?).map (hs kk) = is.map fun i => (es.map (·.1)).getD i 0
  | [], _ => ⟨rfl, rfl⟩
  | i :: is, hi => by
    obtain ⟨e1, e2⟩ := picked h is fun j hj => hi j (List.mem_cons_of_mem _ hj)
    have hl := hi i List.mem_cons_self
    have hL : L[i]? = some L[i] := List.getElem?_eq_getElem hl
    have hE : es[i]? = some (row1 kk L[i]) := by rw [rows_at h, hL]; rfl
    refine ⟨?_, ?_⟩
    · rw [List.filterMap_cons_some hE, List.filterMap_cons_some hL, e1, List.map_cons]
    · rw [List.filterMap_cons_some hL, List.map_cons, List.map_cons, e2]
      congr 1
      have : (es.map (·.1))[i]? = some (hs kk L[i]) := by rw [Array.getElem?_map, hE]; rfl
      simp [Array.getD_eq_getD_getElem?, this]
theorem picked_upto {α : Type} (L : List α) : ∀ n, n ≤ L.length → (List.range n).filterMap (fun i => L[i]?) = L.take n
  | 0, _ => rfl
  | n + 1, h => by
    have e : L[n]? = some L[n] := List.getElem?_eq_getElem h
    rw [List.range_succ, List.filterMap_append, picked_upto L n (Nat.le_of_succ_le h), List.take_succ, e]
    simp [e]
theorem all_picked {α : Type} (L : List α) : (List.range L.length).filterMap (fun i => L[i]?) = L := by
  rw [picked_upto L _ (Nat.le_refl _), List.take_length]

section
variable {A : Around} {E : Value → Shared → Prop} {s : Shared} {a : Addr} {L : List (Addr × K)} {o : Obj} {es : Array (Int × Value)} {ep : Nat} {t : SetTable}
/-- what is no set stays, so keys stay -/
theorem key_but {h h' : Heap} {k : K} {b : Addr} (hk : kk.kd.is h k b) (ho : h.get? a = some o) (hd : o.data = .set es ep t) (sb : Heap.SameBut a h h') : kk.kd.is h' k b :=
  kk.stay hk fun c o' vs n hc hq => by
    refine (sb.2 c ?_).trans hc
    rintro rfl
    rw [ho] at hc
    cases hc
    rw [hd] at hq
    exact nomatch hq
theorem key_up {h h' : Heap} {k : K} {b : Addr} (hk : kk.kd.is h k b) (up : ∀ c o, h.get? c = some o → h'.get? c = some o) : kk.kd.is h' k b := kk.stay hk fun c o _ _ hc _ => up c o hc

/-- a set whose table is too full is laid anew -/
theorem relay {M wanted : Nat} (ho : s.heap.get? a = some o) (hex : o.ExactSet) (hd : o.data = .set es ep t) (hrow : es.toList = L.map (row1 kk)) (T : TabOk t (L.map (hs kk))) (hfit : L.length ≤ t.mask)
    (nd : (L.map (·.2)).Nodup) (keys : ∀ p ∈ L, kk.kd.is s.heap p.2 p.1) (pl : t.plain = true) (ld : w.params.followText "set-order" = true ∨ t.led = true) (few : L.length < 64)
    (hw : SetTable.sizeAbove wanted = M + 1) (hM : MaskOk M) (hn : L.length * 5 < M * 3) {Q : Unit → Shared → Prop}
    (q : ∀ h' L' o' es' ep' t', Heap.SameBut a s.heap h' → SI kk h' a L' o' es' ep' t' → L'.Perm L → Q () { s with heap := h' }) : wpAny (model P w) A (setRelay a wanted) Q E s := by
  have len := rows_len hrow
  have psz : t.place.size = es.size := by rw [T.sz, List.length_map, len]
  have M128 : M ≤ 127 := by rcases hM with e | e | e <;> omega
  obtain ⟨t', order, er, pm, T', em, el, epl, edm⟩ := relaid_ok t (hs := es.map (·.1)) (wanted := wanted) (M := M) (by omega) hM (by rw [Array.size_map, len]; omega)
  rw [Array.size_map, len] at pm
  obtain ⟨e1, e2⟩ := picked hrow order.toList fun i hi => List.mem_range.mp (pm.mem_iff.mp hi)
  have pm2 : (order.toList.filterMap fun i => L[i]?).Perm L := by
    have := pm.filterMap fun i => L[i]?
    rwa [all_picked] at this
  rw [← e2] at T'
  have e3 : (order.filterMap (es[·]?)).toList = (order.toList.filterMap fun i => L[i]?).map (row1 kk) := by rw [Array.toList_filterMap]; exact e1
  generalize (order.toList.filterMap fun i => L[i]?) = L2 at e3 pm2 T'
  have sz3 : (order.filterMap (es[·]?)).size = es.size := by rw [rows_len e3, pm2.length_eq, len]
  rw [setRelay_eq]
  refine wpAny_bind (wpAny_setState_of ho hd (fits_of psz T.dm (by rw [len]; exact hfit)) ?_)
  dsimp only
  refine wp_if_neg (by rw [sizeLine_eq, hw]; omega) ?_
  try refine wpAny_bind (wpAny_pure ?_)
  rw [er]
  dsimp only
  refine wpAny_bind (wp_if_neg (by rw [sz3]; simp) ?_)
  try refine wpAny_bind (wpAny_pure ?_)
  refine wpAny_pure ?_
  dsimp only
  refine wpAny_storeSet_of ho hd ?_ (by rw [sz3, len, sizeLine_eq]; omega)
  have sb : Heap.SameBut a s.heap (s.heap.update a (Obj.putSet (order.filterMap (es[·]?)) t')) := Heap.SameBut.update ..
  refine q _ L2 _ _ (ep + 1) t' sb { at' := store_at ho hd, exact' := ⟨hex.1, hex.2.1, hex.2.2⟩, data := rfl, rows := e3, tab := T', nd := (pm2.map (·.2)).nodup_iff.mpr nd, keys := fun p hp => key_but (keys p (pm2.mem_iff.mp hp)) ho hd sb, plain := by rw [epl]; exact pl, led := by rw [el]; exact ld, room := by rw [pm2.length_eq, em]; exact hn, few := by rw [pm2.length_eq]; exact few } pm2

/-- adding a key -/
theorem add (R : SI kk s.heap a L o es ep t) {x : Addr} {k : K} (hx : kk.kd.is s.heap k x) (hr : kk.kd.room A) (more : L.length + 1 < 64) {Q : Bool → Shared → Prop}
    (q : ∀ b h' L' o' es' ep' t', Heap.SameBut a s.heap h' → SI kk h' a L' o' es' ep' t' → (k ∈ L.map (·.2) ∧ L' = L) ∨ (k ∉ L.map (·.2) ∧ L'.Perm ((x, k) :: L)) → Q b { s with heap := h' }) :
    wpAny (model P w) A (setAddHashed a (.ref x) (kk.kd.hash k)) Q E s := by
  have len := rows_len R.rows
  have hroom := R.room
  unfold setAddHashed
  refine wpAny_holding ?_
  rw [show (100000 : Nat) = 99999 + 1 from rfl, setAddHashedIn_succ]
  refine wpAny_bind (wpAny_setState_of R.at' R.data R.fits ?_)
  dsimp only
  refine wp_if_neg (by simp [byScan, Value.scannable]) ?_
  try refine wpAny_bind (wpAny_pure ?_)
  refine wpAny_bind (seek R hx hr (fun hm => ?_) fun N hm free taken => ?_)
  · exact wpAny_pure (q false s.heap L o es ep t (Heap.SameBut.refl a s.heap) R (.inl ⟨hm, rfl⟩))
  dsimp only
  refine wpAny_bind (wpAny_setState_of R.at' R.data R.fits ?_)
  dsimp only
  obtain ⟨p1, p2, p3, p4, p5, p6, p7, p8, p9⟩ := R.tab.put free taken
  have pl : (t.put (way t.mask (kk.kd.hash k) N)).1.plain = true := p6.trans R.plain
  generalize t.put (way t.mask (kk.kd.hash k) N) = pt at p1 p3 p4 p5 p6 p7 p8 p9 pl ⊢
  obtain ⟨t1, at1⟩ := pt
  dsimp only at p1 p3 p4 p5 p6 p7 p8 p9 pl ⊢
  subst p1
  first
    | (refine wpAny_bind ?_; refine wp_if_pos pl ?_; refine kk.byVal hx ?_)
    | refine wp_if_pos pl (wpAny_bind (kk.byVal hx ?_))
  simp only [if_true]
  generalize SetTable.below t.place (way t.mask (kk.kd.hash k) N) = n at p2 p3 ⊢
  have erow : (SetTable.insertAt es n (kk.kd.hash k, Value.ref x)).toList = (L.take n ++ (x, k) :: L.drop n).map (row1 kk) := by
    rw [SetTable.toList_insertAt, R.rows, List.map_append, List.map_cons, List.map_take, List.map_drop]; rfl
  have pm := put_perm L n (x, k)
  have T1 : TabOk t1 ((L.take n ++ (x, k) :: L.drop n).map (hs kk)) := by
    rw [List.map_append, List.map_cons, List.map_take, List.map_drop]; exact p3
  generalize L.take n ++ (x, k) :: L.drop n = L1 at erow pm T1
  generalize SetTable.insertAt es n (kk.kd.hash k, Value.ref x) = es1 at erow ⊢
  have len1 : L1.length = L.length + 1 := pm.length_eq
  have esz : es1.size = L.length + 1 := (rows_len erow).trans len1
  have nd1 : (L1.map (·.2)).Nodup := (pm.map (·.2)).nodup_iff.mpr (List.nodup_cons.mpr ⟨hm, R.nd⟩)
  refine wpAny_bind (wpAny_storeSet_of R.at' R.data ?_ (by rw [esz, sizeLine_eq]; omega))
  have sb : Heap.SameBut a s.heap (s.heap.update a (Obj.putSet es1 t1)) := Heap.SameBut.update ..
  have ho1 := store_at (es' := es1) (t' := t1) R.at' R.data
  generalize s.heap.update a (Obj.putSet es1 t1) = h1 at sb ho1 ⊢
  have keys1 : ∀ p ∈ L1, kk.kd.is h1 p.2 p.1 := fun p hp => by
    refine key_but ?_ R.at' R.data sb
    rcases List.mem_cons.mp (pm.mem_iff.mp hp) with rfl | hp
    · exact hx
    · exact R.keys p hp
  have ld1 : w.params.followText "set-order" = true ∨ t1.led = true := by rw [p5]; exact R.led
  have fill1 : t1.fill = L.length + 1 := by rw [p9, List.length_map]
  cases hf : t1.tooFull
  · first
      | refine wp_if_neg (by simp) ?_
      | (refine wpAny_bind ?_; refine wp_if_neg (by simp) ?_; refine wpAny_pure ?_)
    have roomy : ¬ ((L.length + 1) * 5 ≥ t1.mask * 3) := by
      have := hf
      unfold SetTable.tooFull at this
      rwa [decide_eq_false_iff_not, fill1] at this
    exact wpAny_pure (q true h1 L1 _ es1 (ep + 1) t1 sb { at' := ho1, exact' := ⟨R.exact'.1, R.exact'.2.1, R.exact'.2.2⟩, data := rfl, rows := erow, tab := T1, nd := nd1, keys := keys1, plain := pl, led := ld1, room := by rw [len1]; omega, few := by rw [len1]; exact more } (.inr ⟨hm, pm⟩))
  · first
      | (refine wpAny_bind ?_; refine wp_if_pos (by simp) ?_)
      | (refine wp_if_pos (by simp) ?_; refine wpAny_bind ?_)
    have full : (L.length + 1) * 5 ≥ t1.mask * 3 := by
      have := hf
      unfold SetTable.tooFull at this
      rwa [decide_eq_true_eq, fill1] at this
    rw [len]
    have fit1 : L1.length ≤ t1.mask := by
      rw [len1, p4]
      rcases R.tab.mok with e | e | e <;> omega
    have go : ∀ M, SetTable.sizeAbove (SetTable.grown (L.length + 1)) = M + 1 → MaskOk M → (L.length + 1) * 5 < M * 3 → wpAny (model P w) A (setRelay a (SetTable.grown (L.length + 1))) (fun _ s' => wpAny (model P w) A (pure true) Q E s') E { s with heap := h1 } := fun M g1 g2 g3 =>
      relay (s := { s with heap := h1 }) ho1 ⟨R.exact'.1, R.exact'.2.1, R.exact'.2.2⟩ rfl erow T1 fit1 nd1 keys1 pl ld1 (by rw [len1]; exact more) g1 g2 (by rw [len1]; exact g3) fun h2 L2 o2 es2 ep2 t2 sb2 R2 pm2 => wpAny_pure (q true h2 L2 o2 es2 ep2 t2 (sb.trans sb2) R2 (.inr ⟨hm, pm2.trans pm⟩))
    rcases R.tab.mok with e | e | e
    · have l4 : L.length = 4 := by omega
      exact go 31 (by rw [l4, size_20]) (.inr (.inl rfl)) (by omega)
    · have l18 : L.length = 18 := by omega
      exact go 127 (by rw [l18, size_76]) (.inr (.inr rfl)) (by omega)
    · omega
end
end
end Sn

/-! Sn2: set(a list of keys). -/
namespace Sn
open PySem PySem.Spec PyProof.Rows L2
variable [Rs.Tabz]
section
variable {P : Program} {w : World} {K : Type} [DecidableEq K] {kk : SKind P w K}
/-- the set L came of the keys ks -/
structure Came (ks L : List (Addr × K)) : Prop where
  sub : ∀ p ∈ L, p ∈ ks
  iff : ∀ k, k ∈ L.map (·.2) ↔ k ∈ ks.map (·.2)
  len : L.length ≤ ks.length
theorem Came.snoc {ks L L' : List (Addr × K)} {p : Addr × K} (c : Came ks L) (h : (p.2 ∈ L.map (·.2) ∧ L' = L) ∨ (p.2 ∉ L.map (·.2) ∧ L'.Perm (p :: L))) : Came (ks ++ [p]) L' := by
  rcases h with ⟨hm, rfl⟩ | ⟨hm, pm⟩
  · refine ⟨fun x hx => List.mem_append_left _ (c.sub x hx), fun k => ?_, ?_⟩
    · rw [List.map_append, List.mem_append, c.iff k]
      refine ⟨.inl, fun h => h.elim id fun h => ?_⟩
      have : k = p.2 := by simpa using h
      rw [this]; exact (c.iff _).mp hm
    · have := c.len
      rw [List.length_append, List.length_singleton]; omega
  · refine ⟨fun x hx => ?_, fun k => ?_, ?_⟩
    · rcases List.mem_cons.mp (pm.mem_iff.mp hx) with rfl | hx
      · exact List.mem_append_right _ (List.mem_singleton.mpr rfl)
      · exact List.mem_append_left _ (c.sub x hx)
    · rw [(pm.map (·.2)).mem_iff, List.map_cons, List.mem_cons, List.map_append, List.mem_append, c.iff k]
      simp [or_comm]
    · have := c.len
      rw [pm.length_eq, List.length_append, List.length_singleton, List.length_cons]; omega
section
variable {A : Around} {E : Value → Shared → Prop} {s : Shared}
/-- the set at a -/
def IsSet (kk : SKind P w K) (h : Heap) (a : Addr) (L : List (Addr × K)) : Prop := ∃ o es ep t, SI kk h a L o es ep t
theorem IsSet.up {h h' : Heap} {a : Addr} {L : List (Addr × K)} (R : IsSet kk h a L) (ha : ∀ o, h.get? a = some o → h'.get? a = some o) (hk : ∀ p ∈ L, kk.kd.is h' p.2 p.1) : IsSet kk h' a L := by
  obtain ⟨o, es, ep, t, R⟩ := R
  exact ⟨o, es, ep, t, { R with at' := ha o R.at', keys := hk }⟩
theorem isSet_new {h : Heap} {a : Addr} (ho : h.get? a = some { cls := .type "set", dict := none, data := .set #[] 0 (.fresh 0 0 (!w.params.followText "set-order")) }) : IsSet kk h a [] := by
  refine ⟨_, _, _, _, { at' := ho, exact' := ⟨rfl, rfl, rfl⟩, data := rfl, rows := rfl, tab := ⟨List.Pairwise.nil, rfl, rfl, .inl rfl, fun x hx => (nomatch hx), fun i h j hi => (by simp at hi)⟩, nd := List.nodup_nil, keys := fun p hp => (nomatch hp), plain := rfl, led := ?_, room := (by show 0 * 5 < 7 * 3; decide), few := (by show 0 < 64; decide) }⟩
  show _ ∨ (!w.params.followText "set-order") = true
  cases w.params.followText "set-order"
  · exact .inr rfl
  · exact .inl rfl

theorem loop {I : Addr} {fp wr : List Addr} {G : Array GenState → Array GenState → Prop} {n : Nat} {Pv : Nat → Value → Prop} {St : Nat → Shared → Prop} {R : Result → Shared → Prop}
    (W : WalksS P w A.in1 I fp wr G n Pv St) (S : Addr) (out : S ∉ fp) (ks : List (Addr × K)) (hn : n = ks.length) (few : ks.length < 64) (vals : ∀ i v, Pv i v → ∃ p, ks[i]? = some p ∧ v = .ref p.1)
    (h0 : Heap) (keys : ∀ p ∈ ks, kk.kd.is h0 p.2 p.1) (noS : h0.get? S = none) (noW : ∀ b ∈ wr, h0.get? b = none) (hr : kk.kd.room A.in1) :
    ∀ (m i : Nat) (s : Shared), i + m = n → St i s → (∀ b o, h0.get? b = some o → s.heap.get? b = some o) → (∃ L, IsSet kk s.heap S L ∧ Came (ks.take i) L) →
      (∀ s' L, Moved (S :: wr) G s s' → IsSet kk s'.heap S L → Came ks L → (∀ b o, h0.get? b = some o → s'.heap.get? b = some o) → R (.ok (.ret .none)) s') →
      codeAny (model P w) A (.builtin "set.update.loop" ⟨[.ref S, .ref I], []⟩) R s := by
  have outW : S ∉ wr := fun h => out (W.sub _ h)
  have wider : ∀ b ∈ wr, b ∈ S :: wr := fun b hb => List.mem_cons_of_mem _ hb
  have kept : ∀ {s s' : Shared}, Moved wr G s s' → (∀ b o, h0.get? b = some o → s.heap.get? b = some o) → ∀ b o, h0.get? b = some o → s'.heap.get? b = some o := fun hm hk b o e => hm.heap b o (fun hb => by rw [noW b hb] at e; cases e) (hk b o e)
  intro m
  induction m with
  | zero =>
    intro i s him hst hk ⟨L, hS, g⟩ hR
    obtain rfl : i = n := him
    refine codeAny_builtin F.entry_set_update_loop ?_
    rw [Around.under_plainId F.plain_set_update_loop _]
    show wpAny _ A.in1 (pyNext (.ref I) >>= _) _ _ s
    refine wpAny_bind (W.done s _ _ hst fun s' hm => ?_)
    show wpAny _ A.in1 (ret Value.none) _ _ s'
    have hk' := kept hm hk
    rw [hn, List.take_length] at g
    exact wpAny_pure (hR s' L (hm.mono wider) (hS.up (fun o e => hm.heap S o outW e) fun p hp => key_up (keys p (g.sub p hp)) hk') g hk')
  | succ m ih =>
    intro i s him hst hk ⟨L, hS, g⟩ hR
    refine codeAny_builtin F.entry_set_update_loop ?_
    rw [Around.under_plainId F.plain_set_update_loop _]
    show wpAny _ A.in1 (pyNext (.ref I) >>= _) _ _ s
    refine wpAny_bind (W.item i s _ _ (by omega) hst fun v s' hv hst' hm => ?_)
    obtain ⟨p, hp, rfl⟩ := vals i v hv
    have hk' := kept hm hk
    obtain ⟨o, es, ep, t, S1⟩ := hS.up (h' := s'.heap) (fun o e => hm.heap S o outW e) fun z hz => key_up (keys z (List.mem_of_mem_take (g.sub z hz))) hk'
    have hx : kk.kd.is s'.heap p.2 p.1 := key_up (keys p (List.mem_of_getElem? hp)) hk'
    show wpAny _ A.in1 (holding [Value.ref p.1] (setAdd S (.ref p.1)) >>= _) _ _ s'
    refine wpAny_bind (wpAny_holding ?_)
    unfold setAdd
    refine wpAny_holding (wpAny_bind (kk.kd.pyHash hr hx ?_))
    have gl := g.len
    rw [List.length_take] at gl
    refine add (s := { s' with toks := s'.toks + kk.kd.draws p.2 }) S1 hx hr (by omega) fun b h' L' o' es' ep' t' sb S2 ch => ?_
    have g2 : Came (ks.take (i + 1)) L' := by
      rw [List.take_succ, hp]
      exact g.snoc ch
    have hk2 : ∀ b o, h0.get? b = some o → h'.get? b = some o := fun b o e => (sb.2 b (fun z => by rw [z, noS] at e; cases e)).trans (hk' b o e)
    refine wpAny_pure ⟨plainId_quiet F.plain_set_update_loop _, ih (i + 1) _ (by omega) (W.frame _ s' _ _ hst' (Nat.le_add_right _ _) fun b hb o e => ?_) hk2 ⟨L', ⟨_, _, _, _, S2⟩, g2⟩ fun s'' L2 hm2 S3 g3 hk3 => ?_⟩
    · exact (sb.2 b (fun z => out (z ▸ hb))).trans e
    · refine hR s'' L2 (Moved.trans W.gtrans ((hm.mono wider).then_heap (Nat.le_add_right _ _) fun b o hb e => ?_) hm2) S3 g3 hk3
      exact (sb.2 b (fun z => hb (z ▸ List.mem_cons_self))).trans e

set_option maxHeartbeats 3200000 in
theorem set_list {l : Addr} {items : Array Value} (ks : List (Addr × K)) {Q : Value → Shared → Prop} (hh : A.handled = none) (hl : s.heap.IsList l items) (hit : items.toList = ks.map fun p => Value.ref p.1)
    (keys : ∀ p ∈ ks, kk.kd.is s.heap p.2 p.1) (few : ks.length < 64) (hr : ∀ A', A'.units ≤ A.units + 8 → kk.kd.room A')
    (h : ∀ (h' : Heap) (tk : Nat) L, IsSet kk h' s.heap.objs.size L → Came ks L → (∀ b o, s.heap.get? b = some o → h'.get? b = some o) → Q (.ref s.heap.objs.size) { s with heap := h', toks := tk }) :
    wpAny (model P w) A (call (.type "set") [.ref l]) Q E s := by
  have isz : items.size = ks.length := by rw [← Array.length_toList, hit, List.length_map]
  obtain ⟨c0, tl0, hmro⟩ := F.called_set.mro
  have k1 := F.called_set.made
  have k2 := F.called_set.sub
  refine wpAny_call (codeAny_of_tree ?_)
  show wpAny _ _ (callAny (.type "set") _) _ _ _
  refine wpAny_pure ⟨Code.quiet_builtin _ (by decide +kernel), codeAny_builtin F.entry_type_call ?_⟩
  rw [Around.under_plain (weight_type_call_type "set" [.ref l] []) rfl]
  have k3 := F.called_set.notType
  have k4 := F.called_set.canCreate
  have k5 := F.typeCall_set_1 (.ref l)
  repeat (any_goals (first | assumption | wp_step))
  refine codeAny_mono (code_set_led1 (.ref l) (E := E) (Q₁ := fun obj s₁ => obj = .ref s.heap.objs.size ∧ s₁ = { s with heap := Rs.withSet w s.heap }) ⟨rfl, rfl⟩) fun r s₁ hr' => ?_
  match r, hr' with
  | .error e, hr' => exact hr'
  | .ok (.next), hr' => exact hr'.elim
  | .ok (.brk), hr' => exact hr'.elim
  | .ok (.cont), hr' => exact hr'.elim
  | .ok (.ret obj), hr' =>
    obtain ⟨rfl, rfl⟩ := hr'
    have atS : (Rs.withSet w s.heap).get? s.heap.objs.size = some { cls := .type "set", dict := none, data := .set #[] 0 (.fresh 0 0 (!w.params.followText "set-order")) } := Heap.get?_push_size _ rfl
    have tyS : Shared.TypeIs { s with heap := Rs.withSet w s.heap } (.ref s.heap.objs.size) "set" := ⟨_, atS, rfl⟩
    have k6 := F.called_set.init.lookup
    have k7 := F.called_set.init.bind (.ref s.heap.objs.size)
    repeat (any_goals (first | assumption | wp_step))
    refine codeAny_mono (codeAny_call_builtin (R := wants (fun r s₂ => r = .none ∧ ∃ h' tk L, s₂ = { s with heap := h', toks := tk } ∧ IsSet kk h' s.heap.objs.size L ∧ Came ks L ∧
        (∀ b o, s.heap.get? b = some o → h'.get? b = some o)) E) F.called_set.init.plain F.entry_set_init (check_set_init_1 tyS ?_)) fun r₂ s₂ hr₂ => ?_
    · obtain ⟨⟨oc, od, odt, osl⟩, hol, hcl, nl, hdl⟩ := hl
      obtain rfl : oc = .type "list" := hcl
      obtain rfl : odt = .seq items nl := hdl
      have up1 : ∀ b o, s.heap.get? b = some o → (Rs.withSet w s.heap).get? b = some o := fun b o e => Heap.get?_push_of_some _ e
      have hol' := up1 _ _ hol
      have k8 := F.sub_list_set
      have k9 := F.sub_list_frozenset
      have k10 : (Value.type "list" == Value.type "dict") = false := by decide
      have isL : (Rs.withSet w s.heap).IsList l items := ⟨_, hol', rfl, nl, rfl⟩
      have sz1 : (Rs.withSet w s.heap).objs.size = s.heap.objs.size + 1 := Heap.size_push ..
      unfold Builtin.«set.__init__» noKeywords Builtin.Frozenset.updateFrom
      generalize hPI : pyIter = PI
      wp_walk
      subst hPI
      refine wpAny_pyIter_list isL ?_
      refine wpAny_bind (wpAny_runValue ?_)
      have lS : l < s.heap.objs.size := Heap.lt_size hol
      have hh3 : A.in1.in1.in1.handled = none := hh
      have neI : l ≠ (Rs.withSet w s.heap).objs.size := by rw [sz1]; exact Nat.ne_of_lt (Nat.lt_succ_of_lt lS)
      have nfp : s.heap.objs.size ∉ [(Rs.withSet w s.heap).objs.size, l] := by
        rw [sz1]
        simp only [List.mem_cons, List.not_mem_nil, or_false, not_or]
        exact ⟨Nat.ne_of_lt (Nat.lt_succ_self _), Nat.ne_of_gt lS⟩
      have vals : ∀ (i : Nat) (v : Value), items[i]? = some v → ∃ p, ks[i]? = some p ∧ v = .ref p.1 := fun i v hv => by
        rw [← Array.getElem?_toList, hit, List.getElem?_map] at hv
        obtain ⟨p, hp, e⟩ := Option.map_eq_some_iff.mp hv
        exact ⟨p, hp, e.symm⟩
      have gone : ∀ b, s.heap.objs.size ≤ b → s.heap.get? b = none := fun b hb => by
        cases q : s.heap.get? b with
        | none => rfl
        | some o => exact absurd (Nat.lt_of_lt_of_le (Heap.lt_size q) hb) (Nat.lt_irrefl _)
      refine loop ((Walks.list hh3 _ l neI items).toS) s.heap.objs.size nfp ks isz few vals s.heap keys (gone _ (Nat.le_refl _)) (fun b hb => gone b ?_) (hr _ ?_) items.size 0 _ (Nat.zero_add _)
        ⟨⟨_, Heap.get?_push_size _ rfl, rfl, rfl⟩, (isL.push _)⟩ (fun b o e => Heap.get?_push_of_some _ (up1 b o e)) ?S0 ?S1
      · rw [List.mem_singleton.mp hb, sz1]; exact Nat.le_succ _
      · simp only [Around.in1_units]; omega
      case S0 => exact ⟨[], isSet_new (Heap.get?_push_of_some _ atS), ⟨fun p hp => (nomatch hp), fun k => (by simp), Nat.zero_le _⟩⟩
      case S1 =>
        intro s' L hm S1 g hk
        obtain ⟨h', g2, d', tk', os'⟩ := s'
        obtain rfl : g2 = s.gens := hm.gens
        obtain rfl : d' = s.drawn := hm.drawn
        obtain rfl : os' = s.os := hm.os
        show wpAny _ _ _ _ _ _
        refine wpAny_pure ?_
        show wpAny _ _ (ret Value.none) _ _ _
        exact wpAny_pure ⟨rfl, h', tk', L, rfl, S1, g, hk⟩
    · match r₂, hr₂ with
      | .error e, hr₂ => exact hr₂
      | .ok (.next), hr₂ => exact hr₂.elim
      | .ok (.brk), hr₂ => exact hr₂.elim
      | .ok (.cont), hr₂ => exact hr₂.elim
      | .ok (.ret r), hr₂ =>
        obtain ⟨rfl, h', tk, L, rfl, S1, g, hk⟩ := hr₂
        repeat (any_goals (first | assumption | wp_step))
        exact h _ _ _ S1 g hk
end
end
end Sn

/-! Sn3: keys that are whole numbers, truths, None and tuples of such, nested. -/
namespace Sn
open PySem PySem.Spec PyProof.Rows L2
variable [Rs.Tabz]
mutual
/-- no text within -/
def calm : NestedKey → Bool
  | .none => true
  | .num _ => true
  | .text _ => false
  | .tup ks => calmAll ks
def calmAll : List NestedKey → Bool
  | [] => true
  | k :: ks => calm k && calmAll ks
end
section
variable {P : Program} {w : World}
def NoAt (P : Program) (w : World) (n : Nat) (s : Shared) (v : Value) : Prop := ∀ (A : Around) (E : Value → Shared → Prop) (Q : Bool → Shared → Prop), Q false s → wpAny (model P w) A (ofAClassStatement n v) Q E s
def ByAt (P : Program) (w : World) (n : Nat) (s : Shared) (v : Value) : Prop := ∀ (A : Around) (E : Value → Shared → Prop) (Q : Bool → Shared → Prop), Q true s → wpAny (model P w) A (hashByValue n v) Q E s
theorem noAt_val {n : Nat} {s : Shared} {v : Value} (h : ofAClassStatement n v = pure false) : NoAt P w n s v := fun A E Q q => by
  rw [h]; exact wpAny_pure q
theorem byAt_val {n : Nat} {s : Shared} {v : Value} (h : hashByValue n v = pure true) : ByAt P w n s v := fun A E Q q => by
  rw [h]; exact wpAny_pure q
theorem noAt_tup {n m : Nat} {s : Shared} {a : Addr} {o : Obj} {vs : Array Value} (ho : s.heap.get? a = some o) (hc : o.cls = .type "tuple") (hd : o.data = .seq vs m) (hv : ∀ v ∈ vs.toList, NoAt P w n s v) : NoAt P w (n + 1) s (.ref a) := fun A E Q q => by
  have ty : s.TypeIs (.ref a) "tuple" := ⟨o, ho, hc⟩
  have isT : (("tuple" : String) == "tuple") = true := by decide
  unfold ofAClassStatement
  refine wpAny_bind (wpAny_typeOf ty ?_)
  dsimp only
  simp only [isT, if_true, Bool.not_true, Bool.false_eq_true, if_false]
  try refine wpAny_bind (wpAny_pure ?_)
  try simp only [Bool.not_true, Bool.false_eq_true, if_false]
  show wpAny _ _ (seqItems? (.ref a) >>= _) _ _ s
  refine wpAny_bind (wpAny_seqItems ho hd ?_)
  dsimp only
  refine wpAny_bind ?_
  show wpAny _ _ (forIn vs _ _) _ _ s
  rw [← Array.forIn_toList]
  refine wpAny_forIn_list _ (fun left r s' => (r.1 = none ∧ s' = s) ∧ ∀ v ∈ left, NoAt P w n s v) _ (fun v left r s' H => ?_) (fun r s' H => ?_) _ _ ⟨⟨rfl, rfl⟩, hv⟩
  · obtain ⟨⟨h1, rfl⟩, h2⟩ := H
    refine wpAny_bind (h2 v List.mem_cons_self _ _ _ ?_)
    simp only [Bool.false_eq_true, if_false]
    exact wpAny_pure ⟨⟨rfl, rfl⟩, fun u hu => h2 u (List.mem_cons_of_mem _ hu)⟩
  · obtain ⟨r1, r2⟩ := r
    obtain ⟨⟨h1, rfl⟩, _⟩ := H
    simp only at h1
    subst h1
    exact wpAny_pure q
theorem byAt_tup {n m : Nat} {s : Shared} {a : Addr} {o : Obj} {vs : Array Value} (ho : s.heap.get? a = some o) (hc : o.cls = .type "tuple") (hd : o.data = .seq vs m) (hv : ∀ v ∈ vs.toList, ByAt P w n s v) : ByAt P w (n + 1) s (.ref a) := fun A E Q q => by
  have ty : s.TypeIs (.ref a) "tuple" := ⟨o, ho, hc⟩
  unfold hashByValue
  refine wpAny_bind (wpAny_specialOf ty F.slot_tuple_hash.lookup ?_)
  show wpAny _ _ (seqItems? (.ref a) >>= _) _ _ s
  refine wpAny_bind (wpAny_seqItems ho hd ?_)
  refine wpAny_bind ?_
  show wpAny _ _ (forIn vs _ _) _ _ s
  rw [← Array.forIn_toList]
  refine wpAny_forIn_list _ (fun left r s' => (r.1 = none ∧ s' = s) ∧ ∀ v ∈ left, ByAt P w n s v) _ (fun v left r s' H => ?_) (fun r s' H => ?_) _ _ ⟨⟨rfl, rfl⟩, hv⟩
  · obtain ⟨⟨h1, rfl⟩, h2⟩ := H
    refine wpAny_bind (h2 v List.mem_cons_self _ _ _ ?_)
    simp only [Bool.not_true, Bool.false_eq_true, if_false]
    exact wpAny_pure ⟨⟨rfl, rfl⟩, fun u hu => h2 u (List.mem_cons_of_mem _ hu)⟩
  · obtain ⟨r1, r2⟩ := r
    obtain ⟨⟨h1, rfl⟩, _⟩ := H
    simp only at h1
    subst h1
    exact wpAny_pure q
mutual
theorem no_key : ∀ (k : NestedKey) (v : Value) (n : Nat) (s : Shared), NestedIs s.heap k v → k.depth ≤ n → NoAt P w n s v
  | .none, _, n, s, x, _ => by cases x; exact noAt_val (by cases n <;> rfl)
  | .num i, _, n, s, x, _ => by cases x <;> exact noAt_val (by cases n <;> rfl)
  | .text y, _, n, s, x, _ => by cases x; exact noAt_val (by cases n <;> rfl)
  | .tup ks, _, 0, s, x, h => by simp [NestedKey.depth] at h
  | .tup ks, _, n + 1, s, x, h => by
    cases x with
    | tup h1 h2 h3 h4 =>
      simp only [NestedKey.depth] at h
      exact noAt_tup h1 h2 h3 (no_keys ks _ n s h4 (by omega))
theorem no_keys : ∀ (ks : List NestedKey) (vs : List Value) (n : Nat) (s : Shared), NestedAll s.heap ks vs → NestedKey.depthAll ks ≤ n → ∀ v ∈ vs, NoAt P w n s v
  | [], _, n, s, x, _, v, hv => by cases x; cases hv
  | k :: ks, _, n, s, x, h, v, hv => by
    simp only [NestedKey.depthAll] at h
    cases x with
    | cons x1 x2 =>
      rcases List.mem_cons.mp hv with rfl | hv
      · exact no_key k _ n s x1 (by omega)
      · exact no_keys ks _ n s x2 (by omega) v hv
end
mutual
theorem by_key : ∀ (k : NestedKey) (v : Value) (n : Nat) (s : Shared), NestedIs s.heap k v → k.depth ≤ n → calm k = true → ByAt P w n s v
  | .none, _, n, s, x, _, _ => by cases x; exact byAt_val (by cases n <;> rfl)
  | .num i, _, n, s, x, _, _ => by cases x <;> exact byAt_val (by cases n <;> rfl)
  | .text y, _, n, s, x, _, hc => by cases hc
  | .tup ks, _, 0, s, x, h, _ => by simp [NestedKey.depth] at h
  | .tup ks, _, n + 1, s, x, h, hc => by
    cases x with
    | tup h1 h2 h3 h4 =>
      simp only [NestedKey.depth] at h
      exact byAt_tup h1 h2 h3 (by_keys ks _ n s h4 (by omega) hc)
theorem by_keys : ∀ (ks : List NestedKey) (vs : List Value) (n : Nat) (s : Shared), NestedAll s.heap ks vs → NestedKey.depthAll ks ≤ n → calmAll ks = true → ∀ v ∈ vs, ByAt P w n s v
  | [], _, n, s, x, _, _, v, hv => by cases x; cases hv
  | k :: ks, _, n, s, x, h, hc, v, hv => by
    simp only [NestedKey.depthAll] at h
    simp only [calmAll, Bool.and_eq_true] at hc
    cases x with
    | cons x1 x2 =>
      rcases List.mem_cons.mp hv with rfl | hv
      · exact by_key k _ n s x1 (by omega) hc.1
      · exact by_keys ks _ n s x2 (by omega) hc.2 v hv
end
/-- the kind of keys of which sets are made here -/
def nk (P : Program) (w : World) : SKind P w NestedKey where
  kd := { nestedKind P w with
    is := fun h k a => (nestedKind P w).is h k a ∧ calm k = true
    inj := fun hx hy => (nestedKind P w).inj hx.1 hy.1
    keeps := fun x ho hd hs => ⟨(nestedKind P w).keeps x.1 ho hd hs, x.2⟩
    pyHash := fun hu hk h => (nestedKind P w).pyHash hu hk.1 h
    eqBool := fun hu hx hy h => (nestedKind P w).eqBool hu hx.1 hy.1 h
    quiet := fun hk h => (nestedKind P w).quiet hk.1 h }
  noClass := fun {A E s k a Q} hk h => no_key k _ 8 s hk.1.1 hk.1.2 A E Q h
  byVal := fun {A E s k a Q} hk h => by_key k _ 8 s hk.1.1 hk.1.2 hk.2 A E Q h
  stay := fun {h h' k a} hk up => ⟨⟨NestedIs.at up k _ hk.1.1, hk.1.2⟩, hk.2⟩
end
/-! a value that reads as the data of a key is this key -/
section
variable {X : Cx} {pins : List (Addr × Obj)} {σ : L2.St} {H : Hp} {s : Shared}
mutual
theorem nested_of (I : Inv X pins σ H s) : ∀ (k : NestedKey) (v : V) (u : Value), Dp X.K H v k.data → RelV v u → NestedIs s.heap k u
  | .none, _, _, h, r => by cases h; cases r; exact .none
  | .num i, _, _, h, r => by
    cases h
    obtain ⟨t, rfl⟩ := r
    exact .int i t
  | .text x, _, _, h, r => by
    cases h
    obtain ⟨t, rfl⟩ := r
    exact .text x t
  | .tup ks, _, u, h, r => by
    cases h with
    | @tup a xs ds hs ha =>
      obtain rfl : u = Value.ref a := r
      obtain ⟨its, rv, p, _⟩ := I.tuple hs
      obtain ⟨o, e, c, n, d⟩ := (show s.heap.IsTuple a its.toArray from p)
      exact .tup e c d (nesteds_of I ks xs its ha rv)
theorem nesteds_of (I : Inv X pins σ H s) : ∀ (ks : List NestedKey) (vs : List V) (us : List Value), DpAll X.K H vs (NestedKey.datas ks) → Vals vs us → NestedAll s.heap ks us
  | [], _, _, h, r => by cases h; cases r; exact .nil
  | k :: ks, _, _, h, r => by
    cases h with
    | cons h1 h2 =>
      cases r with
      | cons r1 r2 => exact .cons (nested_of I k _ _ h1 r1) (nesteds_of I ks _ _ h2 r2)
end
end
end Sn

/-! Sn4: sets of nested keys as things; set(a list), len. -/
namespace Sn
open PySem PySem.Spec PyProof.Rows L2 SlX StX Rs Ma
variable [Rs.Tabz]
abbrev Ad := Addr × NestedKey
/-- what a set is, told of its own object alone -/
def S0 (P : Program) (w : World) (L : List Ad) (a : Addr) (h : Heap) : Prop := ∃ o es ep t, h.get? a = some o ∧ o.ExactSet ∧ o.data = .set es ep t ∧ es.toList = L.map (row1 (nk P w)) ∧ TabOk t (L.map (hs (nk P w))) ∧ (L.map (·.2)).Nodup ∧ t.plain = true ∧
  (w.params.followText "set-order" = true ∨ t.led = true) ∧ L.length * 5 < t.mask * 3 ∧ L.length < 64
def setN (P : Program) (w : World) (L : List Ad) (a : Addr) : HO := .ext (S0 P w L a)
section
variable {P : Program} {w : World} {h : Heap} {H : Hp} {a : Addr} {L : List Ad}
theorem IsSet.s0 (R : IsSet (nk P w) h a L) : S0 P w L a h := by
  obtain ⟨o, es, ep, t, R⟩ := R
  exact ⟨o, es, ep, t, R.at', R.exact', R.data, R.rows, R.tab, R.nd, R.plain, R.led, R.room, R.few⟩
end
section
variable {X : Cx}
variable {e : Expr} {es : List Expr} {t : TA} {p pos : Pos}
end
end Sn

/-! Sn5: sets of nested keys in plain terms. -/
namespace Tw
open PySem PySem.Spec PyProof.Rows L2 SlX StX Rs Ma Sn
variable [Rs.Tabz]
/-- data that are keys -/
class Keyd {α : Type} (d : α → PyData) (n : outParam Nat) where
  key : α → NestedKey
  ok : ∀ a, (key a).data = d a
  quiet : ∀ a, calm (key a) = true
  dep : ∀ a, (key a).depth ≤ n
  inj : ∀ a b, key a = key b → a = b
theorem key_map_inj {α : Type} {f : α → NestedKey} (h : ∀ a b, f a = f b → a = b) : ∀ {xs ys : List α}, xs.map f = ys.map f → xs = ys
  | [], [], _ => rfl
  | [], _ :: _, e => nomatch e
  | _ :: _, [], e => nomatch e
  | x :: xs, y :: ys, e => by
    rw [List.map_cons, List.map_cons] at e
    injection e with e1 e2
    rw [h _ _ e1, key_map_inj h e2]
theorem datas_map {α : Type} {f : α → NestedKey} {d : α → PyData} (h : ∀ a, (f a).data = d a) : ∀ xs : List α, NestedKey.datas (xs.map f) = xs.map d
  | [] => rfl
  | x :: xs => by rw [List.map_cons, List.map_cons, NestedKey.datas, h, datas_map h xs]
theorem calm_map {α : Type} {f : α → NestedKey} (h : ∀ a, calm (f a) = true) : ∀ xs : List α, calmAll (xs.map f) = true
  | [] => rfl
  | x :: xs => by rw [List.map_cons, calmAll, h, calm_map h xs]; rfl
theorem dep_map {α : Type} {f : α → NestedKey} {n : Nat} (h : ∀ a, (f a).depth ≤ n) : ∀ xs : List α, NestedKey.depthAll (xs.map f) ≤ n
  | [] => Nat.zero_le _
  | x :: xs => by
    rw [List.map_cons, NestedKey.depthAll]
    exact Nat.max_le.mpr ⟨h x, dep_map h xs⟩
instance : Keyd dN 0 := ⟨fun n => .num (n : Nat), fun _ => rfl, fun _ => rfl, fun _ => Nat.le_refl _, fun a b e => by injection e with e; omega⟩
instance : Keyd dInt 0 := ⟨fun n => .num n, fun _ => rfl, fun _ => rfl, fun _ => Nat.le_refl _, fun a b e => by injection e⟩
instance keydT {α : Type} {d : α → PyData} {n : Nat} [c : Keyd d n] : Keyd (dT d) (n + 1) := ⟨fun xs => .tup (xs.map c.key), fun xs => by rw [NestedKey.data, datas_map c.ok]; rfl, fun xs => by rw [calm]; exact calm_map c.quiet xs, fun xs => by
  rw [NestedKey.depth]
  exact Nat.succ_le_succ (dep_map c.dep xs), fun a b e => by injection e with e; exact key_map_inj c.inj e⟩
/-- each once -/
def dd {α : Type} [DecidableEq α] : List α → List α
  | [] => []
  | x :: xs => if x ∈ xs then dd xs else x :: dd xs
/-- a set of such data -/
def fSK (K : PySem.W.Frag) (P : Program) (w : World) {α : Type} (d : α → PyData) {n : Nat} [c : Keyd d n] : List α → VP := fun xs v F => ∃ a L, v = .ref a ∧ F a = some (setN P w L a) ∧ (L.map (·.2)).Nodup ∧ (∀ k, k ∈ L.map (·.2) ↔ k ∈ xs.map c.key) ∧ ∀ z ∈ L, Dp K F (.ref z.1) z.2.data
instance {K : PySem.W.Frag} {P : Program} {w : World} {α : Type} {d : α → PyData} {n : Nat} [Keyd d n] {xs : List α} : Mono (fSK K P w d xs) := ⟨fun _ _ _ e ⟨a, L, h, h1, r1, r2, r3⟩ => ⟨a, L, h, e _ _ h1, r1, r2, fun z hz => dp_up e (r3 z hz)⟩⟩
section
variable {ε : Type} {K : PySem.W.Frag} {P : Program} {w : World} {α : Type} {d : α → PyData} {n : Nat}
end
end Tw

/-! Sn6: dicts by nested keys: d[k], k in d, d[k] = v within comprehensions. -/
namespace Sn
open PySem PySem.Spec PyProof.Rows L2 SlX StX Rs Ma
variable [Rs.Tabz]
abbrev Ent := NestedKey × Addr × V
def EntR (p : Ent) (q : NestedKey × Addr × Value) : Prop := p.1 = q.1 ∧ p.2.1 = q.2.1 ∧ RelV p.2.2 q.2.2
/-- what a dict is, told of its own object alone -/
def D0 (P : Program) (w : World) (zs : List Ent) (D : Addr) (h : Heap) : Prop := (D == sysModules) = false ∧ zs.length ≤ 100000 ∧ ∃ ys : List (NestedKey × Addr × Value), Paired EntR zs ys ∧ ∃ o es ep, h.get? D = some o ∧ o.ExactDict ∧ o.data = .dict es ep ∧ es.toList = ys.map (entryOfKey (nestedKind P w)) ∧ (ys.map (·.1)).Nodup
def dictN (P : Program) (w : World) (zs : List Ent) (D : Addr) : HO := .ext (D0 P w zs D)
def atN (zs : List Ent) (k : NestedKey) : Option (Addr × V) := (zs.find? fun z => decide (z.1 = k)).map (·.2)
def putN (zs : List Ent) (k : NestedKey) (a : Addr) (v : V) : List Ent := if (atN zs k).isSome then zs.map (fun z => if z.1 = k then (z.1, z.2.1, v) else z) else zs ++ [(k, a, v)]
/-- a key is here -/
def KeyAt (K : PySem.W.Frag) (H : Hp) (k : NestedKey) (a : Addr) : Prop := Dp K H (.ref a) k.data ∧ k.depth ≤ 8
section
variable {P : Program} {w : World} {h h' : Heap} {H : Hp} {D : Addr} {zs : List Ent}
theorem d0_new (hb : sysModules < h.objs.size) : D0 P w [] h.objs.size (h.push { cls := .type "dict", data := .dict #[] }) :=
  ⟨beq_eq_false_iff_ne.mpr (Ne.symm (Nat.ne_of_lt hb)), Nat.zero_le _, [], .nil, _, #[], 0, Heap.get?_push_size _ rfl, ⟨rfl, rfl, rfl⟩, rfl, rfl, List.nodup_nil⟩
theorem dictN_new (R : D0 P w zs D h) : ObjOk P w H h D (dictN P w zs D) := by
  refine ⟨R, ?_, fun h1 h2 ⟨q0, q1, ys, q2, o, es, ep, q3, q⟩ st => ⟨q0, q1, ys, q2, o, es, ep, st o q3, q⟩⟩
  obtain ⟨_, _, _, _, o, _, _, q, _⟩ := R
  exact ⟨o, q⟩
theorem atN_rel : ∀ {zs : List Ent} {ys : List (NestedKey × Addr × Value)}, Paired EntR zs ys → ∀ k, (atN zs k = none ∧ atKey ys k = none) ∨ ∃ a v u, atN zs k = some (a, v) ∧ atKey ys k = some (a, u) ∧ RelV v u
  | _, _, .nil, k => .inl ⟨rfl, rfl⟩
  | _ :: zt, _ :: yt, .cons (a := z) (b := y) r t, k => by
    obtain ⟨e1, e2, e3⟩ := r
    by_cases hk : z.1 = k
    · refine .inr ⟨z.2.1, z.2.2, y.2.2, ?_, ?_, e3⟩
      · unfold atN; rw [List.find?_cons_of_pos (by simp [hk])]; rfl
      · unfold atKey; rw [List.find?_cons_of_pos (by simp [← e1, hk]), e2]; rfl
    · have n1 : atN (z :: zt) k = atN zt k := by unfold atN; rw [List.find?_cons_of_neg (by simp [hk])]
      have n2 : atKey (y :: yt) k = atKey yt k := by unfold atKey; rw [List.find?_cons_of_neg (by simp [← e1, hk])]
      rw [n1, n2]
      exact atN_rel t k
theorem paired_snoc {α β : Type} {R : α → β → Prop} {x : α} {y : β} (r : R x y) : ∀ {l1 : List α} {l2 : List β}, Paired R l1 l2 → Paired R (l1 ++ [x]) (l2 ++ [y])
  | _, _, .nil => .cons r .nil
  | _, _, .cons q t => .cons q (paired_snoc r t)
theorem set_rel {k : NestedKey} {v : V} {u : Value} (r : RelV v u) : ∀ {zs : List Ent} {ys : List (NestedKey × Addr × Value)}, Paired EntR zs ys → Paired EntR (zs.map (fun z => if z.1 = k then (z.1, z.2.1, v) else z)) (ys.map (putAt k u))
  | _, _, .nil => .nil
  | _, _, .cons (a := z) (b := y) q t => by
    refine .cons ?_ (set_rel r t)
    obtain ⟨e1, e2, e3⟩ := q
    show EntR (if z.1 = k then (z.1, z.2.1, v) else z) (putAt k u y)
    unfold putAt
    rw [← e1]
    split
    · exact ⟨rfl, e2, r⟩
    · exact ⟨e1, e2, e3⟩
theorem put_rel {k : NestedKey} {a : Addr} {v : V} {u : Value} {zs : List Ent} {ys : List (NestedKey × Addr × Value)} (hp : Paired EntR zs ys) (r : RelV v u) : Paired EntR (putN zs k a v) (storedH ys k a u) := by
  have both : ((atN zs k).isSome : Bool) = (atKey ys k).isSome := by
    rcases atN_rel hp k with ⟨e1, e2⟩ | ⟨a, v, u, e1, e2, _⟩
    · rw [e1, e2]; rfl
    · rw [e1, e2]; rfl
  unfold putN storedH
  rw [both]
  split
  · exact set_rel r hp
  · exact paired_snoc ⟨rfl, rfl, r⟩ hp
theorem putN_len {k : NestedKey} {a : Addr} {v : V} {zs : List Ent} : (putN zs k a v).length ≤ zs.length + 1 := by
  unfold putN
  split
  · rw [List.length_map]; omega
  · rw [List.length_append]; exact Nat.le_refl _
end
section
variable {X : Cx} {pins : List (Addr × Obj)} {σ : L2.St} {H : Hp} {s : Shared} {D a : Addr} {k : NestedKey} {zs : List Ent} {E : Value → Shared → Prop} {v : V} {u : Value}
theorem key_at (I : Inv X pins σ H s) (hk : KeyAt X.K H k a) : (nestedKind X.prog X.w).is s.heap k a := ⟨nested_of I k _ _ hk.1 rfl, hk.2⟩
theorem dict_at (I : Inv X pins σ H s) (hD : Rd H D (dictN X.prog X.w zs D)) (hz : ∀ z ∈ zs, KeyAt X.K H z.1 z.2.1) : (D == sysModules) = false ∧ zs.length ≤ 100000 ∧ ∃ ys, Paired EntR zs ys ∧ s.heap.DictOfH (nestedKind X.prog X.w) D ys := by
  obtain ⟨⟨q0, q1, ys, q2, o, es, ep, q3, q4, q5, q6, q7⟩, _⟩ := hD.ok I.hok
  refine ⟨q0, q1, ys, q2, o, es, ep, q3, q4, q5, q6, fun y hy => ?_, q7⟩
  have all : ∀ {zs : List Ent} {ys : List (NestedKey × Addr × Value)}, Paired EntR zs ys → (∀ z ∈ zs, KeyAt X.K H z.1 z.2.1) → ∀ y ∈ ys, (nestedKind X.prog X.w).is s.heap y.1 y.2.1 := by
    intro zs ys hp
    induction hp with
    | nil => intro _ y hy; cases hy
    | @cons z y _ _ r t ih =>
      intro hz y' hy
      rcases List.mem_cons.mp hy with rfl | hy
      · rw [← r.1, ← r.2.1]
        exact key_at I (hz z List.mem_cons_self)
      · exact ih (fun z hz' => hz z (List.mem_cons_of_mem _ hz')) y' hy
  exact all q2 hz y hy
/-- d[k], k being there -/
def rIxK (K : PySem.W.Frag) (P : Program) (w : World) : R2 := fun x y H Q => ∃ a D zs k b v, x = .ref D ∧ y = .ref a ∧ Rd H D (dictN P w zs D) ∧ (∀ z ∈ zs, KeyAt K H z.1 z.2.1) ∧ KeyAt K H k a ∧ atN zs k = some (b, v) ∧ Q v H
theorem p_ixNK {o i : Expr} {td ty : TE} {pos : Pos} (K : PySem.W.Frag) (P : Program) (w : World) (hu : X.A.units + 64 < cLine) (ho : PE X o td) (hi : PE X i ty) (hs : NoSl i) (hK : X.K = K := by rfl) (hP : X.prog = P := by rfl) (hw : X.w = w := by rfl) : PE X (.Subscript o i pos) (tOp (rIxK K P w) td ty) := by
  subst hK; subst hP; subst hw
  refine ⟨fun pins s σ H Q I h => ?_⟩
  refine subD_of PySem.F.slot_dict_getitem.lookup hs (thn (ho.run pins s σ H _ I h) fun u s1 ⟨x, H1, I1, rx, q1⟩ => thn (hi.run pins s1 σ H1 _ I1 q1) fun iv s2 ⟨y, H2, I2, ry, q2⟩ => ?_)
  obtain ⟨a, D, zs, k, b, v, ex, ey, hD, hz, hk, hv, q⟩ := q2
  subst ex ey
  obtain rfl : u = Value.ref D := rx
  obtain rfl : iv = Value.ref a := ry
  obtain ⟨_, _, ys, rel, dd⟩ := dict_at I2 hD hz
  refine ⟨dd.typeIs, ?_⟩
  rcases atN_rel rel k with ⟨e1, _⟩ | ⟨a', v', u', e1, e2, r⟩
  · rw [e1] at hv; cases hv
  · rw [e1] at hv
    cases hv
    exact wpAny_getItem_heap (show X.A.in1.units + 8 < cLine by rw [Around.in1_units]; omega) (key_at I2 hk) dd e2 ⟨v, H2, I2.tok _, r, q⟩
/-- d[k] = v by a comprehension -/
theorem dset {Q : Unit → Shared → Prop} {A : Around} (hu : A.units + 64 < cLine) (I : Inv X pins σ H s) (hD : H D = some (dictN X.prog X.w zs D)) (hz : ∀ z ∈ zs, KeyAt X.K H z.1 z.2.1) (hk : KeyAt X.K H k a) (r : RelV v u) (hl : zs.length < 100000)
    (h : ∀ s', Inv X pins σ (upd H D (dictN X.prog X.w (putN zs k a v) D)) s' → Q () s') : wpAny (model X.prog X.w) A (dictSet D (.ref a) u) Q E s := by
  obtain ⟨q0, _, ys, rel, dd⟩ := dict_at I (.inl hD) hz
  have hyl : ys.length ≤ sizeLine := by rw [← rel.length, sizeLine_eq]; omega
  refine wpAny_dictSet_heap (show A.units + 8 < cLine by omega) (key_at I hk) dd (fun h' dd' sb => h _ ?_) hyl
  obtain ⟨o, es, ep, g1, g2, g3, g4, _, g6⟩ := dd'
  refine d_write I (by rw [hD]; exact True.intro) sb ⟨o, g1⟩ (dictN_new ⟨q0, ?_, _, put_rel rel r, o, es, ep, g1, g2, g3, g4, g6⟩)
  have := putN_len (k := k) (a := a) (v := v) (zs := zs)
  omega
end
end Sn

/-! Sn7: {k: v for ..} with nested keys. -/
namespace Sn
open PySem PySem.Spec PyProof.Rows L2 SlX StX Rs Ma
variable [Rs.Tabz]
/-- what a turn of such a comprehension needs and leaves -/
def Turn (K : PySem.W.Frag) (P : Program) (w : World) (tt : TT) (tk tv : TE) (D : Addr) (Nx : Hp → Prop) : L2.St → Hp → Prop := fun τ H2 => tt τ H2 fun b H3 =>
  if b = true then tk τ H3 fun y H4 => tv τ H4 fun z H5 => ∃ a zs k, y = .ref a ∧ H5 D = some (dictN P w zs D) ∧ (∀ e ∈ zs, KeyAt K H5 e.1 e.2.1) ∧ KeyAt K H5 k a ∧ zs.length < 100000 ∧ Nx (upd H5 D (dictN P w (putN zs k a z) D)) else Nx H3
def tDcK (K : PySem.W.Frag) (P : Program) (w : World) (wi : TI) (g : TG) (tt : TT) (tk tv : TE) (vs : List Nat) : TE := fun σ H Q => wi σ H fun J H1 => ∀ D, H1 D = none → ∃ W : Nat → Nat → Hp → Prop, (∃ m, W 0 m (upd H1 D (dictN P w [] D))) ∧ ∀ i m H, W i m H →
  (J.stop i H ∧ Q (.ref D) H) ∨ (J.go i H ∧ ∃ Nx : Hp → Prop, (∀ H', Nx H' → ∃ m', m' < m ∧ W (i + 1) m' H') ∧ ∀ x H', J.yld i H x H' → g x (wipe σ vs) H' fun τ H2 => wipe τ vs = wipe σ vs ∧ Turn K P w tt tk tv D Nx τ H2)
section
variable {X : Cx}
theorem pe_dcK {kx vx tg iter : Expr} {ifs : List Expr} {scope : Scope} {own : List (Str × Nat)} {pos : Pos} {wi : TI} {g : TG} {tt : TT} {tk tv : TE} (calm' : X.calm = true) (hu : X.A.units + 64 < cLine) (hN : X.N.Nodup) (pi : PI X tg iter wi) (blk : BlkOk X.N X.env.scope scope own)
    (pg : ∀ (s : Shared) (H : Hp) (C : Addr) (cl : List (Str × Addr)) (fp : List Addr), PG (X.blk s H scope (compEnvC scope cl C X.env) fp) tg g) (pt : ∀ (s : Shared) (H : Hp) (C : Addr) (cl : List (Str × Addr)) (fp : List Addr), PTs (X.blk s H scope (compEnvC scope cl C X.env) fp) ifs tt)
    (pk : ∀ (s : Shared) (H : Hp) (C : Addr) (cl : List (Str × Addr)) (fp : List Addr), PE (X.blk s H scope (compEnvC scope cl C X.env) fp) kx tk)
    (pv : ∀ (s : Shared) (H : Hp) (C : Addr) (cl : List (Str × Addr)) (fp : List Addr), PE (X.blk s H scope (compEnvC scope cl C X.env) fp) vx tv) (nofold : ∀ x, foldedSetIterable iter X.env x = pure x := by intro _; rfl) :
    PE X (.DictComp kx vx [⟨tg, iter, ifs, 0⟩] scope pos) (tDcK X.K X.prog X.w wi g tt tk tv (own.map (·.2))) := by
  refine ⟨fun pins s σ H Q I h => ?_⟩
  rw [arm_eval_DictComp]
  have caught : ∀ y ∈ scope.names, y.2 = .free → ∃ c, X.env.cells.lookup y.1 = some c := fun y hy e => (blk.free y hy e).elim (fun k => I.ok.has _ (.inl k)) fun k => I.ok.has _ (.inr k)
  refine wpAny_comprehension_free (use := none) rfl nofold (closure_ok caught) blk.kind (fun y hy e => by rw [blk.uniq y hy, e]) (thn (pi.run pins s σ H _ I h) fun xv s1 hx => thn hx fun itv s2 h2 => ?_)
  obtain ⟨it, fp, tn, J, H2, rfl, I2, T, st2, fresh, body⟩ := h2
  refine wpAny_newObj_type (newEnv_comp ?_)
  -- the new dict at D
  obtain ⟨D, hD⟩ : ∃ D, D = s2.heap.objs.size := ⟨_, rfl⟩
  rw [← hD]
  have hn : H2 D = none := I2.hok.fresh (Nat.le_of_eq hD.symm)
  obtain ⟨W, ⟨m0, w0⟩, turns⟩ := body D hn
  obtain ⟨s3, hs3⟩ : ∃ s3 : Shared, s3 = { s2 with heap := s2.heap.push { cls := .type "dict", data := .dict #[] } } := ⟨_, rfl⟩
  rw [← hs3]
  have heap3 : s3.heap = s2.heap.push { cls := .type "dict", data := .dict #[] } := by rw [hs3]
  have I3 : Inv X pins σ (upd H2 D (dictN X.prog X.w [] D)) s3 := by
    rw [hs3]
    refine I2.laid (t' := s2.toks) (fun b o e => Heap.get?_push_of_some _ e) (Nat.le_of_eq hD.symm) ?_
    rw [hD]
    exact dictN_new (d0_new I2.big)
  obtain ⟨H3, hH3⟩ : ∃ H3, H3 = upd H2 D (dictN X.prog X.w [] D) := ⟨_, rfl⟩
  rw [← hH3] at I3 w0
  have below : ∀ b ∈ fp, b < s2.heap.objs.size := fun b hb => by
    obtain ⟨o, e, _⟩ := T.obj _ _ st2 b hb
    exact Heap.lt_size e
  have fp3 : ∀ b ∈ fp, FpOk X pins H3 b ∧ b < s3.heap.objs.size := fun b hb => by
    have lt := below b hb
    refine ⟨⟨?_, (fresh b hb).2⟩, by rw [heap3, Heap.size_push]; exact Nat.lt_succ_of_lt lt⟩
    rw [hH3, upd_ne (by rw [hD]; exact Nat.ne_of_lt lt)]
    exact (fresh b hb).1
  have st3 : tn 0 s3.heap := T.keep _ _ _ st2 fun b _ o e => by rw [heap3]; exact Heap.get?_push_of_some _ e
  have I4 := block_start I3 blk hN fp3
  have pg := pg s3 H3 s3.heap.objs.size (cellsFrom (s3.heap.objs.size + 1) scope.names (cloFrom X.env.cells scope.names [])) fp
  have pt := pt s3 H3 s3.heap.objs.size (cellsFrom (s3.heap.objs.size + 1) scope.names (cloFrom X.env.cells scope.names [])) fp
  have pk := pk s3 H3 s3.heap.objs.size (cellsFrom (s3.heap.objs.size + 1) scope.names (cloFrom X.env.cells scope.names [])) fp
  have pv := pv s3 H3 s3.heap.objs.size (cellsFrom (s3.heap.objs.size + 1) scope.names (cloFrom X.env.cells scope.names [])) fp
  show codeAny _ _ (.compStart (.DictComp kx vx [⟨tg, iter, ifs, 0⟩] scope pos) 0 (.ref it) (.ref D) (compEnvC scope (cellsFrom (s3.heap.objs.size + 1) scope.names (cloFrom X.env.cells scope.names [])) s3.heap.objs.size X.env)) (compPost (model X.prog X.w) X.A X.xe none (EP X pins σ Q) (.ref D) s3.heap.objs.size) { s3 with heap := pushCells (s3.heap.push { cls := .type "dict", data := .dict #[] }) scope.names }
  obtain ⟨ce, hce⟩ : ∃ ce, ce = compEnvC scope (cellsFrom (s3.heap.objs.size + 1) scope.names (cloFrom X.env.cells scope.names [])) s3.heap.objs.size X.env := ⟨_, rfl⟩
  have cloc : ce.locals = s3.heap.objs.size := by rw [hce]; rfl
  rw [← hce] at I4 pg pt pk pv ⊢
  obtain ⟨s4, hs4⟩ : ∃ s4 : Shared, s4 = { s3 with heap := pushCells (s3.heap.push { cls := .type "dict", data := .dict #[] }) scope.names } := ⟨_, rfl⟩
  rw [← hs4] at I4 ⊢
  have st4 : tn 0 s4.heap := T.keep _ _ _ st3 fun b _ o e => by rw [hs4]; exact pushCells_keeps _ _ _ _ (Heap.get?_push_of_some _ e)
  have fp4 : ∀ b ∈ fp, H3 b = none := fun b hb => (fp3 b hb).1.1
  have foot : ∀ {τ : L2.St} {H' : Hp} {s' : Shared}, Inv (X.blk s3 H3 scope ce fp) [] τ H' s' → (∀ b ∈ fp, H' b = none) → ∀ b ∈ fp, FpOk (X.blk s3 H3 scope ce fp) [] H' b := fun I' hn b hb =>
    ⟨hn b hb, (I'.ok.exf b hb).1, I'.ok.exfs b hb, .inl hb, fun x c e => (I'.ok.exf b hb).2 x c e, fun p hp => absurd (show p ∈ ([] : List (Addr × Obj)) ++ [] from hp) (by simp)⟩
  have loop : codeAny (model X.prog X.w) X.A (.compLoop (.DictComp kx vx [⟨tg, iter, ifs, 0⟩] scope pos) 0 (.ref it) (.ref D) ce) (compPost (model X.prog X.w) X.A X.xe none (EP X pins σ Q) (.ref D) s3.heap.objs.size) s4 := by
    refine compLoop_anyD (fun n s' => ∃ i H', (Inv (X.blk s3 H3 scope ce fp) [] (wipe σ (own.map (·.2))) H' s' ∧ tn i s'.heap) ∧ (∀ b ∈ fp, H' b = none) ∧ W i n H') (fun n s5 hi => ?_) m0 ⟨0, H3, ⟨I4, st4⟩, fp4, w0⟩
    obtain ⟨i, H5, ⟨I5, st5⟩, fp5, w5⟩ := hi
    rcases turns i n H5 w5 with ⟨stop, qq⟩ | ⟨go, Nx, next, step⟩
    · refine thnF (T.done (X.blk s3 H3 scope ce fp) rfl rfl rfl calm' i [] s5 _ H5 (fun _ _ => False) I5 (foot I5 fp5) st5 stop) fun r s6 hr => ?_
      obtain ⟨rfl, I6⟩ := hr
      have I7 : Inv X pins σ H5 s6 := I3.call' (ch := fp) I6.os I6.base I6.hok I6.bare fun b hb => ⟨(fp3 b hb).1.2.2.2.1, (fp3 b hb).1.2.1, (fp3 b hb).1.2.2.2.2.1, (fp3 b hb).1.2.2.2.2.2⟩
      have freeC : H5 s3.heap.objs.size = none := by
        have z : H5 ce.locals = none := I6.free
        rwa [cloc] at z
      obtain ⟨m, hm, _⟩ := I6.loc
      have hm : s6.heap.Ns ce.locals m := hm
      rw [cloc] at hm
      refine ⟨m, hm, fun h'' sb => ?_⟩
      obtain ⟨f0, f1, f2, f3, f4, f5⟩ := I3.fpOk (Nat.le_refl _) freeC
      exact ⟨.ref D, H5, I7.turned (t' := s6.toks) (fun b o hb e => (sb.2 b hb).trans e) f0 f1 f3 f4 f5, rfl, qq⟩
    · refine thnF (T.item (X.blk s3 H3 scope ce fp) rfl rfl rfl calm' i [] s5 _ H5 (fun _ _ => False) I5 (foot I5 fp5) st5 go) fun r s6 hr => ?_
      obtain ⟨u, rfl, h6⟩ := hr
      refine thnF h6 fun _ s7 h7 => ?_
      obtain ⟨x, H7, I7, r7, y7, st7, fp7⟩ := h7
      have I7' := I7.pinned (foot I7 fp7) (T.obj _ _ st7)
      refine thnF (pg.run _ s7 _ H7 x u _ I7' r7 (step x H7 y7)) fun _ s8 h8 => ?_
      obtain ⟨τ, H8, I8, wiped, q8⟩ := h8
      refine thnF (pt.run _ s8 τ H8 _ I8 q8) fun b s9 h9 => ?_
      obtain ⟨H9, I9, q9⟩ := h9
      have ends : ∀ {s' : Shared} {H' : Hp}, Inv (X.blk s3 H3 scope ce fp) ([] ++ pinsAt fp s7.heap) τ H' s' → Nx H' → ∃ m, m < n ∧ ∃ i H', (Inv (X.blk s3 H3 scope ce fp) [] (wipe σ (own.map (·.2))) H' s' ∧ tn i s'.heap) ∧ (∀ b ∈ fp, H' b = none) ∧ W i m H' := by
        intro s' H' I' nx
        obtain ⟨m', hm, w'⟩ := next H' nx
        have pinned : ∀ b ∈ fp, ∀ o, s7.heap.get? b = some o → s'.heap.get? b = some o ∧ H' b = none := fun b hb o e =>
          ⟨(I'.pin (b, o) (List.mem_append_right _ (List.mem_append_right _ (mem_pinsAt hb e)))).1, (I'.pin (b, o) (List.mem_append_right _ (List.mem_append_right _ (mem_pinsAt hb e)))).2.1⟩
        have hlen : (wipe σ (own.map (·.2))).length = τ.length := by rw [← wiped, wipe_length]
        refine ⟨m', hm, i + 1, H', ⟨(I'.unpinned (pins := [])).weak hlen fun j v e => ?_, T.keep _ _ _ st7 fun b hb o e => (pinned b hb o e).1⟩, fun b hb => ?_, w'⟩
        · rw [← wiped] at e
          exact (wipe_some e).1
        · obtain ⟨o, e, _⟩ := T.obj _ _ st7 b hb
          exact (pinned b hb o e).2
      cases b with
      | false =>
        rw [if_neg Bool.false_ne_true] at q9 ⊢
        exact ends I9 q9
      | true =>
        rw [if_pos rfl] at q9 ⊢
        refine thnF (pk.run _ s9 τ H9 _ I9 q9) fun z s10 h10 => ?_
        obtain ⟨yk, H10, I10, r10, q10⟩ := h10
        refine thnF (pv.run _ s10 τ H10 _ I10 q10) fun z2 s11 h11 => ?_
        obtain ⟨yv, H11, I11, r11, a, zs, k, rfl, hD11, hz, hk, hl, nx⟩ := h11
        obtain rfl : z = Value.ref a := r10
        exact dset (X := X.blk s3 H3 scope ce fp) hu I11 hD11 hz hk r11 hl fun s12 I12 => ends I12 nx
  exact codeAny_compStart_dict loop (T.self X.A 0 _ _ _ st4 loop)
end
end Sn

/-! Sn8: dicts by nested keys in plain terms. -/
namespace Tw
open PySem PySem.Spec PyProof.Rows L2 SlX StX Rs Ma Sn
variable [Rs.Tabz]
/-- a dict in plain terms: its pairs, as they came -/
def putA {α β : Type} [DecidableEq α] : List (α × β) → α → β → List (α × β)
  | [], a, b => [(a, b)]
  | p :: ps, a, b => if p.1 = a then (p.1, b) :: ps else p :: putA ps a b
def getA {α β : Type} [DecidableEq α] : List (α × β) → α → Option β
  | [], _ => none
  | p :: ps, a => if p.1 = a then some p.2 else getA ps a
def putsA {α β : Type} [DecidableEq α] : List (α × β) → List (α × β) → List (α × β)
  | kvs, [] => kvs
  | kvs, p :: ps => putsA (putA kvs p.1 p.2) ps
theorem getA_none {α β : Type} [DecidableEq α] {a : α} : ∀ {ps : List (α × β)}, getA ps a = none ↔ a ∉ ps.map (·.1)
  | [] => by simp [getA]
  | p :: ps => by
    unfold getA
    by_cases h : p.1 = a
    · simp [h]
    · rw [if_neg h, getA_none, List.map_cons, List.mem_cons, not_or]
      exact ⟨fun z => ⟨fun e => h e.symm, z⟩, fun z => z.2⟩
theorem putA_new {α β : Type} [DecidableEq α] {a : α} {b : β} : ∀ {ps : List (α × β)}, a ∉ ps.map (·.1) → putA ps a b = ps ++ [(a, b)]
  | [], _ => rfl
  | p :: ps, h => by
    rw [List.map_cons, List.mem_cons, not_or] at h
    rw [putA, if_neg fun e => h.1 e.symm, putA_new h.2]
    rfl
theorem putsA_new {α β : Type} [DecidableEq α] : ∀ {ps kvs : List (α × β)}, ((kvs ++ ps).map (·.1)).Nodup → putsA kvs ps = kvs ++ ps
  | [], kvs, _ => by rw [putsA, List.append_nil]
  | p :: ps, kvs, h => by
    have e : kvs ++ p :: ps = (kvs ++ [p]) ++ ps := by rw [List.append_assoc]; rfl
    have hn : p.1 ∉ kvs.map (·.1) := by
      rw [List.map_append, List.map_cons] at h
      intro z
      exact (List.nodup_append.mp h).2.2 _ z _ List.mem_cons_self rfl
    rw [putsA, putA_new hn, putsA_new (by rw [← e]; exact h), ← e]
/-- the entries say these pairs -/
def EntAll (K : PySem.W.Frag) {α β : Type} (d : α → PyData) {n : Nat} [c : Keyd d n] (R : β → VP) : List Ent → List (α × β) → Hp → Prop
  | [], [], _ => True
  | z :: zs, p :: ps, F => (z.1 = c.key p.1 ∧ KeyAt K F z.1 z.2.1 ∧ R p.2 z.2.2 F) ∧ EntAll K d R zs ps F
  | _, _, _ => False
theorem dictN_ne {P : Program} {w : World} {zs : List Ent} {D : Addr} (c : Addr) (q : Str) : dictN P w zs D ≠ CodeT c q := codeT_ne fun h ⟨_, _, _, _, o, es, ep, h1, _, h2, _⟩ => ⟨D, o, h1, fun vs z => by rw [h2] at z; cases z⟩
section
variable {K : PySem.W.Frag} {P : Program} {w : World} {α β : Type} [DecidableEq α] {d : α → PyData} {n : Nat} [c : Keyd d n] {R : β → VP} {F F' : Hp}
theorem keyAt_up {k : NestedKey} {a : Addr} (e : Same F F') (h : KeyAt K F k a) : KeyAt K F' k a := ⟨dp_up e h.1, h.2⟩
theorem entAll_up [∀ b, Mono (R b)] (e : Same F F') : ∀ {zs : List Ent} {ps : List (α × β)}, EntAll K d R zs ps F → EntAll K d R zs ps F'
  | [], [], _ => True.intro
  | z :: zs, p :: ps, ⟨⟨h1, h2, h3⟩, h4⟩ => ⟨⟨h1, keyAt_up e h2, Mono.mono _ _ _ e h3⟩, entAll_up e h4⟩
  | [], _ :: _, h => h.elim
  | _ :: _, [], h => h.elim
theorem entAll_len : ∀ {zs : List Ent} {ps : List (α × β)}, EntAll K d R zs ps F → zs.length = ps.length
  | [], [], _ => rfl
  | z :: zs, p :: ps, h => by rw [List.length_cons, List.length_cons, entAll_len h.2]
  | [], _ :: _, h => h.elim
  | _ :: _, [], h => h.elim
theorem entAll_keys : ∀ {zs : List Ent} {ps : List (α × β)}, EntAll K d R zs ps F → ∀ z ∈ zs, KeyAt K F z.1 z.2.1
  | [], [], _, z, hz => nomatch hz
  | z :: zs, p :: ps, h, y, hy => by
    rcases List.mem_cons.mp hy with rfl | hy
    · exact h.1.2.1
    · exact entAll_keys h.2 y hy
  | [], _ :: _, h, _, _ => h.elim
  | _ :: _, [], h, _, _ => h.elim
theorem entAll_get : ∀ {zs : List Ent} {ps : List (α × β)}, EntAll K d R zs ps F → ∀ a, (getA ps a = none ∧ atN zs (c.key a) = none) ∨ ∃ b x v, getA ps a = some b ∧ atN zs (c.key a) = some (x, v) ∧ R b v F
  | [], [], _, a => .inl ⟨rfl, rfl⟩
  | z :: zs, p :: ps, ⟨⟨h1, h2, h3⟩, h4⟩, a => by
    by_cases h : p.1 = a
    · refine .inr ⟨p.2, z.2.1, z.2.2, by rw [getA, if_pos h], ?_, h3⟩
      unfold atN
      rw [List.find?_cons_of_pos (by rw [h1, h]; simp)]
      rfl
    · have ne : ¬ z.1 = c.key a := fun e => h (c.inj _ _ (by rw [← h1, e]))
      have e1 : atN (z :: zs) (c.key a) = atN zs (c.key a) := by
        unfold atN
        rw [List.find?_cons_of_neg (by simpa using ne)]
      rw [getA, if_neg h, e1]
      exact entAll_get h4 a
  | [], _ :: _, h, _ => h.elim
  | _ :: _, [], h, _ => h.elim
theorem atN_cons_ne {z : Ent} {zs : List Ent} {k : NestedKey} (h : ¬ z.1 = k) : atN (z :: zs) k = atN zs k := by
  unfold atN
  rw [List.find?_cons_of_neg (by simpa using h)]
theorem atN_cons_eq {z : Ent} {zs : List Ent} {k : NestedKey} (h : z.1 = k) : atN (z :: zs) k = some (z.2.1, z.2.2) := by
  unfold atN
  rw [List.find?_cons_of_pos (by simpa using h)]
  rfl
theorem putN_cons_ne {z : Ent} {zs : List Ent} {k : NestedKey} {a : Addr} {v : V} (h : ¬ z.1 = k) : putN (z :: zs) k a v = z :: putN zs k a v := by
  unfold putN
  rw [atN_cons_ne h]
  split
  · rw [List.map_cons, if_neg h]
  · rfl
theorem set_same {zs : List Ent} {k : NestedKey} {v : V} (h : k ∉ zs.map (·.1)) : zs.map (fun z => if z.1 = k then (z.1, z.2.1, v) else z) = zs := by
  induction zs with
  | nil => rfl
  | cons z zs ih =>
    rw [List.map_cons, List.mem_cons, not_or] at h
    rw [List.map_cons, ih h.2, if_neg fun e => h.1 e.symm]
theorem entAll_fst : ∀ {zs : List Ent} {ps : List (α × β)}, EntAll K d R zs ps F → zs.map (·.1) = (ps.map (·.1)).map c.key
  | [], [], _ => rfl
  | z :: zs, p :: ps, h => by rw [List.map_cons, List.map_cons, List.map_cons, entAll_fst h.2, h.1.1]
  | [], _ :: _, h => h.elim
  | _ :: _, [], h => h.elim
theorem entAll_put {a : α} {b : β} {x : Addr} {v : V} (hk : KeyAt K F (c.key a) x) (hb : R b v F) : ∀ {zs : List Ent} {ps : List (α × β)}, EntAll K d R zs ps F → (ps.map (·.1)).Nodup → EntAll K d R (putN zs (c.key a) x v) (putA ps a b) F
  | [], [], _, _ => ⟨⟨rfl, hk, hb⟩, True.intro⟩
  | z :: zs, p :: ps, ⟨⟨h1, h2, h3⟩, h4⟩, hn => by
    rw [List.map_cons, List.nodup_cons] at hn
    by_cases h : p.1 = a
    · have e : z.1 = c.key a := by rw [h1, h]
      have no : c.key a ∉ zs.map (·.1) := by
        rw [entAll_fst h4]
        intro y
        obtain ⟨a', ha, ea⟩ := List.mem_map.mp y
        rw [c.inj _ _ ea, ← h] at ha
        exact hn.1 ha
      unfold putN
      rw [atN_cons_eq e, putA, if_pos h, Option.isSome_some, if_pos rfl, List.map_cons, if_pos e, set_same no]
      exact ⟨⟨h1, h2, hb⟩, h4⟩
    · have ne : ¬ z.1 = c.key a := fun e => h (c.inj _ _ (by rw [← h1, e]))
      rw [putN_cons_ne ne, putA, if_neg h]
      exact ⟨⟨h1, h2, h3⟩, entAll_put hk hb h4 hn.2⟩
  | [], _ :: _, h, _ => h.elim
  | _ :: _, [], h, _ => h.elim
theorem putA_nodup {a : α} {b : β} : ∀ {ps : List (α × β)}, (ps.map (·.1)).Nodup → ((putA ps a b).map (·.1)).Nodup ∧ ∀ x, x ∈ (putA ps a b).map (·.1) → x = a ∨ x ∈ ps.map (·.1)
  | [], _ => ⟨by simp [putA], fun x hx => by simp [putA] at hx; exact .inl hx⟩
  | p :: ps, h => by
    rw [List.map_cons, List.nodup_cons] at h
    unfold putA
    split
    · rename_i e
      exact ⟨by rw [List.map_cons]; exact List.nodup_cons.mpr h, fun x hx => .inr hx⟩
    · rename_i e
      obtain ⟨h1, h2⟩ := putA_nodup (a := a) (b := b) h.2
      refine ⟨by rw [List.map_cons]; exact List.nodup_cons.mpr ⟨fun z => (h2 _ z).elim (fun q => e q) h.1, h1⟩, fun x hx => ?_⟩
      rw [List.map_cons, List.mem_cons] at hx
      rcases hx with rfl | hx
      · exact .inr List.mem_cons_self
      · exact (h2 x hx).imp id (List.mem_cons_of_mem _)
end
theorem rd_up {F F' : Hp} {a : Addr} {u : HO} (e : Same F F') (h : Rd F a u) : Rd F' a u := h.imp (fun h => e _ _ h) fun ⟨o, h⟩ => ⟨o, e _ _ h⟩
/-- a dict that stays -/
def fDK (K : PySem.W.Frag) (P : Program) (w : World) {α β : Type} [DecidableEq α] (d : α → PyData) {n : Nat} [c : Keyd d n] (R : β → VP) : List (α × β) → VP := fun kvs v F => ∃ D zs, v = .ref D ∧ Rd F D (dictN P w zs D) ∧ EntAll K d R zs kvs F ∧ (kvs.map (·.1)).Nodup
instance {K : PySem.W.Frag} {P : Program} {w : World} {α β : Type} [DecidableEq α] {d : α → PyData} {n : Nat} [Keyd d n] {R : β → VP} [∀ b, Mono (R b)] {kvs : List (α × β)} : Mono (fDK K P w d R kvs) := ⟨fun _ _ _ e ⟨D, zs, h, h1, r, n⟩ => ⟨D, zs, h, rd_up e h1, entAll_up e r, n⟩⟩
theorem wipe_idem {σ : L2.St} {vs : List Nat} : wipe (wipe σ vs) vs = wipe σ vs := by
  have same : ∀ (vs : List Nat) (i : Nat), i ∉ vs → (wipe σ vs)[i]? = σ[i]? := by
    intro vs
    induction vs with
    | nil => intro i _; rfl
    | cons v vs ih =>
      intro i hi
      rw [List.mem_cons, not_or] at hi
      rw [wipe, List.getElem?_set_ne (fun z => hi.1 z.symm), ih i hi.2]
  exact wipe_agree (js := vs) (wipe_length _ _) (fun i hi => same vs i hi) (by rw [List.all_eq_true]; intro x hx; simpa using hx)
section
variable {ε α β γ δ : Type} {Z : Wsh ε} {ρ : List (Option VP)} {κ : List Ow} {K : PySem.W.Frag} {P : Program} {w : World} {tk tv : TE} {tt : TT} {wi : TI} {g : TG} {n : Nat} {d : α → PyData} [DecidableEq α] [c : Keyd d n] {Rb : β → VP} {R : β → VP}
theorem dc_it {J : It} {n : Nat} {G : Hp → Prop} {Y : Nat → Hp → V → Hp → Prop} (wk : Walk J n G Y) {g : TG} {tt : TT} {tk tv : TE} {vs : List Nat} {σ : L2.St} {H1 : Hp} {D : Addr} {Qd : Hp → Prop} (Pv : Nat → Hp → Prop) (h0 : Pv 0 (upd H1 D (dictN P w [] D))) (hG : ∀ i H, i ≤ n → Pv i H → G H)
    (hs : ∀ i x H H', i < n → Pv i H → Y i H x H' → g x (wipe σ vs) H' fun τ H2 => wipe τ vs = wipe σ vs ∧ Turn K P w tt tk tv D (Pv (i + 1)) τ H2) (hd : ∀ H, Pv n H → Qd H) :
    ∃ W : Nat → Nat → Hp → Prop, (∃ m, W 0 m (upd H1 D (dictN P w [] D))) ∧ ∀ i m H, W i m H →
      (J.stop i H ∧ Qd H) ∨ (J.go i H ∧ ∃ Nx : Hp → Prop, (∀ H', Nx H' → ∃ m', m' < m ∧ W (i + 1) m' H') ∧ ∀ x H', J.yld i H x H' → g x (wipe σ vs) H' fun τ H2 => wipe τ vs = wipe σ vs ∧ Turn K P w tt tk tv D Nx τ H2) := by
  refine ⟨fun i m H => i + m = n ∧ Pv i H, ⟨n, Nat.zero_add _, h0⟩, fun i m H hi => ?_⟩
  obtain ⟨him, p⟩ := hi
  have q := hG i H (by omega) p
  cases m with
  | zero =>
    obtain rfl : i = n := him
    exact .inl ⟨wk.stops H q, hd H p⟩
  | succ m => exact .inr ⟨wk.goes i H (by omega) q, Pv (i + 1), fun H' p' => ⟨m, Nat.lt_succ_self _, by omega, p'⟩, fun x H' y => hs i x H H' (by omega) p (wk.yields i H x H' (by omega) q y)⟩
end
end Tw

/-! RsW: own __getitem__, own __iter__ that hands out iter of a tuple. -/
namespace Rs
open PySem PySem.Spec PyProof.Rows L2 SlX StX Ma
variable [Rs.Tabz]
section
variable {X : Cx} {CX : CXT} {C g : Addr} {n : Nat} {sp : Sp} {E : XK}
end
section
variable {X : Cx} {k j : Nat} {C : Addr} {sp : Sp}
end

/-! ### iter of a tuple, as a value -/
section
variable {X : Cx}
variable {e : Expr} {t : TA} {p pos : Pos}
end
end Rs

/-! Tx0: own items, own iteration, slices, lists * int, objects being made. -/
namespace Tw
open PySem PySem.Spec PyProof.Rows L2 SlX StX Rs Ma Sn
variable [Rs.Tabz]
section
variable {ε α β γ δ : Type} {Z : Wsh ε} {ρ : List (Option VP)} {κ : List Ow} {K : PySem.W.Frag} {te ta tb ti : TE} {C : Addr} {Ra R : α → VP} {Rb : β → VP} {Rc : γ → VP} {ma : Wm ε α} {ml : Wm ε (List α)} {i : Nat} {E : XK}
/-! own items -/
/-! own iteration -/
/-! slices -/
structure TrO (Z : Wsh ε) (ρ : List (Option VP)) (κ : List Ow) (to : TO) (m : Wm ε (Option Nat)) : Prop where
  run : ∀ σ F L, SatV ρ σ F → SatC κ σ F L → ∀ Q X, m Q X → RunW Z (to σ) F L (fun o _ => ∃ k : Option Nat, Q k ∧ o = k.map fun n => (n : Int)) X
theorem to_no : TrO Z ρ κ tNoPart (pur none) := ⟨fun σ F L s c Q X q => .of fun F1 N H e A Qk qk => qk none F1 H (Same.refl _) A ⟨none, q, rfl⟩⟩
theorem to_some {m : Wm ε Nat} (h : TrE Z ρ κ te m (fD K dN)) : TrO Z ρ κ (tPart te) (fun Q X => m (fun n => Q (some n)) X) :=
  ⟨fun σ F L s c Q X q => rw_bind (k := te σ) (k2 := fun x H Q => ∃ i, x = .int i ∧ Q (some i) H) (h.run σ F L s c _ X q) fun x F1 e1 ⟨n, q1, hx⟩ => .of fun F2 N H e A Qk qk => by
    cases hx
    exact ⟨(n : Int), rfl, qk _ F2 H (Same.refl _) A ⟨some n, q1, rfl⟩⟩⟩
/-- xs[lo:hi] -/
def cutL (xs : List α) (lo hi : Option Nat) : List α := (xs.take (hi.getD xs.length)).drop (lo.getD 0)
theorem cut_eq {xs : List V} {lo hi : Option Nat} : cutV xs (lo.map fun n => (n : Int)) (hi.map fun n => (n : Int)) = cutL xs lo hi := by
  have e1 : HT.sIx xs.length 0 (lo.map fun n => (n : Int)) = min (lo.getD 0) xs.length := by
    cases lo with
    | none => show (0 : Nat) = min 0 xs.length; omega
    | some n => exact HT.sIx_nat _ _ _
  have e2 : HT.sIx xs.length xs.length (hi.map fun n => (n : Int)) = min (hi.getD xs.length) xs.length := by
    cases hi with
    | none => show xs.length = min xs.length xs.length; omega
    | some n => exact HT.sIx_nat _ _ _
  unfold cutV cutL
  rw [e1, e2, List.drop_take]
  apply List.ext_getElem?
  intro n
  rw [List.getElem?_take, List.getElem?_take, List.getElem?_drop, List.getElem?_drop]
  by_cases h : lo.getD 0 ≤ xs.length
  · rw [Nat.min_eq_left h]
    by_cases h2 : n < min (hi.getD xs.length) xs.length - lo.getD 0
    · rw [if_pos h2, if_pos (by omega)]
    · rw [if_neg h2]
      split
      · rw [List.getElem?_eq_none (by omega)]
      · rfl
  · rw [if_neg (by omega)]
    split
    · rw [List.getElem?_eq_none (by omega)]
    · rfl
theorem cutL_each {xs : List α} {vs : List V} {F : Hp} {lo hi : Option Nat} (h : Each (xs.map R) vs F) : Each ((cutL xs lo hi).map R) (cutL vs lo hi) F := by
  have hl : vs.length = xs.length := by rw [each_length h, List.length_map]
  have tk : ∀ (n : Nat) (xs : List α) (vs : List V), Each (xs.map R) vs F → Each ((xs.take n).map R) (vs.take n) F := by
    intro n
    induction n with
    | zero => intro xs vs _; exact True.intro
    | succ n ih => intro xs vs h; match xs, vs, h with
      | [], [], _ => exact True.intro
      | x :: xs, v :: vs, h => exact ⟨h.1, ih xs vs h.2⟩
  have dp : ∀ (n : Nat) (xs : List α) (vs : List V), Each (xs.map R) vs F → Each ((xs.drop n).map R) (vs.drop n) F := by
    intro n
    induction n with
    | zero => intro xs vs h; exact h
    | succ n ih => intro xs vs h; match xs, vs, h with
      | [], [], _ => exact True.intro
      | x :: xs, v :: vs, h => exact ih xs vs h.2
  unfold cutL
  rw [hl]
  exact dp _ _ _ (tk _ _ _ h)
theorem tr_slL {tl th : TO} {mlo mhi : Wm ε (Option Nat)} [∀ a, Mono (R a)] (h : TrE Z ρ κ te ml (fLn R)) (hl : TrO Z ρ κ tl mlo) (hh : TrO Z ρ κ th mhi) :
    TrE Z ρ κ (L2.tSl (rSlL K) te tl th) (fun Q X => ml (fun xs => mlo (fun lo => mhi (fun hi => Q (cutL xs lo hi)) X) X) X) (fLn R) :=
  ⟨inferInstance, fun σ F L s c Q X q => rw_bind (k := te σ) (h.run σ F L s c _ X q) fun x F1 e1 ⟨xs, q1, hx⟩ => rw_bind (k := tl σ) (hl.run σ F1 L (satV_up e1 s) (satC_up e1 c) _ X q1) fun o1 F2 e2 ⟨lo, q2, hlo⟩ =>
    rw_bind (k := th σ) (k2 := fun o2 H Q => rSlL K x o1 o2 H Q) (hh.run σ F2 L (satV_up (e1.trans e2) s) (satC_up (e1.trans e2) c) _ X q2) fun o2 F3 e3 ⟨hi, q3, hhi⟩ => .of fun F4 N H e A Qk qk => by
      obtain ⟨a, vs, rfl, hs, hr⟩ := hx
      subst hlo hhi
      refine ⟨a, vs, rfl, .inl (.inl (A.ex _ _ (((e2.trans e3).trans e) _ _ hs))), fun p hp => ?_⟩
      rw [cut_eq]
      refine qk _ (upd F4 p _) _ (same_new (A.free hp)) (A.new hp) ⟨_, q3, p, _, rfl, upd_same, cutL_each (MonoL.mono _ _ _ (((e2.trans e3).trans e).trans (same_new (A.free hp))) hr)⟩⟩
/-! a list so many times -/
end
/-! ### an object being made -/
section
variable {α : Type} {ρ : List (Option VP)} {K : PySem.W.Frag} {σ : L2.St} {F : Hp} {L : Cells} {Nx : L2.St → Hp → Cells → Prop} {Rt : VP} {u : TS} {tv : TE} {tt : TT} {C a dx : Addr} {f : Str} {i : Nat} {vs : List (Option V)} {o o2 : HO} {R : α → VP} {m : Wm Empty α} {mb : Wm Empty Bool}
theorem run0 {k : Hp → (α → Hp → Prop) → Prop} {S : α → Hp → Prop} (h : RunW Z0 k F L S X0) : Run k F L S := fun F1 N H e A Q q => h F1 N H e A wish0 Q q
/-- self.f = value -/
theorem q_slW (s : SlF K C f i) (hc : SCell a C dx vs o o2) (h0 : σ[0]? = some (some (.ref a))) (hv : TrE Z0 ρ [] tv m R) (sv : SatV ρ σ F) {Q : α → Prop} (q : m Q X0)
    (k : ∀ x v F1, Same F F1 → Q x → R x v F1 → RunS u σ F1 ((a, SlO a C dx (putS i v vs)) :: (dx, .xd []) :: L) Nx Rt) : RunS (tSeq (sSl K (tVar 0) tv f) u) σ F ((a, o) :: (dx, o2) :: L) Nx Rt := by
  have mo : Mono (fun v F1 => ∃ x, Q x ∧ R x v F1) := ⟨fun v F1 F2 e ⟨x, h1, h2⟩ => ⟨x, h1, (hv.mono x).mono _ _ _ e h2⟩⟩
  exact q_slset (R := fun v F1 => ∃ x, Q x ∧ R x v F1) s hc (r_varE h0) (run0 (hv.run σ F _ sv True.intro Q X0 q)) fun v F1 e ⟨x, h1, h2⟩ => k x v F1 e h1 h2
theorem s_slW (s : SlF K C f i) (hc : SCell a C dx vs o o2) (h0 : σ[0]? = some (some (.ref a))) (hv : TrE Z0 ρ [] tv m R) (sv : SatV ρ σ F) {Q : α → Prop} (q : m Q X0)
    (k : ∀ x v F1, Same F F1 → Q x → R x v F1 → Nx σ F1 ((a, SlO a C dx (putS i v vs)) :: (dx, .xd []) :: L)) : RunS (sSl K (tVar 0) tv f) σ F ((a, o) :: (dx, o2) :: L) Nx Rt := by
  have mo : Mono (fun v F1 => ∃ x, Q x ∧ R x v F1) := ⟨fun v F1 F2 e ⟨x, h1, h2⟩ => ⟨x, h1, (hv.mono x).mono _ _ _ e h2⟩⟩
  exact s_slset (R := fun v F1 => ∃ x, Q x ∧ R x v F1) s hc (r_varE h0) (run0 (hv.run σ F _ sv True.intro Q X0 q)) fun v F1 e ⟨x, h1, h2⟩ => k x v F1 e h1 h2
end
end Tw

/-! Tx1: isinstance of tuples of objects, of objects. -/
namespace Tw
open PySem PySem.Spec PyProof.Rows L2 SlX StX Rs Ma Sn
variable [Rs.Tabz]
section
variable {ε α : Type} {Z : Wsh ε} {ρ : List (Option VP)} {κ : List Ow} {K : PySem.W.Frag} {C : Addr} {R Ra : α → VP} {F H : Hp}
theorem ty_sqT {a : Addr} {xs : List V} (h : SqT K H a xs) : TyX K H (.ref a) (.type "tuple") := by
  rcases h with (h | ⟨o, h⟩) | ⟨o, its, n, h, hc, _⟩
  · exact .base (.tup h)
  · exact .fTuple h
  · exact .kTuple h hc
theorem c_isiTp [∀ a, Mono (R a)] : Cb ε (rIsi K) (fun p : List α × Unit => [fTp K R p.1, Eqv (.ty "tuple")]) (fun _ => pur true) (fD K dB) := .of fun g vs F L hv Q X q1 => by
  obtain ⟨v, u, rfl, h1, h2⟩ := each2 hv
  exact ⟨true, q1, r_isi (σ := []) (t := tCons (tC v) (tCons (tC u) tNil)) (K := K) (ty := .type "tuple") (b := true) (r_cons (r_c (R := fTp K R g.1) h1) (r_cons (r_c h2) r_nil)) (fun v F1 F2 H hv e1 e2 => by
    obtain ⟨a, xs, rfl, hs, _⟩ := hv
    exact ty_sqT (sqT_up (e1.trans e2) hs)) (kit_ty (by decide +kernel))⟩
theorem c_isiOwn [∀ a, Mono (Ra a)] (sc : SCls K C) (si : SIsi K C) (kit : PySem.W.kitOne K (.ref C) (.ref C) = some true) (hS : ∀ a v F, Ra a v F → IsOb C v F) :
    Cb ε (fun xs H Q => rIsi K xs H Q ∨ rIsiSl K (.ref C) xs H Q) (fun p : α × Unit => [Ra p.1, Eqv (.ref C)]) (fun _ => pur true) (fD K dB) := .of fun g vs F L hv Q X q1 => by
  obtain ⟨v, u, rfl, h1, h2⟩ := each2 hv
  cases h2
  obtain ⟨a, dx, vs, rfl, p1, p2⟩ := hS _ _ _ h1
  exact ⟨true, q1, fun F2 N H e2 A Qk qk => .inr ⟨a, C, dx, vs, .ref C, true, rfl, rfl, fun w hw => hw, at_slt A (e2 _ _ p1) (e2 _ _ p2), sc, si, kit, qk _ F2 H (Same.refl _) A (.bl true)⟩⟩
theorem tr_clsV : TrE Z ρ κ (tC (.ref C)) (pur ()) fun _ : Unit => Eqv (.ref C) := ⟨fun _ => inferInstance, fun σ F L s c Q X q => .of (run_ret fun F1 e => ⟨(), q, rfl⟩)⟩
end
/-! ### defs that fall off their end -/
section
variable {P : Program} {w : World} {K : PySem.W.Frag} {mg : Str → Option Value} {base : Heap} {γ : Type}
theorem gw_metN {x qual : Str} {stt : Stmt} {f : Addr} {fd : FuncData} {N ps : List Str} {k : Nat} {Rs : γ → List VP} {spec : γ → (Unit → Prop) → Prop} (F : Fun K x qual stt f fd) (Sc : FnScope N ps (defScope stt)) (len : ∀ g, (Rs g).length = ps.length) (hm : ∀ g, MonoAll (Rs g))
    (body : ∀ (cdv : Value) (A : Around) (outer : List Env) (s : Shared) (H : Hp) (E : XK) (g : γ), Room k (A.deeper (envOfC qual (defScope stt) s.heap.objs.size f cdv)) →
      ∃ t, PSs (cxOf CX0 P w K mg base N qual (defScope stt) f cdv A outer s H E).nox (defBody stt) t ∧ ∃ m : Ws Empty Unit Unit, TrS Z0 (ofArgs (Rs g) N.length) [] t m (fun _ => List.replicate N.length none) (fun _ => []) (fD K dU) ∧ ∀ Q, (∃ vs F, Each (Rs g) vs F) → spec g Q → m (fun _ => Q ()) Q X0) :
    FnOk P w K mg base CX0 (k + 1) f fd ps (SpN Rs spec (fD K dU)) := gw_ok (fun Q _ => Q ()) F Sc len hm _ _ (fun _ _ h => ⟨(), h, fun _ => .non⟩) body
end
theorem forW_inv2 {ε S β δ : Type} {mbd : S → β → Ws ε S δ} {Nx : S → Prop} {Rt : δ → Prop} {X : ε → Prop} : ∀ {xs : List β} {s : S} (J : Nat → S → Prop), J 0 s → (∀ i x s (P : S → Prop), xs[i]? = some x → J i s → (∀ s', J (i + 1) s' → P s') → mbd s x P Rt X) → (∀ s, J xs.length s → Nx s) → forW mbd xs s Nx Rt X
  | [], s, J, h0, _, hn => hn s h0
  | x :: xs, s, J, h0, hb, hn => hb 0 x s _ rfl h0 fun s' h1 => forW_inv2 (fun i => J (i + 1)) h1 (fun i y s P hy => hb (i + 1) y s P hy) hn
end Tw

/-! Td0: dicts by numbers and texts, in plain terms. -/
namespace Tw
open PySem PySem.Spec PyProof.Rows L2 SlX StX Rs Ma Sn
variable [Rs.Tabz]
/-- data that are keys of such dicts -/
class NumK {α : Type} (d : α → PyData) where
  key : α → Key
  val : ∀ {K : PySem.W.Frag} {F : Hp} {v : V} {a : α}, Dp K F v (d a) → v = kV (key a)
  inj : ∀ a b, key a = key b → a = b
instance : NumK dN := ⟨fun n => .inl (n : Nat), fun h => by cases h; rfl, fun a b e => by have := Sum.inl.inj e; omega⟩
instance : NumK dInt := ⟨fun n => .inl n, fun h => by cases h; rfl, fun a b e => Sum.inl.inj e⟩
instance : NumK dS := ⟨fun x => .inr x, fun h => by cases h; rfl, fun a b e => Sum.inr.inj e⟩
section
variable {α β : Type} [DecidableEq α] {d : α → PyData} [c : NumK d] {R : β → VP} {F F' : Hp}
def RelD (d : α → PyData) [c : NumK d] (R : β → VP) : List (Key × V) → List (α × β) → Hp → Prop
  | [], [], _ => True
  | z :: zs, p :: ps, F => (z.1 = c.key p.1 ∧ R p.2 z.2 F) ∧ RelD d R zs ps F
  | _, _, _ => False
theorem relD_up [∀ b, Mono (R b)] (e : Same F F') : ∀ {zs : List (Key × V)} {ps : List (α × β)}, RelD d R zs ps F → RelD d R zs ps F'
  | [], [], _ => True.intro
  | z :: zs, p :: ps, ⟨⟨h1, h2⟩, h3⟩ => ⟨⟨h1, Mono.mono _ _ _ e h2⟩, relD_up e h3⟩
  | [], _ :: _, h => h.elim
  | _ :: _, [], h => h.elim
theorem relD_len : ∀ {zs : List (Key × V)} {ps : List (α × β)}, RelD d R zs ps F → zs.length = ps.length
  | [], [], _ => rfl
  | z :: zs, p :: ps, h => by rw [List.length_cons, List.length_cons, relD_len h.2]
  | [], _ :: _, h => h.elim
  | _ :: _, [], h => h.elim
theorem relD_fst : ∀ {zs : List (Key × V)} {ps : List (α × β)}, RelD d R zs ps F → zs.map (·.1) = (ps.map (·.1)).map c.key
  | [], [], _ => rfl
  | z :: zs, p :: ps, h => by rw [List.map_cons, List.map_cons, List.map_cons, relD_fst h.2, h.1.1]
  | [], _ :: _, h => h.elim
  | _ :: _, [], h => h.elim
theorem valV_neg {p : Key × V} {r : List (Key × V)} {k : Key} (e : ¬ p.1 = k) : valV (p :: r) k = valV r k := by simp [valV, List.find?_cons, e]
theorem relD_get : ∀ {zs : List (Key × V)} {ps : List (α × β)}, RelD d R zs ps F → ∀ a, (getA ps a = none ∧ valV zs (c.key a) = none) ∨ ∃ b v, getA ps a = some b ∧ valV zs (c.key a) = some v ∧ R b v F
  | [], [], _, a => .inl ⟨rfl, rfl⟩
  | z :: zs, p :: ps, ⟨⟨h1, h2⟩, h3⟩, a => by
    by_cases h : p.1 = a
    · exact .inr ⟨p.2, z.2, by rw [getA, if_pos h], valV_pos (by rw [h1, h]), h2⟩
    · have ne : ¬ z.1 = c.key a := fun e => h (c.inj _ _ (by rw [← h1, e]))
      rw [getA, if_neg h, valV_neg ne]
      exact relD_get h3 a
  | [], _ :: _, h, _ => h.elim
  | _ :: _, [], h, _ => h.elim
theorem putK_neg {p : Key × V} {r : List (Key × V)} {k : Key} {v : V} (e : ¬ p.1 = k) : putK (p :: r) k v = p :: putK r k v := by
  unfold putK
  rw [List.any_cons, decide_eq_false e, Bool.false_or]
  split
  · rw [List.map_cons, if_neg e]
  · rfl
theorem setK_same {zs : List (Key × V)} {k : Key} {v : V} (h : k ∉ zs.map (·.1)) : zs.map (fun kv => if kv.1 = k then (kv.1, v) else kv) = zs := by
  induction zs with
  | nil => rfl
  | cons z zs ih =>
    rw [List.map_cons, List.mem_cons, not_or] at h
    rw [List.map_cons, ih h.2, if_neg fun e => h.1 e.symm]
theorem relD_put {a : α} {b : β} {v : V} (hb : R b v F) : ∀ {zs : List (Key × V)} {ps : List (α × β)}, RelD d R zs ps F → (ps.map (·.1)).Nodup → RelD d R (putK zs (c.key a) v) (putA ps a b) F
  | [], [], _, _ => ⟨⟨rfl, hb⟩, True.intro⟩
  | z :: zs, p :: ps, ⟨⟨h1, h2⟩, h3⟩, hn => by
    rw [List.map_cons, List.nodup_cons] at hn
    by_cases h : p.1 = a
    · have e : z.1 = c.key a := by rw [h1, h]
      have no : c.key a ∉ zs.map (·.1) := by
        rw [relD_fst h3]
        intro y
        obtain ⟨a', ha, ea⟩ := List.mem_map.mp y
        rw [c.inj _ _ ea, ← h] at ha
        exact hn.1 ha
      unfold putK
      rw [List.any_cons, decide_eq_true e, Bool.true_or, if_pos rfl, putA, if_pos h, List.map_cons, if_pos e, setK_same no]
      exact ⟨⟨h1, hb⟩, h3⟩
    · have ne : ¬ z.1 = c.key a := fun e => h (c.inj _ _ (by rw [← h1, e]))
      rw [putK_neg ne, putA, if_neg h]
      exact ⟨⟨h1, h2⟩, relD_put hb h3 hn.2⟩
  | [], _ :: _, h, _ => h.elim
  | _ :: _, [], h, _ => h.elim
end
/-- a dict that stays -/
def fDI {α β : Type} [DecidableEq α] (d : α → PyData) [c : NumK d] (R : β → VP) : List (α × β) → VP := fun kvs v F => ∃ D zs, v = .ref D ∧ Rd F D (.dK zs) ∧ RelD d R zs kvs F ∧ (kvs.map (·.1)).Nodup
instance {α β : Type} [DecidableEq α] {d : α → PyData} [NumK d] {R : β → VP} [∀ b, Mono (R b)] {kvs : List (α × β)} : Mono (fDI d R kvs) := ⟨fun _ _ _ e ⟨D, zs, h, h1, r, n⟩ => ⟨D, zs, h, rd_up e h1, relD_up e r, n⟩⟩
/-- one's own -/
def ownDI {α β : Type} [DecidableEq α] (d : α → PyData) [c : NumK d] (R : β → VP) (kvs : List (α × β)) : Addr → HO → Hp → Prop := fun _ o F => ∃ zs, o = .dK zs ∧ RelD d R zs kvs F ∧ (kvs.map (·.1)).Nodup
/-! ### new things of one's own -/
structure TrM {ε γ : Type} (Z : Wsh ε) (ρ : List (Option VP)) (κ : List Ow) (te : TE) (m : Wm ε γ) (ow : γ → Addr → HO → Hp → Prop) : Prop where
  run : ∀ σ F L, SatV ρ σ F → SatC κ σ F L → ∀ Q X, m Q X → ∀ F1 N H, Same F F1 → At F1 (L ++ N) H → WishOk Z F1 N X → ∀ Qk : VK, (∀ a o F2 H2 g, Same F1 F2 → At F2 ((a, o) :: (L ++ N)) H2 → (∀ F', Same F2 F' → ow g a o F') → Q g → Qk (.ref a) H2) → te σ H Qk
/-- a thing of one's own, looked at as a value -/
class Bor {γ : Type} (ow : γ → Addr → HO → Hp → Prop) (fam : outParam (γ → VP)) : Prop where
  mono : ∀ g, Mono (fam g)
  bor : ∀ g a o F, F a = none → (∀ F', Same F F' → ow g a o F') → fam g (.ref a) (upd F a o)
instance {α : Type} {R : α → VP} [∀ a, Mono (R a)] : Bor (fun xs : List α => ownL (xs.map R)) (fLn R) := ⟨inferInstance, fun g a o F h q => by
  obtain ⟨vs, rfl, r⟩ := q F (Same.refl _)
  exact ⟨a, vs, rfl, upd_same, MonoL.mono _ _ _ (same_new h) r⟩⟩
instance {α β : Type} [DecidableEq α] {d : α → PyData} [NumK d] {R : β → VP} [∀ b, Mono (R b)] : Bor (ownDI d R) (fDI d R) := ⟨inferInstance, fun g a o F h q => by
  obtain ⟨zs, rfl, r, n⟩ := q F (Same.refl _)
  exact ⟨a, zs, rfl, .inl upd_same, relD_up (same_new h) r, n⟩⟩
section
variable {ε α β γ δ S T : Type} {Z : Wsh ε} {ρ : List (Option VP)} {κ : List Ow} {K : PySem.W.Frag} {td ty tv te ta tb : TE} {t u : TS} {i j : Nat} {R : β → VP} {Rd : δ → VP} {ow : γ → Addr → HO → Hp → Prop} {fam : γ → VP} {g : γ} {ρ2 : S → List (Option VP)} {κ2 : S → List Ow}
theorem TrN.m {Ra : α → VP} {ml : Wm ε (List α)} (h : TrN Z ρ κ te ml Ra) : TrM Z ρ κ te ml (fun xs => ownL (xs.map Ra)) :=
  have := h.mono
  ⟨fun σ F L s c Q X q F1 N H e A wsh Qk qk => h.run σ F L s c Q X q F1 N H e A wsh Qk fun a vs F2 H2 xs e2 A2 r q1 => qk a _ F2 H2 xs e2 A2 (fun F' e' => ⟨vs, rfl, MonoL.mono _ _ _ e' r⟩) q1⟩
/-- x = a new thing -/
theorem ts_newM {m : Wm ε γ} {mk : γ → Ws ε S δ} (i : Nat) (h : TrM Z ρ κ te m ow) (f : freeCs [i] κ = true) (hi : Nat.blt i ρ.length = true) (k : ∀ g, TrS Z (st ρ i none) (.one i (ow g) :: κ) u (mk g) ρ2 κ2 Rd) :
    TrS Z ρ κ (tSeq (tAsg te (gName i)) u) (fun Nx Rt X => m (fun g => mk g Nx Rt X) X) ρ2 κ2 Rd :=
  ⟨fun σ F L sv sc Nx Rt X q F1 N H e A wsh D nx rt => h.run σ F L sv sc _ X q F1 N H e A wsh _ fun a o F2 H2 g e2 A2 r q1 => by
    have e12 := e.trans e2
    refine (k g).run (σ.set i (some (.ref a))) F2 ((a, o) :: L) (satV_none (satV_up e12 sv)) ⟨a, o, L, rfl, ?_, r, satC_agree (js := [i]) (fun l hl => List.getElem?_set_ne fun z => hl (by rw [z]; exact List.mem_singleton.mpr rfl)) f (satC_up e12 sc)⟩ Nx Rt X q1 F2 N H2 (Same.refl _) A2 (wsh.up e2) D
      (fun σ3 F3 L3 H3 e3 A3 n => nx σ3 F3 L3 H3 (e2.trans e3) A3 n) fun v F3 H3 e3 A3 n => rt v F3 H3 (e2.trans e3) A3 n
    rw [List.getElem?_set_self (by rw [← sat_len sv]; exact Nat.le_of_ble_eq_true hi)]⟩
/-- x, y = two new things -/
theorem ts_par2M {γ' : Type} {ow' : γ' → Addr → HO → Hp → Prop} {ma : Wm ε γ} {mb : Wm ε γ'} {mk : γ → γ' → Ws ε S δ} (ha : TrM Z ρ κ ta ma ow) (hb : TrM Z ρ κ tb mb ow') (f : freeCs [i, j] κ = true) (hij : Nat.beq i j = false) (hi : Nat.blt i ρ.length = true) (hj : Nat.blt j ρ.length = true)
    (k : ∀ g g', TrS Z (st (st ρ i none) j none) (.one j (ow' g') :: .one i (ow g) :: κ) u (mk g g') ρ2 κ2 Rd) :
    TrS Z ρ κ (tSeq (tPar i j (tCons ta (tCons tb tNil))) u) (fun Nx Rt X => ma (fun g => mb (fun g' => mk g g' Nx Rt X) X) X) ρ2 κ2 Rd :=
  ⟨fun σ F L sv sc Nx Rt X q F1 N H e A wsh D nx rt => by
    show ta σ H (fun v H1 => tb σ H1 fun v' H2 => ∃ v1 w1, [v, v'] = [v1, w1] ∧ u D ((σ.set i (some v1)).set j (some w1)) H2)
    refine ha.run σ F L sv sc _ X q F1 N H e A wsh _ fun a o F2 H2 g e2 A2 r q1 => ?_
    have P0 : ((a, o) :: (L ++ N)).Perm (L ++ ((a, o) :: N)) := List.perm_middle.symm
    have e12 := e.trans e2
    refine hb.run σ F2 L (satV_up e12 sv) (satC_up e12 sc) _ X q1 F2 ((a, o) :: N) H2 (Same.refl _) (A2.perm P0) (wsh.up e2).push1 _ fun b o' F3 H3 g' e3 A3 r' q2 => ⟨.ref a, .ref b, rfl, ?_⟩
    have e13 := e12.trans e3
    have A4 : At F3 ((b, o') :: (a, o) :: L ++ N) H3 := A3.perm (List.Perm.cons _ List.perm_middle)
    have hne : j ≠ i := fun z => by rw [z, Nat.beq_refl] at hij; cases hij
    have li : i < σ.length := by rw [← sat_len sv]; exact Nat.le_of_ble_eq_true hi
    have lj : j < σ.length := by rw [← sat_len sv]; exact Nat.le_of_ble_eq_true hj
    have c3 : SatC κ ((σ.set i (some (.ref a))).set j (some (.ref b))) F3 L := satC_agree (js := [i, j]) (fun l hl => by
      rw [List.mem_cons, List.mem_singleton, not_or] at hl
      rw [List.getElem?_set_ne (fun z => hl.2 z.symm), List.getElem?_set_ne (fun z => hl.1 z.symm)]) f (satC_up e13 sc)
    refine (k g g').run _ F3 ((b, o') :: (a, o) :: L) (satV_none (satV_none (satV_up e13 sv))) ⟨b, o', _, rfl, ?_, r', a, o, L, rfl, ?_, fun F' e' => r F' (e3.trans e'), c3⟩ Nx Rt X q2 F3 N H3 (Same.refl _) A4 (wsh.up (e2.trans e3)) D
      (fun σ4 F4 L4 H4 e4 A4 n => nx σ4 F4 L4 H4 ((e2.trans e3).trans e4) A4 n) fun v F4 H4 e4 A4 n => rt v F4 H4 ((e2.trans e3).trans e4) A4 n
    · rw [List.getElem?_set_self (by rw [List.length_set]; exact lj)]
    · rw [List.getElem?_set_ne hne, List.getElem?_set_self li]⟩
end
section
variable {ε α β δ S : Type} [DecidableEq α] {d : α → PyData} [c : NumK d] {Z : Wsh ε} {ρ : List (Option VP)} {κ : List Ow} {K : PySem.W.Frag} {td ty tv te : TE} {u : TS} {i : Nat} {R : β → VP} {Rd : δ → VP} {kvs : List (α × β)} {ρ2 : S → List (Option VP)} {κ2 : S → List Ow} {mv : Wm ε β} {mk : Wm ε α} {md : Wm ε (List (α × β))}
theorem tm_dnew [∀ b, Mono (R b)] : TrM Z ρ κ tDNewK (pur ([] : List (α × β))) (ownDI d R) :=
  ⟨fun σ F L s cc Q X q F1 N H e A wsh Qk qk p hp => qk p (.dK []) F1 _ [] (Same.refl _) (A.cell hp) (fun _ _ => ⟨[], rfl, True.intro, List.nodup_nil⟩) q⟩
theorem tr_dnotin [∀ b, Mono (R b)] (hk : TrE Z ρ κ ty mk (fD K d)) (hd : TrE Z ρ κ td md (fDI d R)) : TrE Z ρ κ (tDNotIn ty td) (fun Q X => mk (fun a => md (fun kvs => Q (!(getA kvs a).isSome)) X) X) (fD K dB) :=
  ⟨inferInstance, fun σ F L s cc Q X q => rw_bind (k := ty σ) (hk.run σ F L s cc _ X q) fun y F1 e1 ⟨a, q1, hy⟩ => rw_bind (k := td σ) (k2 := fun x H2 Q => ∃ a o, x = .ref a ∧ DGet H2 a y o ∧ Q (V.bl (!o.isSome)) H2) (hd.run σ F1 L (satV_up e1 s) (satC_up e1 cc) _ X q1) fun x F2 e2 ⟨kvs, q2, hx⟩ => .of fun F3 N H e A Qk qk => by
    obtain ⟨D, zs, rfl, hD, hr, hn⟩ := hx
    have ey := c.val hy
    subst ey
    refine ⟨D, _, rfl, .inl ⟨zs, _, rd_up (e.trans A.ex) hD, rfl, rfl⟩, qk _ F3 H (Same.refl _) A ⟨_, q2, ?_⟩⟩
    have : (valV zs (c.key a)).isSome = (getA kvs a).isSome := by
      rcases relD_get hr a with ⟨g1, g2⟩ | ⟨b', v, g1, g2, g3⟩
      · rw [g1, g2]; rfl
      · rw [g1, g2]; rfl
    rw [this]; exact .bl _⟩
end
end Tw

/-! Td1: comprehensions of two fors. -/
namespace Tw
open PySem PySem.Spec PyProof.Rows L2 SlX StX Rs Ma Sn
variable [Rs.Tabz]
section
variable {ε β γ δ : Type} {Z : Wsh ε} {ρ : List (Option VP)} {κ : List Ow} {wi wi1 : TI} {g g1 : TG} {tt tt1 : TT} {te : TE} {Rd : δ → VP}
end
end Tw

/-! Td2: data taken out of things of one's own; triples. -/
namespace Tw
open PySem PySem.Spec PyProof.Rows L2 SlX StX Rs Ma Sn
variable [Rs.Tabz]
mutual
/-- no list within -/
def noList : PyData → Bool
  | .list _ => false
  | .tuple ds => noLists ds
  | .dict _ => false
  | _ => true
def noLists : List PyData → Bool
  | [] => true
  | d :: ds => noList d && noLists ds
end
theorem noLists_map {α : Type} {d : α → PyData} (h : ∀ a, noList (d a) = true) : ∀ xs : List α, noLists (xs.map d) = true
  | [] => rfl
  | x :: xs => by rw [List.map_cons, noLists, h, noLists_map h xs]; rfl
class NoL {α : Type} (d : α → PyData) : Prop where
  no : ∀ a, noList (d a) = true
instance : NoL dN := ⟨fun _ => rfl⟩
instance : NoL dInt := ⟨fun _ => rfl⟩
instance : NoL dB := ⟨fun _ => rfl⟩
instance : NoL dS := ⟨fun _ => rfl⟩
instance : NoL dU := ⟨fun _ => rfl⟩
instance {α : Type} {d : α → PyData} [h : NoL d] : NoL (dT d) := ⟨fun xs => by rw [dT, noList]; exact noLists_map h.no xs⟩
instance {α β : Type} {d : α → PyData} {e : β → PyData} [h : NoL d] [g : NoL e] : NoL (dP d e) := ⟨fun p => by rw [dP, noList, noLists, noLists, noLists, h.no, g.no]; rfl⟩
instance {α β γ : Type} {d : α → PyData} {e : β → PyData} {f : γ → PyData} [h : NoL d] [g : NoL e] [i : NoL f] : NoL (dP3 d e f) := ⟨fun p => by rw [dP3, noList, noLists, noLists, noLists, noLists, h.no, g.no, i.no]; rfl⟩
/-- the heap told without a -/
def cutF (F : Hp) (a : Addr) : Hp := fun b => if b = a then none else F b
section
variable {K : PySem.W.Frag} {F : Hp} {a : Addr} {o : HO}
theorem sqT_cut (h1 : F a = some o) (h2 : ∀ xs, o ≠ .tup xs) (h3 : ∀ o' u, o ≠ .frz o' u) {b : Addr} {xs : List V} (h : SqT K F b xs) : SqT K (cutF F a) b xs := by
  rcases h with (h | ⟨u, h⟩) | h
  · refine .inl (.inl ?_)
    have : b ≠ a := fun z => by
      rw [z, h1] at h
      exact h2 _ (Option.some.inj h)
    show (if b = a then none else F b) = _
    rw [if_neg this, h]
  · refine .inl (.inr ⟨u, ?_⟩)
    have : b ≠ a := fun z => by
      rw [z, h1] at h
      exact h3 _ _ (Option.some.inj h)
    show (if b = a then none else F b) = _
    rw [if_neg this, h]
  · exact .inr h
mutual
theorem dp_cut (h1 : F a = some o) (h2 : ∀ xs, o ≠ .tup xs) (h3 : ∀ o' u, o ≠ .frz o' u) : ∀ (d : PyData) (v : V), noList d = true → Dp K F v d → Dp K (cutF F a) v d
  | .none, _, _, h => by cases h; exact .non
  | .bool b, _, _, h => by cases h; exact .bl b
  | .int i, _, _, h => by cases h; exact .int i
  | .str x, _, _, h => by cases h; exact .str x
  | .list ds, _, n, _ => by cases n
  | .dict _, _, n, _ => by cases n
  | .tuple ds, _, n, h => by
    cases h with
    | tup hs ha => exact .tup (sqT_cut h1 h2 h3 hs) (dps_cut h1 h2 h3 ds _ n ha)
theorem dps_cut (h1 : F a = some o) (h2 : ∀ xs, o ≠ .tup xs) (h3 : ∀ o' u, o ≠ .frz o' u) : ∀ (ds : List PyData) (vs : List V), noLists ds = true → DpAll K F vs ds → DpAll K (cutF F a) vs ds
  | [], _, _, h => by cases h; exact .nil
  | d :: ds, _, n, h => by
    rw [noLists, Bool.and_eq_true] at n
    cases h with
    | cons x1 x2 => exact .cons (dp_cut h1 h2 h3 d _ n.1 x1) (dps_cut h1 h2 h3 ds _ n.2 x2)
end
end
/-- what is told of such values does not lean on lists, dicts -/
class Cut {δ : Type} (R : δ → VP) : Prop where
  cut : ∀ d v F a o, F a = some o → (∀ xs, o ≠ .tup xs) → (∀ o' u, o ≠ .frz o' u) → R d v F → R d v (cutF F a)
instance {K : PySem.W.Frag} {α : Type} {d : α → PyData} [h : NoL d] : Cut (fD K d) := ⟨fun x v F a o h1 h2 h3 r => dp_cut h1 h2 h3 (d x) v (h.no x) r⟩
class NotFrz {γ : Type} (ow : γ → Addr → HO → Hp → Prop) : Prop where
  no : ∀ g a o F, ow g a o F → ∀ o' u, o ≠ .frz o' u
instance {α : Type} {R : α → VP} : NotFrz (fun xs : List α => ownL (xs.map R)) := ⟨fun g a o F ⟨vs, h, _⟩ o' u z => by rw [h] at z; cases z⟩
instance {α β : Type} [DecidableEq α] {d : α → PyData} [NumK d] {R : β → VP} : NotFrz (ownDI d R) := ⟨fun g a o F ⟨zs, h, _⟩ o' u z => by rw [h] at z; cases z⟩
section
variable {ε α β γ δ : Type} {Z : Wsh ε} {ρ : List (Option VP)} {κ : List Ow} {K : PySem.W.Frag} {te ta tb tc : TE} {i : Nat} {Rd : δ → VP} {ow : γ → Addr → HO → Hp → Prop} {fam : γ → VP} {g : γ}
theorem tr_borT [b : Bor ow fam] [nf : NotFrz ow] {mm : Wm ε δ} [Cut Rd] (h : TrE Z (st ρ i (some (fam g))) κ te mm Rd) (f : freeCs [i] κ = true) (hi : Nat.blt i ρ.length = true) (hX : ∀ Q X, mm Q X → mm Q (fun _ => False)) : TrE Z ρ (.one i (ow g) :: κ) te mm Rd :=
  ⟨h.mono, fun σ F L sv sc Q X q F1 N H e A wsh Qk qk => by
    obtain ⟨a, o, L', hL, h1, h2, h3⟩ := sc
    subst hL
    have A1 : At F1 ((a, o) :: (L' ++ N)) H := A
    have nt : ∀ xs, o ≠ .tup xs := A1.nt (a, o) List.mem_cons_self
    have nz := nf.no g a o F1 (h2 F1 e)
    have e1 : Same F1 (upd F1 a o) := same_new A1.off1
    have sv1 : SatV (st ρ i (some (fam g))) (σ.set i (some (.ref a))) (upd F1 a o) := satV_set (b.bor g a o F1 A1.off1 fun F' e' => h2 F' (e.trans e')) (b.mono g) (satV_up (e.trans e1) sv)
    have eσ : σ.set i (some (.ref a)) = σ := by
      apply List.ext_getElem?
      intro j
      by_cases hj : i = j
      · subst hj
        rw [List.getElem?_set_self (by rw [← sat_len sv]; exact Nat.le_of_ble_eq_true hi), h1]
      · rw [List.getElem?_set_ne hj]
    rw [eσ] at sv1
    refine h.run σ (upd F1 a o) L' sv1 (satC_up (e.trans e1) h3) Q _ (hX Q X q) (upd F1 a o) N H (Same.refl _) A1.keep (fun _ _ _ _ _ _ _ _ _ _ z => z.elim) Qk fun v F2 H2 e2 A2 ⟨d, q2, r⟩ => ?_
    have A3 := At.unkeep (F := F1) (o := o) nt (A1.nb (a, o) List.mem_cons_self) (A1.nc (a, o) List.mem_cons_self) e2 A2
    refine qk v _ H2 (fun b u hb => ?_) A3 ⟨d, q2, Cut.cut d v F2 a o (e2 _ _ upd_same) nt nz r⟩
    have hne : b ≠ a := ne_of_none hb A1.off1
    show (if b = a then none else F2 b) = some u
    rw [if_neg hne]
    exact e2 b u (e1 b u hb)⟩
/-! triples -/
theorem each3' {R1 R2 R3 : VP} {vs : List V} {F : Hp} (h : Each [R1, R2, R3] vs F) : ∃ x y z, vs = [x, y, z] ∧ R1 x F ∧ R2 y F ∧ R3 z F := by
  match vs, h with
  | [x, y, z], h => exact ⟨x, y, z, rfl, h.1, h.2.1, h.2.2.1⟩
variable {d : α → PyData} {e : β → PyData} {f : γ → PyData} {ma : Wm ε α} {mb : Wm ε β} {mc : Wm ε γ} {mp : Wm ε (α × β × γ)}
end
end Tw

/-! Sn9: sorted of a set of nested keys. -/
namespace Tw
open PySem PySem.Spec PyProof.Rows L2 SlX StX Rs Ma Sn
variable [Rs.Tabz]
section
variable {X : Cx}
variable {e : Expr} {es : List Expr} {t : TA} {p pos : Pos}
end
end Tw

/-! Te0: repr of data; what is taken off a list's end; a dict made of pairs; two places of a dict at once; triples as rows. -/
namespace Tw
open PySem PySem.Spec PyProof.Rows L2 SlX StX Rs Ma Sn
variable [Rs.Tabz]
/-! ### repr -/
/-- a text can be made of it -/
def Sayable (d : PyData) : Prop := d.showable = true ∧ d.hasDict = false ∧ d.depth ≤ 60 ∧ d.shown.length ≤ sizeLine
def rReprD (K : PySem.W.Frag) : List V → Hp → VK → Prop := fun xs H Q => ∃ a d, xs = [.ref a] ∧ Dp K H (.ref a) d ∧ Sayable d ∧ Q (.str d.shown) H
section
variable {X : Cx}
theorem cr_repr (hg : X.A.guards = some []) (hu : X.A.units + 64 < cLine) : CallR X (.builtin "repr") (rReprD X.K) := by
  intro pins s σ H vs us Q I r h
  obtain ⟨a, d, rfl, hd, ⟨h1, h2, h3, h4⟩, q⟩ := h
  rw [Vals.ref1 r]
  obtain ⟨as, rd⟩ := Dp.reads I d _ _ hd (show RelV (.ref a) (.ref a) from rfl)
  exact repr_of_reads' rd h1 (PyData.noDict_hsm h2) hg (by omega) (fun _ _ e => e) (fun h' u tk k => ⟨.str _, H, I.kept k, ⟨u, rfl⟩, q⟩) h4
variable {e : Expr} {es : List Expr} {t : TA} {p pos : Pos}
theorem p_repr (hgu : X.A.guards = some []) (hu : X.A.units + 64 < cLine) (B : Bf X.mg) (ha : PA X (e :: es) t) (hg : Gl X "repr" := by rfl) (he : starEach (e :: es) X.env = (false, eval e X.env) :: starEach es X.env := by rfl) (hpl : (backTo pos (starEach es X.env)).any (·.1) = false := by rfl) :
    PE X (.Call (.Name "repr" p) (e :: es) [] pos) (tCB (rReprD X.K) t) := pe_callB (cr_repr hgu hu) hg B.repr boot_repr ha (by decide) (by decide) he hpl
end
/-- lists and tuples -/
class Shown {α : Type} (d : α → PyData) : Prop where
  ref : ∀ a (K : PySem.W.Frag) (F : Hp) v, Dp K F v (d a) → ∃ p, v = .ref p
instance {α : Type} {d : α → PyData} : Shown (dT d) := ⟨fun a K F v h => by cases h; exact ⟨_, rfl⟩⟩
instance {α : Type} {d : α → PyData} : Shown (dL d) := ⟨fun a K F v h => by cases h; exact ⟨_, rfl⟩⟩
instance {α β : Type} {d : α → PyData} {e : β → PyData} : Shown (dP d e) := ⟨fun a K F v h => by cases h; exact ⟨_, rfl⟩⟩
theorem c_repr {ε α : Type} {K : PySem.W.Frag} {d : α → PyData} [s : Shown d] : Cb ε (rReprD K) (fun a : α => [fD K d a]) (fun a Q X => Sayable (d a) ∧ Q (d a).shown) (fD K dS) := .of fun g vs F L hv Q X ⟨q0, q1⟩ => by
  obtain ⟨v, rfl, hx⟩ := each1 hv
  obtain ⟨p, rfl⟩ := s.ref _ _ _ _ hx
  exact ⟨_, q1, fun F1 N H e A Qk qk => ⟨p, d g, rfl, dp_up (e.trans A.ex) hx, q0, qk _ F1 H (Same.refl _) A (.str _)⟩⟩
/-! ### a triple as a row -/
section
variable {ε α β γ δ S : Type} {Z : Wsh ε} {ρ : List (Option VP)} {κ : List Ow} {K : PySem.W.Frag} {te ta tb tx ty : TE} {t u : TS} {i j : Nat} {R : α → VP} {Rd : δ → VP} {ρ2 : S → List (Option VP)} {κ2 : S → List Ow}
theorem tr_P2T {d : α → PyData} {m : Wm ε (α × α)} (h : TrE Z ρ κ te m (fD K (dP d d))) : TrE Z ρ κ te (fun Q X => m (fun p => Q [p.1, p.2]) X) (fD K (dT d)) :=
  ⟨inferInstance, fun σ F L s c Q X q => (h.run σ F L s c _ X q).weak fun v F2 e ⟨p, q1, r⟩ => ⟨_, q1, r⟩⟩
/-! ### x = ys.pop() -/
end
/-! ### a dict made of pairs -/
def rDictP (K : PySem.W.Frag) : List V → Hp → VK → Prop := fun xs H Q => ∃ (a : Addr) (ps : List Addr) (kvs : List (Key × V)), xs = [.ref a] ∧ SqL K H a (ps.map V.ref) ∧ Paired (fun p kv => SqT K H p [kV kv.1, kv.2]) ps kvs ∧ ∀ p, H p = none → Q (.ref p) (upd H p (.dK (mergeK [] kvs)))
section
variable {X : Cx} {e : Expr} {es : List Expr} {t : TA} {p pos : Pos}
theorem p_dictP (hc : X.calm = true) (B : Bf X.mg) (ha : PA X (e :: es) t) (hg : Gl X "dict" := by rfl) (he : starEach (e :: es) X.env = (false, eval e X.env) :: starEach es X.env := by rfl) (hpl : (backTo pos (starEach es X.env)).any (·.1) = false := by rfl) :
    PE X (.Call (.Name "dict" p) (e :: es) [] pos) (tCB (rDictP X.K) t) := pe_callTy (call_dictP hc) hg B.dict boot_dict ha (by decide) (by decide) he hpl
end
section
variable {α β : Type} [DecidableEq α] {d : α → PyData} [c : NumK d] {F F' : Hp}
theorem relD_merge {R : β → VP} : ∀ {more : List (Key × V)} {xs : List (α × β)} {zs : List (Key × V)} {ps : List (α × β)}, RelD d R more xs F → RelD d R zs ps F → (ps.map (·.1)).Nodup → RelD d R (mergeK zs more) (putsA ps xs) F ∧ ((putsA ps xs).map (·.1)).Nodup
  | [], [], _, _, _, h, n => ⟨h, n⟩
  | z :: more, x :: xs, zs, ps, ⟨⟨h1, h2⟩, h3⟩, h, n => by
    have := relD_merge (zs := putK zs z.1 z.2) (ps := putA ps x.1 x.2) h3 (by rw [h1]; exact relD_put h2 h n) (putA_nodup n).1
    exact this
  | [], _ :: _, _, _, h, _, _ => h.elim
  | _ :: _, [], _, _, h, _, _ => h.elim
theorem pairs_at {K : PySem.W.Frag} {b : β → PyData} : ∀ {xs : List (α × β)} {vs : List V}, Each (xs.map (fD K (dP d b))) vs F → ∃ ps kvs, vs = ps.map V.ref ∧ (∀ F', Same F F' → Paired (fun p kv => SqT K F' p [kV kv.1, kv.2]) ps kvs) ∧ RelD d (fD K b) kvs xs F
  | [], [], _ => ⟨[], [], rfl, fun _ _ => .nil, True.intro⟩
  | x :: xs, v :: vs, h => by
    obtain ⟨ps, kvs, e, h1, h2⟩ := pairs_at (xs := xs) h.2
    have h0 : Dp K F v (.tuple [d x.1, b x.2]) := h.1
    cases h0 with
    | @tup a us _ hs ha =>
      cases ha with
      | cons q1 q2 =>
        cases q2 with
        | cons q3 q4 =>
          cases q4
          have ev := c.val q1
          subst ev
          refine ⟨a :: ps, (c.key x.1, _) :: kvs, by rw [e]; rfl, fun F' e' => .cons (sqT_up e' hs) (h1 F' e'), ⟨rfl, q3⟩, h2⟩
  | [], _ :: _, h => h.elim
  | _ :: _, [], h => h.elim
end
section
variable {ε α β δ S : Type} [DecidableEq α] {d : α → PyData} [c : NumK d] {Z : Wsh ε} {ρ : List (Option VP)} {κ : List Ow} {K : PySem.W.Frag} {te ta tb tx ty : TE} {u : TS} {i : Nat} {R : β → VP} {Rd : δ → VP} {kvs : List (α × β)} {ρ2 : S → List (Option VP)} {κ2 : S → List Ow}
theorem tm_dictP {b : β → PyData} {ml : Wm ε (List (α × β))} (h : TrE Z ρ κ te ml (fLn (fD K (dP d b)))) : TrM Z ρ κ (tCB (rDictP K) (tCons te tNil)) (fun Q X => ml (fun xs => Q (putsA [] xs)) X) (ownDI d (fD K b)) :=
  ⟨fun σ F L s cc Q X q F1 N H e A wsh Qk qk => h.run σ F L s cc _ X q F1 N H e A wsh _ fun v F2 H2 e2 A2 ⟨xs, q1, r⟩ => by
    obtain ⟨a, vs, rfl, hl, hv⟩ := r
    obtain ⟨ps, kvs, rfl, h1, h2⟩ := pairs_at hv
    refine ⟨a, ps, kvs, rfl, .inl (.inl (A2.ex _ _ hl)), h1 _ A2.ex, fun p hp => ?_⟩
    obtain ⟨g1, g2⟩ := relD_merge (zs := []) (ps := []) h2 True.intro List.nodup_nil
    exact qk p _ F2 _ (putsA [] xs) e2 (A2.cell hp) (fun F' e' => ⟨_, rfl, relD_up e' g1, g2⟩) q1⟩
/-! ### x[a], x[b] = y, z -/
theorem putA_len {α β : Type} [DecidableEq α] {a : α} {b : β} : ∀ {ps : List (α × β)}, (putA ps a b).length ≤ ps.length + 1
  | [] => Nat.le_refl _
  | p :: ps => by
    rw [putA]
    split
    · simp
    · have := putA_len (a := a) (b := b) (ps := ps)
      simp only [List.length_cons]; omega
end
/-! ### f(e, .., *y) -/
section
variable {X : Cx} {e : Expr} {es : List Expr} {t : TA} {p pos : Pos} {f : Str}
end
end Tw

/-! Te1: promises of defs that are called where no repr is under way. -/
namespace Tw
open PySem PySem.Spec PyProof.Rows L2 SlX StX Rs Ma Sn
variable [Rs.Tabz]
structure FnG (P : Program) (w : World) (K : PySem.W.Frag) (mg : Str → Option Value) (base : Heap) (k : Nat) (f : Addr) (fd : FuncData) (ps : List Str) (sp : Sp) : Prop where
  len : ∀ vs H Q E, sp vs H Q E → vs.length = ps.length
  run : ∀ (A : Around) (outer : List Env) (s : Shared) (H : Hp) (args : Args) (us : List Value) (vs : List V) (Q : VK) (E : XK), A.guards = some [] → Room k A → Env0 P w K mg base A outer s H → BindsTo s fd args (ps.zip us) → Vals vs us → sp vs H Q E →
    codeAny (model P w) A (.call (.ref f) args) (CR CX0 outer P w H s Q E) s
theorem FnG.imp {P : Program} {w : World} {K : PySem.W.Frag} {mg : Str → Option Value} {base : Heap} {k : Nat} {f : Addr} {fd : FuncData} {ps : List Str} {sp sp' : Sp} (F : FnG P w K mg base k f fd ps sp) (h : ∀ vs H Q E, sp' vs H Q E → sp vs H Q E) : FnG P w K mg base k f fd ps sp' :=
  ⟨fun vs H Q E q => F.len vs H Q E (h _ _ _ _ q), fun A outer s H args us vs Q E hg hr e0 hb r q => F.run A outer s H args us vs Q E hg hr e0 hb r (h _ _ _ _ q)⟩
structure GfG (P : Program) (w : World) (K : PySem.W.Frag) (mg : Str → Option Value) (base : Heap) (k : Nat) (x : Str) (sp : Sp) : Prop where
  ex : ∃ f fd ps, FnG P w K mg base k f fd ps sp ∧ mg x = some (.ref f) ∧ PySem.W.keepIn K (.ref f) = true ∧ Binds K fd ps []
section
variable {X : Cx} {e : Expr} {es : List Expr} {t : TA} {p pos : Pos} {f : Str}
theorem p_callG {k j : Nat} {sp : Sp} (c : GfG X.prog X.w X.K X.mg X.base k f sp) (hgu : X.A.guards = some []) (hr : Room j X.A) (hk : k ≤ j) (ha : PA X (e :: es) t) (hg : Gl X f := by rfl)
    (hdb : (f == ("__debug__" : Str)) = false := by decide) (he : starEach (e :: es) X.env = (false, eval e X.env) :: starEach es X.env := by rfl) (hpl : (backTo pos (starEach es X.env)).any (·.1) = false := by rfl) :
    PE X (.Call (.Name f p) (e :: es) [] pos) (tCall sp [] E0 t) := by
  obtain ⟨g, fd, ps, F, hm, kp, b⟩ := c.ex
  refine ⟨fun pins s σ H Q I h => wpAny_Call_Name_kw (ld_glob I hg hm ?_ hdb)⟩
  refine PySem.W.callWith_K (h₀ := X.base) I.ok.mod.kin kp (thn (ha.run pos pins s σ H _ I h) fun us s1 ⟨vs, H1, I1, r, q⟩ => ⟨I1.kIn, ?_⟩) he hpl
  have q' : sp vs H1 Q E0 := by rw [← List.append_nil vs]; exact q
  have hl : (us ++ []).length = ps.length := by rw [List.append_nil, ← r.length]; exact F.len _ _ _ _ q'
  refine wpAny_call (codeAny_mono (F.run X.A X.stack s1 H1 ⟨us, []⟩ (us ++ []) vs Q E0 hgu (hr.mono hk) I1.env0 (b s1 us I1.kIn hl) (by rw [List.append_nil]; exact r) q') fun z s' hq => ?_)
  match z, hq with
  | .error err, hq => exact pass0 pins σ H1 s1 err s' I1 hq
  | .ok (.ret u), hq => exact I1.after hq
end
section
variable {P : Program} {w : World} {K : PySem.W.Frag} {mg : Str → Option Value} {base : Heap}
theorem fnG_of {x qual : Str} {st : Stmt} {f : Addr} {fd : FuncData} {N ps : List Str} {k : Nat} {sp : Sp} (F : Fun K x qual st f fd) (S : FnScope N ps (defScope st)) (len : ∀ vs H Q E, sp vs H Q E → vs.length = ps.length)
    (hbody : ∀ (cdv : Value), fd.code = cdv → ∀ (A : Around) (outer : List Env) (s : Shared) (H : Hp) (vs : List V) (Q : VK) (E : XK), A.guards = some [] → Room k (A.deeper (envOfC qual (defScope st) s.heap.objs.size f cdv)) → sp vs H Q E →
      ∃ t, PSs (cxOf CX0 P w K mg base N qual (defScope st) f cdv A outer s H E).nox (defBody st) t ∧ t { nx := fun _ H' => Q .non H', rt := Q } (start N vs) H) : FnG P w K mg base (k + 1) f fd ps sp := by
  obtain ⟨oc, od, kV, doc, pm, an, cdv, ct, osl, rfl, lk, hcd⟩ := F.ex
  refine ⟨len, fun A outer s H args us vs Q E hgu hr e0 hb r hsp => ?_⟩
  have stays : ∀ b o, base.get? b = some o → s.heap.get? b = some o := fun b o q => (e0.bs b o q).1
  have KX : K.In s.heap := e0.mod.kin.keeps stays
  have lim := e0.mod.nolimit.keeps stays
  refine codeAny_call_function hr.depth (KX _ _ lk) rfl S.co S.gen rfl (PySem.W.codeRec_of KX hcd) (hb _ _ _ _ (wpAny_newFunctionEnv_cells S.kind (fun y hy => ?_) fun env he s1 x => ?_))
  · rcases S.par y.1 (List.of_mem_zip hy).1 with q | q
    · exact .inl q
    · exact .inr ⟨q, PySem.W.cellsFrom_some _ _ _ (.inl q)⟩
  subst he
  refine ⟨lim.keeps x.toInCall.keep, codeAny_func ?_⟩
  obtain ⟨t, ht, hq⟩ := hbody cdv rfl A outer s H vs Q E hgu (hr.deeper _) hsp
  have I := inv_start (E := E) (CX := CX0) (f := f) (cd := cdv) (N := N) S hr.hd e0 (len _ _ _ _ hsp) r x
  refine wpAny_mono (ht.nox.run [] s1 (start N vs) H _ I hq) (fun fl s' hs => ?_) fun e s' hs => hs
  match fl, hs with
  | .ret u, ⟨v, σ', H', J, rv, q⟩ => exact ⟨v, H', J.os, J.bare, J.base, J.hok, rv, q⟩
  | .next, ⟨σ', H', J, q⟩ => exact ⟨.non, H', J.os, J.bare, J.base, J.hok, rfl, q⟩
  | .brk, ⟨_, _, _, q⟩ => exact q.elim
  | .cont, ⟨_, _, _, q⟩ => exact q.elim
variable {γ δ S : Type}
theorem gwG_ok {x qual : Str} {stt : Stmt} {f : Addr} {fd : FuncData} {N ps : List Str} {k : Nat} {Rs : γ → List VP} {spec : γ → (δ → Prop) → Prop} {R : δ → VP} (F : Fun K x qual stt f fd) (Sc : FnScope N ps (defScope stt)) (len : ∀ g, (Rs g).length = ps.length) (hm : ∀ g, MonoAll (Rs g))
    (body : ∀ (cdv : Value) (A : Around) (outer : List Env) (s : Shared) (H : Hp) (E : XK) (g : γ), A.guards = some [] → Room k (A.deeper (envOfC qual (defScope stt) s.heap.objs.size f cdv)) →
      ∃ t, PSs (cxOf CX0 P w K mg base N qual (defScope stt) f cdv A outer s H E).nox (defBody stt) t ∧ ∃ m : Ws Empty Unit δ, TrS Z0 (ofArgs (Rs g) N.length) [] t m (fun _ => List.replicate N.length none) (fun _ => []) R ∧ ∀ Q, (∃ vs F, Each (Rs g) vs F) → spec g Q → m (fun _ => False) Q X0) :
    FnG P w K mg base (k + 1) f fd ps (SpN Rs spec R) := by
  refine fnG_of F Sc (fun vs H Q E ⟨g, F0, N0, P0, A, hv, q⟩ => (each_length hv).trans (len g)) fun cdv _ A outer s H vs Q E hgu hr ⟨g, F0, N0, P0, A0, hv, hs, q⟩ => ?_
  obtain ⟨t, h1, m, h2, h3⟩ := body cdv A outer s H E g hgu hr
  exact ⟨t, h1, h2.run (start N vs) F0 [] (sat_start (hm g) hv) True.intro _ _ _ (h3 P0 ⟨vs, F0, hv⟩ hs) F0 N0 H (Same.refl _) A0 wish0 _ (fun σ' F' L' H' e' A' ⟨s', n, _⟩ => n.elim) fun v F' H' e' A' ⟨d, pd, r⟩ => q d v F' H' e' A' pd r⟩
theorem gwG_mk {x : Str} {stt : Stmt} {f : Addr} {fd : FuncData} {N ps : List Str} {k : Nat} {Rs : γ → List VP} {spec : γ → (δ → Prop) → Prop} {R : δ → VP} (F : Fun K x x stt f fd) (hmg : mg x = some (.ref f)) (b : Binds K fd ps []) (Sc : FnScope N ps (defScope stt)) (len : ∀ g, (Rs g).length = ps.length) (hm : ∀ g, MonoAll (Rs g))
    (body : ∀ (cdv : Value) (A : Around) (outer : List Env) (s : Shared) (H : Hp) (E : XK) (g : γ), A.guards = some [] → Room k (A.deeper (envOfC x (defScope stt) s.heap.objs.size f cdv)) →
      ∃ t, PSs (cxOf CX0 P w K mg base N x (defScope stt) f cdv A outer s H E).nox (defBody stt) t ∧ ∃ m : Ws Empty Unit δ, TrS Z0 (ofArgs (Rs g) N.length) [] t m (fun _ => List.replicate N.length none) (fun _ => []) R ∧ ∀ Q, (∃ vs F, Each (Rs g) vs F) → spec g Q → m (fun _ => False) Q X0) :
    GfG P w K mg base (k + 1) x (SpN Rs spec R) := ⟨f, fd, ps, gwG_ok F Sc len hm body, hmg, F.kp, b⟩
end
end Tw

/-! Te2: the head of a law whose def is promised where no repr is under way. -/
namespace Tw
open PySem PySem.Spec PyProof.Rows L2 SlX StX Rs Ma Sn
variable [Rs.Tabz]
section
variable {P : Program} {w : World} {K : PySem.W.Frag} {mg mb : Str → Option Value} {k : Nat} {fa a : Addr} {fd : FuncData} {x : Str} {s₁ : Shared} {vs : List Value} {ns : List Int}
/-- the script, told frozen or as the module's own -/
theorem script_told (KX : K.In s₁.heap) (ha : s₁.heap.get? a = some { cls := .type "list", data := .seq vs.toArray }) (hi : IntsAre vs ns) (hl : ns.length ≤ sizeLine) :
    ∃ H : Hp, Only H ∧ SqL K H a (ns.map V.int) ∧ HOk P w H s₁.heap ∧ (∀ b, H b ≠ none → b = a) ∧ (H a ≠ none → K.lookup a = none) := by
  have rv := vals_ints hi
  have lenV := hi.length
  by_cases hk : ∃ o, K.lookup a = some o
  · obtain ⟨o, hk⟩ := hk
    have e := KX a o hk
    rw [ha] at e
    cases e
    exact ⟨fun _ => none, fun _ => .inl rfl, .inr ⟨_, vs.toArray, _, hk, rfl, rfl, rfl, by rw [List.size_toArray, lenV]; exact hl, by simpa using rv⟩, (fun b u z => nomatch (show (none : Option HO) = some u from z)), (fun b z => absurd rfl z), fun z => absurd rfl z⟩
  · have hk' : K.lookup a = none := by
      cases h : K.lookup a with
      | none => rfl
      | some o => exact absurd ⟨o, h⟩ hk
    refine ⟨fun b => if b = a then some (.frz { cls := .type "list", data := .seq vs.toArray } (.lst (ns.map V.int))) else none, fun b => ?_, .inl (.inr ⟨_, if_pos rfl⟩), fun b u z => ?_, fun b z => ?_, fun _ => hk'⟩
    · by_cases h : b = a
      · exact .inr ⟨_, _, if_pos h⟩
      · exact .inl (if_neg h)
    · by_cases h : b = a
      · have z' := (if_pos h).symm.trans z
        cases z'
        subst h
        exact ⟨ha, by rw [List.length_map]; exact hl, vs, _, rv, ha⟩
      · cases (if_neg h).symm.trans z
    · by_cases h : b = a
      · exact h
      · exact absurd (if_neg h) z
theorem law_callG (KX : K.In s₁.heap) (hns : s₁.heap.Ns mainGlobals mg) (hb : s₁.heap.Ns builtinsNs mb) (hbb : ∀ x : Str, x ≠ "__name__" → mb x = bootBuiltins x) (hlim : s₁.heap.NoLimit) (hg : s₁.gens = #[])
    (ha : s₁.heap.get? a = some { cls := .type "list", data := .seq vs.toArray }) (hi : IntsAre vs ns) (hl : ns.length ≤ 63) (hr : Room k callerA) (hz : ∀ P, ¬ Tabz.ts P)
    (F : ∀ base : Heap, K.In base → base.Ns mainGlobals mg → FnG P w K mg base k fa fd [x] (spLaw K)) (hbind : ∀ (s : Shared) (u : Value), BindsTo s fd ⟨[u], []⟩ [(x, u)]) :
    codeAny (model P w) callerA (.call (.ref fa) ⟨[.ref a], []⟩) (fun r s' => r = .ok (.ret (.bool true)) ∧ OldK s₁.heap s'.heap ∧ s'.os = s₁.os ∧ AllBare s'.gens) s₁ := by
  obtain ⟨H, hO, hS, hok, hA, hK⟩ := script_told (P := P) (w := w) KX ha hi (Nat.le_trans hl (by decide))
  have noA : ∀ {b : Addr} {o : Obj}, s₁.heap.get? b = some o → (b = a → False) → H b = none := fun {b o} e ne => by
    cases q : H b with
    | none => rfl
    | some u => exact (ne (hA b (by rw [q]; simp))).elim
  have nsK : ∀ {b : Addr} {m : Str → Option Value}, s₁.heap.Ns b m → (hidT s₁.heap H).Ns b m := fun {b m} ⟨o, es, ep, e, d, r⟩ => ⟨o, es, ep, hidT_get e (noA e fun z => by
    rw [z, ha] at e
    cases e
    cases (show Data.seq vs.toArray _ = Data.dict es ep from d)), d, r⟩
  have hKb : K.In (hidT s₁.heap H) := fun b o e => hidT_get (KX b o e) (by
    cases q : H b with
    | none => rfl
    | some u =>
      have z := hA b (by rw [q]; simp)
      rw [z] at e q
      rw [hK (by rw [q]; simp)] at e
      cases e)
  have hM : Mod K mg (hidT s₁.heap H) := ⟨hKb, nsK hns, ⟨mb, nsK hb, hbb⟩, let ⟨mc, h1, h2⟩ := hlim; ⟨mc, nsK h1, h2⟩⟩
  have nob : ∀ b : Addr, ¬ b ∈ ([] : List Addr) := fun b z => by cases z
  have e0 : Env0 P w K mg (hidT s₁.heap H) callerA [] s₁ H := ⟨rfl, hM, fun b o e => of_hidT e, Nat.le_of_eq (hidT_size _ _), trivial, fun b z => (nob b z).elim, hok, .of_eq hg⟩
  refine codeAny_mono ((F _ hKb (nsK hns)).run callerA [] s₁ H ⟨[.ref a], []⟩ [.ref a] [.ref a] (fun v _ => v = .bl true) (fun _ _ _ => False) rfl hr e0 (hbind s₁ (.ref a)) (.cons rfl .nil) ⟨a, ns, rfl, hS, hl, fun P hP => absurd hP (hz P), fun _ => rfl⟩) fun r s' h => ?_
  match r, h with
  | .error e, h => exact h.elim
  | .ok (.ret u), ⟨v, H', os, bare, un, hok', r', q⟩ =>
    subst q
    cases r'
    refine ⟨rfl, OldK.of_keep fun b o e => ?_, os, bare⟩
    rcases hO b with z | ⟨ob, xs, z⟩
    · exact un.keep b o e z (fun y => (nob b y).elim) (nob b)
    · obtain ⟨e1, _⟩ := hok b _ z
      obtain ⟨e2, _⟩ := hok' b _ (un.frzs b ob _ z)
      rw [e] at e1
      cases e1
      exact e2
end
theorem walkG {l : PySem.W.OpenLaw} {q : Program} {loose : List Str} {XP : (Str → Option Value) → Heap → Prop} {YP : World → Heap → Prop} {d : DefRec} {k : Nat} (hr : Room k callerA) {K : Params → PySem.W.Frag} (hn : l.most = some 63) (hdf : d.params.defaults = []) (hz : ∀ P, ¬ Tabz.ts P)
    (hY : ∀ (w : World) (h : Heap), YP w h → (K w.params).In h)
    (F : ∀ (w : World) (mg : Str → Option Value) (fa : Addr) (h : Heap), (K w.params).In h → h.Ns mainGlobals mg → mg d.name = some (.ref fa) →
      ∃ fd : FuncData, (∀ (s : Shared) (u : Value), BindsTo s fd ⟨[u], []⟩ [("_law_script", u)]) ∧ ∀ base : Heap, (K w.params).In base → base.Ns mainGlobals mg → FnG l.prog w (K w.params) mg base k fa fd ["_law_script"] (spLaw (K w.params))) :
    PySem.W.WalkO q loose XP YP l.row.toRowW d [] (fun f vs => PySem.call f vs) := by
  refine Att.attach_call hn hdf fun w s₀ s₁ mg mb fa o pm cd doc a vs ns G Y ho hd hcd hmg hobj hints hlen hg => ?_
  have KX := hY w _ Y
  obtain ⟨fd, hb, hF⟩ := F w mg fa _ KX G.T.g hmg
  exact law_callG KX G.T.g G.T.b G.T.builtins G.T.nolimit hg hobj hints hlen hr hz hF hb
/-- a promise by a wish, as the law's -/
theorem law_fnG {P : Program} {w : World} {K : PySem.W.Frag} {mg : Str → Option Value} {base : Heap} {k : Nat} {f : Addr} {fd : FuncData} {ps : List Str} (G : FnG P w K mg base k f fd ps (SpN (fun ns : List Int => [fD K (dL dInt) ns]) (fun (ns : List Int) (Q : Bool → Prop) => ns.length ≤ 63 ∧ Q true) (fD K dB))) : FnG P w K mg base k f fd ps (spLaw K) := by
  refine G.imp fun vs H Q E ⟨a, ns, e, hs, hl, tb, q⟩ => ?_
  subst e
  refine ⟨ns, cutT H, [], fun b => b = true, at_start tb, ⟨ls_dt.mp ⟨a, _, rfl, sqL_cut tb hs, each_dt.mpr ints_vs⟩, True.intro⟩, ⟨hl, rfl⟩, fun d v F' H' _ _ (hd : d = true) hv => ?_⟩
  subst hd
  rw [dt_bl hv]; exact q H'
end Tw

/-! Te3: == of tuples of objects with an own ==, told where they are equal. -/
namespace Tw
open PySem PySem.Spec PyProof.Rows L2 SlX StX Rs Ma Sn
variable [Rs.Tabz]
section
variable {X : Cx} {α : Type} {Ra : α → VP} {C : Addr} {k : Nat}
end
section
variable {ε α : Type} {K : PySem.W.Frag} {Ra : α → VP}
end
end Tw

/-! Te4: of what a short text can be made. -/
namespace Tw
open PySem PySem.Spec PyProof.Rows L2 SlX StX Rs Ma Sn
variable [Rs.Tabz]
structure Says (d : PyData) (n w : Nat) : Prop where
  sh : d.showable = true
  nd : d.hasDict = false
  dp : d.depth ≤ n
  lv : d.leavesShort 13 = true
  wt : d.bulk ≤ w
theorem Says.ok {d : PyData} {n w : Nat} (h : Says d n w) (hn : n ≤ 60) (hw : w ≤ 1048576) : Sayable d :=
  ⟨h.sh, h.nd, Nat.le_trans h.dp hn, by
  have h1 := PyData.shown_le_bulk 13 (by decide) d h.lv
  have h2 := h.wt
  rw [sizeLine_eq]
  omega⟩
theorem says_N {k : Nat} (h : k ≤ 999999999999) : Says (dN k) 0 0 := ⟨by
  show decide ((k : Int).natAbs.log2 < 1920) = true
  rw [Int.natAbs_natCast]
  refine decide_eq_true ?_
  rcases Nat.eq_zero_or_pos k with rfl | z
  · decide
  · exact Nat.lt_trans ((Nat.log2_lt (by omega)).mpr (show k < 2 ^ 40 by omega)) (by decide), rfl, Nat.le_refl _, by
  show decide ((PyData.shown (.int (k : Nat))).length ≤ 13) = true
  exact decide_eq_true (PyData.shown_int_le2 (by omega) (by omega)), Nat.le_refl _⟩
section
variable {α : Type} {d : α → PyData} {n w m : Nat}
theorem says_all : ∀ {xs : List α}, (∀ x ∈ xs, Says (d x) n w) → PyData.showableAll (xs.map d) = true ∧ PyData.hasDictAll (xs.map d) = false ∧ PyData.depthAll (xs.map d) ≤ n ∧ PyData.leavesShortAll 13 (xs.map d) = true ∧ PyData.bulkAll (xs.map d) ≤ xs.length * (w + 1)
  | [], _ => ⟨rfl, rfl, Nat.zero_le _, rfl, Nat.zero_le _⟩
  | x :: xs, h => by
    obtain ⟨a1, a2, a3, a4, a5⟩ := says_all (xs := xs) fun y hy => h y (List.mem_cons_of_mem _ hy)
    obtain ⟨b1, b2, b3, b4, b5⟩ := h x List.mem_cons_self
    rw [List.map_cons]
    refine ⟨?_, ?_, ?_, ?_, ?_⟩
    · simp only [PyData.showableAll, b1, a1, Bool.and_self]
    · simp only [PyData.hasDictAll, b2, a2, Bool.or_self]
    · simp only [PyData.depthAll]; omega
    · simp only [PyData.leavesShortAll, b4, a4, Bool.and_self]
    · simp only [PyData.bulkAll, List.length_cons, Nat.add_mul, Nat.one_mul]
      omega
theorem says_T {xs : List α} (h : ∀ x ∈ xs, Says (d x) n w) (hl : xs.length ≤ m) : Says (dT d xs) (n + 1) (m * (w + 1)) := by
  obtain ⟨a1, a2, a3, a4, a5⟩ := says_all h
  refine ⟨?_, ?_, ?_, ?_, ?_⟩
  · simp only [dT, PyData.showable, a1]
  · simp only [dT, PyData.hasDict, a2]
  · simp only [dT, PyData.depth]; omega
  · simp only [dT, PyData.leavesShort, a4]
  · simp only [dT, PyData.bulk]; exact Nat.le_trans a5 (Nat.mul_le_mul_right _ hl)
theorem says_L {xs : List α} (h : ∀ x ∈ xs, Says (d x) n w) (hl : xs.length ≤ m) : Says (dL d xs) (n + 1) (m * (w + 1)) := by
  obtain ⟨a1, a2, a3, a4, a5⟩ := says_all h
  refine ⟨?_, ?_, ?_, ?_, ?_⟩
  · simp only [dL, PyData.showable, a1]
  · simp only [dL, PyData.hasDict, a2]
  · simp only [dL, PyData.depth]; omega
  · simp only [dL, PyData.leavesShort, a4]
  · simp only [dL, PyData.bulk]; exact Nat.le_trans a5 (Nat.mul_le_mul_right _ hl)
end
section
variable {ε α : Type} {Z : Wsh ε} {ρ : List (Option VP)} {κ : List Ow} {K : PySem.W.Frag} {te : TE} {t : TA} {R : α → VP}
end
/-! items by any whole number -/
section
variable {ε α : Type} {K : PySem.W.Frag} {R : α → VP}
end
instance {α β γ : Type} [DecidableEq α] [DecidableEq β] [DecidableEq γ] {d : α → PyData} {e : β → PyData} {f : γ → PyData} {n m k : Nat} [h : Nice d n] [g : Nice e m] [j : Nice f k] : Nice (dP3 d e f) (n + m + k + 1) := ⟨fun a => by
  simp only [dP3, PyData.canLay0, PyData.canLayAll0, h.lay, g.lay, j.lay, Bool.and_self], fun a => by
  have h1 := h.dep a.1
  have h2 := g.dep a.2.1
  have h3 := j.dep a.2.2
  simp only [dP3, PyData.depth, PyData.depthAll]
  omega, fun a b => by
  simp only [dP3, PyData.eqv, PyData.eqvAll, h.eq, g.eq, j.eq, Bool.and_true]
  obtain ⟨a1, a2, a3⟩ := a
  obtain ⟨b1, b2, b3⟩ := b
  by_cases h1 : a1 = b1 <;> by_cases h2 : a2 = b2 <;> by_cases h3 : a3 = b3 <;> simp [h1, h2, h3]⟩
end Tw

/-! Tf0: three things bound at once; a comprehension that takes items off a list; index; sorted triples; range by twos. -/
namespace Tw
open PySem PySem.Spec PyProof.Rows L2 SlX StX Rs Ma Sn
variable [Rs.Tabz]
section
variable {ε α β γ γ' δ S : Type} {Z : Wsh ε} {ρ : List (Option VP)} {κ : List Ow} {K : PySem.W.Frag} {ta tb tc te : TE} {wi : TI} {u : TS} {i j k t : Nat} {Ra : α → VP} {R : α → VP} {Rd : δ → VP} {ow : γ → Addr → HO → Hp → Prop} {ow' : γ' → Addr → HO → Hp → Prop} {fam : γ → VP} {ρ2 : S → List (Option VP)} {κ2 : S → List Ow}
/-! ### return [xs.pop(..) for ..] -/
def popW (me : Nat → List α → Wm ε Nat) : List Nat → List α → Wm ε (List α)
  | [], _, Q, _ => Q []
  | x :: xs, ys, Q, X => me x ys (fun n => ∃ a, ys[n]? = some a ∧ n < 100000 ∧ popW me xs (ys.eraseIdx n) (fun zs => Q (a :: zs)) X) X
theorem each_erase {F : Hp} : ∀ {ys : List α} {vs : List V} {n : Nat}, Each (ys.map R) vs F → Each ((ys.eraseIdx n).map R) (vs.eraseIdx n) F
  | [], [], _, h => h
  | y :: ys, v :: vs, 0, h => h.2
  | y :: ys, v :: vs, n + 1, h => ⟨h.1, each_erase (ys := ys) (n := n) h.2⟩
  | [], _ :: _, _, h => h.elim
  | _ :: _, [], _, h => h.elim
theorem ts_retPop {ys : List α} {mi : Wm ε (List Nat)} {me : Nat → List α → Wm ε Nat} [∀ a, Mono (R a)] (hi : TrI Z ρ (.one i (ownL (ys.map R)) :: κ) wi mi (fD K dN)) (f : freeCs [t] κ = true) (hti : Nat.beq t i = false) (ht : Nat.blt t ρ.length = true)
    (he : ∀ x ys, TrE Z (st (wipeE ρ [t]) t (some (fD K dN x))) (.one i (ownL (ys.map R)) :: κ) te (me x ys) (fD K dN)) :
    TrS Z ρ (.one i (ownL (ys.map R)) :: κ) (tRet (tLc wi (gName t) tYes (tBM K "list" rPopAt (tVar i) (tCons te tNil)) [t])) (fun (_ : S → Prop) Rt X => mi (fun xs => xs.length ≤ 40000 ∧ popW me xs ys Rt X) X) ρ2 κ2 (fLn R) :=
  ⟨fun σ F L sv sc Nx Rt X q F1 N H e A wsh Dd nx rt => by
    obtain ⟨p, o, L', hL, h1, h2, h3⟩ := sc
    refine hi.run σ F L sv ⟨p, o, L', hL, h1, h2, h3⟩ _ X q F1 N H e A wsh _ fun J F2 H2 e2 A2 ⟨xs, ⟨hz, q1⟩, ⟨G, Y, wk, hG, hY⟩⟩ D hD => ?_
    obtain ⟨us, ho, hus⟩ := h2 F2 (e.trans e2)
    subst hL ho
    have hne : t ≠ i := fun z => by rw [z, Nat.beq_refl] at hti; cases hti
    have lt : t < σ.length := by rw [← sat_len sv]; exact Nat.le_of_ble_eq_true ht
    rw [List.length_map] at wk
    refine lc_it wk (Qd := fun H => Dd.rt (.ref D) H) (fun n H' => ∃ F' acc as zs ws, Same F2 F' ∧ At F' ((D, .lst acc) :: (((p, HO.lst ws) :: L') ++ N)) H' ∧ Each (as.map R) acc F' ∧ Each (zs.map R) ws F' ∧ as.length ≤ n ∧ popW me (xs.drop n) zs (fun rs => Rt (as ++ rs)) X) ⟨F2, [], [], ys, us, Same.refl _, A2.cell hD, (show Each [] [] F2 from True.intro), hus, Nat.le_refl _, q1⟩
      (fun n H' _ ⟨F', acc, as, zs, ws, e', A', _⟩ => hG F' _ H' e' A') ?_ ?_
    · rintro n x H3 H4 hn ⟨F', acc, as, zs, ws, e', A', hacc, hws, hal, q2⟩ y
      obtain ⟨F3, R', e3, A3, hR, hx⟩ := hY F' _ H3 n x H4 e' A' (by rw [List.length_map]; exact hn) y
      rw [List.getElem?_map] at hR
      have hxi : xs[n]? = some xs[n] := List.getElem?_eq_getElem hn
      rw [hxi] at hR
      cases hR
      rw [drop_at hxi, popW] at q2
      have P0 : ((D, HO.lst acc) :: (((p, HO.lst ws) :: L') ++ N)).Perm (((p, HO.lst ws) :: L') ++ ((D, .lst acc) :: N)) := List.perm_middle.symm
      have e13 : Same F F3 := ((e.trans e2).trans e').trans e3
      have s3 := satV_up e13 sv
      have c3 := satC_up e13 h3
      have w3 : WishOk Z F3 ((D, HO.lst acc) :: N) X := (wsh.up ((e2.trans e').trans e3)).push1
      have ew : wipe ((wipe σ [t]).set t (some x)) [t] = wipe σ [t] := by
        show (((σ.set t none).set t (some x)).set t none) = σ.set t none
        rw [List.set_set, List.set_set]
      refine ⟨ew, ?_⟩
      unfold tYes
      refine iteT ?_
      have s4 : SatV (st (wipeE ρ [t]) t (some (fD K dN xs[n]))) ((wipe σ [t]).set t (some x)) F3 := satV_set hx inferInstance (satV_wipe s3 [t])
      have hv1 : ((wipe σ [t]).set t (some x))[i]? = some (some (.ref p)) := by
        rw [List.getElem?_set_ne hne]
        show (σ.set t none)[i]? = _
        rw [List.getElem?_set_ne hne, h1]
      have A4 := A3.perm P0
      have A4' : At F3 ((p, .lst ws) :: (L' ++ ((D, .lst acc) :: N))) H4 := A4
      refine ⟨.ref p, hv1, .inl ⟨rfl, ws, .inl (.inl (A4'.on (p, .lst ws) List.mem_cons_self))⟩, ?_⟩
      have hws3 := MonoL.mono _ _ _ e3 hws
      refine (he xs[n] zs).run _ F3 ((p, .lst ws) :: L') s4 ⟨p, .lst ws, L', rfl, hv1, fun F5 e5 => ⟨ws, rfl, MonoL.mono _ _ _ e5 hws3⟩, satC_agree (js := [t]) (fun l hl => ?_) f c3⟩ _ X q2 F3 _ H4 (Same.refl _) A4 w3 _ fun v F5 H5 e5 A5 ⟨m, ⟨a, hm, hm2, q5⟩, hv⟩ => ?_
      · have hl' : t ≠ l := fun z => hl (by rw [z]; exact List.mem_singleton.mpr rfl)
        rw [List.getElem?_set_ne hl']
        show (σ.set t none)[l]? = _
        rw [List.getElem?_set_ne hl']
      cases hv
      have hlw := each_length hws
      rw [List.length_map] at hlw
      have hm1 : m < zs.length := (List.getElem?_eq_some_iff.mp hm).1
      have hmw : m < ws.length := by omega
      obtain ⟨R', g1, g2⟩ := each_at hws (List.getElem?_eq_getElem hmw)
      rw [List.getElem?_map, hm] at g1
      cases g1
      have A5' : At F5 ((p, .lst ws) :: (L' ++ ((D, .lst acc) :: N))) H5 := A5
      refine ⟨p, ws, (m : Int), m, ws[m], rfl, rfl, A5'.on1, by omega, by omega, ?_, List.getElem?_eq_getElem hmw, ?_⟩
      · exact (ixN_seq (by unfold ixN; rw [if_pos (by omega), if_pos (by omega)]; simp)).1
      have A6 : At F5 ((p, .lst (ws.eraseIdx m)) :: (L' ++ ((D, .lst acc) :: N))) _ := At.put (u := .lst (ws.eraseIdx m)) A5'
      have A7 : At F5 ((D, .lst acc) :: (((p, .lst (ws.eraseIdx m)) :: L') ++ N)) _ := A6.perm (List.perm_middle (l₁ := (p, HO.lst (ws.eraseIdx m)) :: L'))
      have hla : acc.length = as.length := by rw [each_length hacc, List.length_map]
      refine ⟨acc, A7.on1, len_lt (by omega), F5, acc ++ [ws[m]], as ++ [a], zs.eraseIdx m, ws.eraseIdx m, (e'.trans e3).trans e5, A7.put, ?_, each_erase (MonoL.mono _ _ _ (e3.trans e5) hws), by rw [List.length_append]; show as.length + 1 ≤ n + 1; omega, ?_⟩
      · rw [List.map_append]
        exact each_app (Mono.go hacc (e3.trans e5)) ⟨Mono.go g2 (e3.trans e5), True.intro⟩
      · have e9 : (fun rs => Rt (as ++ [a] ++ rs)) = fun rs => Rt (as ++ a :: rs) := by funext rs; rw [List.append_assoc]; rfl
        rw [e9]; exact q5
    · rintro H3 ⟨F', acc, as, zs, ws, e', A', hacc, hws, hal, q2⟩
      rw [List.drop_length, popW, List.append_nil] at q2
      have A1 : At F' ((D, .lst acc) :: (((p, .lst ws) :: L') ++ N)) H3 := A'
      exact rt _ _ _ ((e2.trans e').trans (same_new A1.off1)) (A1.keep.drop) ⟨as, q2, D, acc, rfl, upd_same, MonoL.mono _ _ _ (same_new A1.off1) hacc⟩⟩
end
end Tw

/-! Tf1: index; sorted triples; rows of three as triples; range by twos. -/
namespace Tw
open PySem PySem.Spec PyProof.Rows L2 SlX StX Rs Ma Sn
variable [Rs.Tabz]
section
variable {X : Cx} {o e : Expr} {es : List Expr} {to : TE} {t : TA} {name : Str} {apos cpos : Pos} {T id : String} {r : V → List V → Hp → VK → Prop}
theorem pe_bmK (K : PySem.W.Frag) (pa : PlainAttrs T) (slot : Slot T name id) (hty : typeOf (.builtin id) = pure (.type "method_descriptor")) (hm : MtR X id r) (ho : PE X o to) (ha : PA X (e :: es) t)
    (hbase : attributeBase o name X.env (eval o X.env) = eval o X.env := by rfl)
    (hfew : ((backTo cpos (starEach (e :: es) X.env)).all (fun x => !x.1) && (backToKw cpos (keywordEach [] X.env)).all (fun x => x.1.isSome)
      && decide ((e :: es).length + ([] : List Keyword).length + (if ([] : List Keyword).isEmpty then 0 else 1) < 30)) = true := by rfl)
    (hline : (apos.endLine == cpos.line) = true := by rfl) (hs : starEach (e :: es) X.env = (false, eval e X.env) :: starEach es X.env := by rfl) (hplain : (backTo cpos (starEach es X.env)).any (·.1) = false := by rfl) (hK : X.K = K := by rfl) :
    PE X (.Call (.Attribute o name apos) (e :: es) [] cpos) (tBM K T r to t) := by
  subst hK
  exact pe_bm pa slot hty hm ho ha hbase hfew hline hs hplain
end
/-! ### index -/
section
variable {ε α β S δ : Type} {Z : Wsh ε} {ρ : List (Option VP)} {κ : List Ow} {K : PySem.W.Frag} {te tx ta tb tc : TE} {wi : TI} {u : TS} {R : α → VP}
theorem each_ints {F : Hp} : ∀ {xs : List Nat} {vs : List V}, Each (xs.map (fD K dN)) vs F → vs = xs.map fun n => V.int (n : Nat)
  | [], [], _ => rfl
  | x :: xs, v :: vs, h => by
    have h1 : Dp K F v (.int (x : Nat)) := h.1
    cases h1
    rw [each_ints (xs := xs) h.2]; rfl
  | [], _ :: _, h => h.elim
  | _ :: _, [], h => h.elim
/-! ### triples -/
def t3 (p : Nat × Nat × Nat) : List Nat := [p.1, p.2.1, p.2.2]
/-! ### range(a, b, 2) -/
end
end Tw

/-! Tg0: next((x for x, y in enumerate(e) if not y[z]), None). -/
namespace Rs
open PySem PySem.Spec PyProof.Rows L2 GxR

section
variable {prog : Program} {w : World} {A : Around} {E : Value → Shared → Prop} {s : Shared}
end

/-- the first place whose row says no to h -/
def firstNo (h : Nat) (bss : List (List Bool)) : Option Nat := ((List.range bss.length).filter fun i => !((bss[i]?.getD []).getD h true)).head?
theorem first_of {h : Nat} {bss : List (List Bool)} {pz : Nat → Bool} (hp : ∀ i, pz i = !((bss[i]?.getD []).getD h true)) :
    firstNo h bss = (passing pz bss.length 0).head? := by
  unfold firstNo passing
  rw [List.drop_zero]
  congr 1
  exact List.filter_congr fun i _ => (hp i).symm

section
variable {X : Cx} {pins : List (Addr × Obj)} {σ : L2.St} {H : Hp} {s : Shared}
end

variable {X : Cx}
end Rs

/-! Tg1: for x, y in zip(a, b, strict=True), two tuples. -/
namespace Rz
open PySem PySem.Spec PyProof.Rows L2
variable [Rs.Tabz]
open PySem.Sem (wp)
section
variable {prog : Program} {w : World} {A : Around} {E : Value → Shared → Prop} {s : Shared}
open Builtin.SmallTypes (nextOf nextOrEnd)
end
section
end
end Rz

/-! Tg2: zip(.., strict=True) walked, enumerate of a list, next of a generator expression, what is optional, in terms. -/
namespace Tw
open PySem PySem.Spec PyProof.Rows L2 SlX StX Rs Ma Sn
variable [Rs.Tabz]
section
variable {K : PySem.W.Frag} {a b : Addr} {xs ys vs ws : List V} {Ra Ss : List VP} {F1 : Hp}
end
section
variable {ε α β γ δ : Type} {Z : Wsh ε} {ρ : List (Option VP)} {κ : List Ow} {K : PySem.W.Frag} {te ta tb tc : TE} {i : Nat} {R : α → VP} {Rb : β → VP}
/-! ### what is optional -/
def dO : Option Nat → PyData
  | none => .none
  | some n => .int (n : Nat)
instance : Nice dO 0 := ⟨fun a => by cases a <;> rfl, fun a => by cases a <;> exact Nat.zero_le _, fun a b => by
  cases a with
  | none => cases b <;> rfl
  | some x =>
    cases b with
    | none => rfl
    | some y =>
      show ((x : Int) == (y : Int)) = _
      by_cases h : x = y
      · subst h; simp
      · have : (x : Int) ≠ y := by omega
        simp [h, this]⟩
instance : NoL dO := ⟨fun a => by cases a <;> rfl⟩
theorem tr_nO {m : Wm ε Unit} (h : TrE Z ρ κ te m (fD K dU)) : TrE Z ρ κ te (fun Q X => m (fun _ => Q none) X) (fD K dO) := h.conv (fun _ => none) fun _ _ _ x => x
theorem tr_sO {m : Wm ε Nat} (h : TrE Z ρ κ te m (fD K dN)) : TrE Z ρ κ te (fun Q X => m (fun n => Q (some n)) X) (fD K dO) := h.conv some fun _ _ _ x => x
/-! ### a table has grown -/
theorem At.tab {F H H' : Hp} {L : Cells} {P : Addr} (A : At F L H) (hP : Tabz.ts P) (hnm : Tabz.nm P = none) (t : GxR.Tabbed P H H') : At F L H' := by
  have ne : ∀ {b : Addr} {u : HO}, H b = some u → (∀ ps, u ≠ .tbl ps) → b ≠ P := fun {b u} e h z => by
    obtain ⟨ps, e2, _⟩ := A.tb P hP
    rw [z, e2] at e
    exact h ps (Option.some.inj e).symm
  refine ⟨fun b u e => ?_, fun p q => by rw [t.2 p.1 (ne (A.on p q) (A.nb p q))]; exact A.on p q, A.off, A.nd, A.nt, A.nb, A.nc, fun P2 h2 => ?_, A.ft⟩
  · have hb : b ≠ P := fun z => by rw [z, A.ft P hP] at e; cases e
    rw [t.2 b hb]; exact A.ex b u e
  · by_cases h : P2 = P
    · subst h
      obtain ⟨ps, e, r⟩ := t.1
      exact ⟨ps, e, r, fun q hq => by rw [hnm] at hq; cases hq⟩
    · obtain ⟨ps, e, r⟩ := A.tb P2 h2
      exact ⟨ps, by rw [t.2 P2 h]; exact e, r⟩
end
end Tw

/-! Tg3: promises of defs with a table of code objects; the head of a law with one. -/
namespace Tw
open PySem PySem.Spec PyProof.Rows L2 SlX StX Rs Ma
variable [Rs.Tabz]
section
variable {P : Program} {w : World} {K : PySem.W.Frag} {mg : Str → Option Value} {base : Heap} {γ δ S : Type}
end
end Tw

/-! Ti0: next((e for x in xs if c), None), c and e any expressions (calls too). -/
namespace Rs
open PySem PySem.Spec PyProof.Rows L2 GxR

section
variable {X : Cx} {pins : List (Addr × Obj)} {σ : L2.St} {H : Hp} {s : Shared}
end

section
variable {Xg : Cx} {A : Around} {elt iter cond : Expr} {x : Str} {px : Pos} {scope : Scope} {pos : Pos} {it : Addr} {fp : List Addr} {tn : Nat → Heap → Prop} {J : It} {ix : Nat} {tt : TT} {tv : TE} {Q : VK} {s₀ : Shared}
end
section
variable {prog : Program} {w : World} {A : Around} {E : Value → Shared → Prop} {s : Shared}
end
section
variable {X : Cx}
end
end Rs
namespace Tw
open PySem PySem.Spec PyProof.Rows L2 SlX StX Rs Ma
variable [Rs.Tabz]
def fOpt {δ : Type} (R : δ → VP) : Option δ → VP := fun o v F => match o with
  | none => v = .non
  | some d => R d v F
instance {δ : Type} {R : δ → VP} [hM : ∀ d, Mono (R d)] {o : Option δ} : Mono (fOpt R o) := ⟨fun v F F' e h => by
  cases o with
  | none => exact h
  | some d => exact (hM d).mono v F F' e h⟩
section
variable {ε β δ : Type} {Z : Wsh ε} {ρ : List (Option VP)} {κ : List Ow} {K : PySem.W.Frag} {wi : TI} {tt : TT} {tv te : TE} {ix : Nat} {P : Addr} {Rd : δ → VP}
end
end Tw

/-! Me: webs that are often used. -/
namespace Ma
open PySem Rs L2
variable [Rs.Tabz]
end Ma

/-! Mf: those who hear somebody's word, round by round. -/
namespace Ma
open PySem Rs L2
variable [Rs.Tabz]
section
variable {rs : Rows} {h : Nat} {fs : List Nat} {y k j : Nat}
end
end Ma

/-! Mg: laws of joins, shares and often used webs. -/
namespace Ma
open PySem Rs L2
variable [Rs.Tabz]
section
variable {rs : Rows} {n c h : Nat}
end
end Ma

/-! Mh: roots of often used webs. -/
namespace Ma
open PySem Rs L2
variable [Rs.Tabz]
section
variable {rs : Rows} {n c h y : Nat}
end
end Ma

/-! Mi: rounds with a full web. -/
namespace Ma
open PySem Rs L2
variable [Rs.Tabz]
section
variable {rs qs : Rows} {n c h y : Nat}
end
end Ma

/-! Mj: a ring of two chains. -/
namespace Ma
open PySem Rs L2
variable [Rs.Tabz]
section
variable {n c : Nat}
end
end Ma

/-! Mk: new numbers. The row of a house goes to its new number, each in it renumbered, sorted. -/
namespace Ma
open PySem Rs L2
variable [Rs.Tabz]
section
variable {rs : Rows} {ns : List Nat} {n y z : Nat}
end
end Ma

/-! Mn: roots of whatever webs are heard by all in time; other numbers of houses and roots. -/
namespace Ma
variable [Rs.Tabz]
open Rs
section
variable {n x : Nat} {l : List Rows} {r rs qs : Rows} {ns : List Nat}
/-! other numbers -/
abbrev pi (ns : List Nat) (x : Nat) : Nat := ns.getD x 0
section
variable (inj : ∀ a b, a < rs.length → b < rs.length → pi ns a = pi ns b → a = b) (lt : ∀ a, a < rs.length → pi ns a < rs.length)
include inj lt
end
end
end Ma

/-! Tp0: what a pool is. -/
namespace Wb
open PySem PySem.Spec PyProof.Rows L2 SlX StX Rs Ma Sn Tw
variable [Rs.Tabz]
def psize (rss : List Rows) : Nat := (rss.headD []).length
/-- different webs on the same houses -/
structure POk (rss : List Rows) : Prop where
  pos : 1 ≤ rss.length
  le : rss.length ≤ 8
  nd : rss.Nodup
  ok : ∀ rs ∈ rss, Ok rs
  sz : ∀ rs ∈ rss, rs.length = psize rss
def placesL (rss : List Rows) : List (Rows × Nat) := (enumL rss).map fun x => (x.2, x.1)
noncomputable def poolVs (CW : Addr) (K : PySem.W.Frag) (P : Program) (w : World) (rss : List Rows) : List VP := [fTp K (webP CW K) rss, fD K dN (psize rss), fDK K P w (dT (dT dN)) (fD K dN) (placesL rss)]
instance {CW : Addr} {K : PySem.W.Frag} {P : Program} {w : World} {rss : List Rows} : MonoL (poolVs CW K P w rss) := by unfold poolVs; infer_instance
noncomputable def poolP (C CW : Addr) (K : PySem.W.Frag) (P : Program) (w : World) (rss : List Rows) : VP := fun v F => POk rss ∧ Ob C [2, 1, 0] (poolVs CW K P w rss) v F
instance {C CW : Addr} {K : PySem.W.Frag} {P : Program} {w : World} {rss : List Rows} : Mono (poolP C CW K P w rss) := ⟨fun _ _ _ e h => ⟨h.1, Mono.go h.2 e⟩⟩
section
variable {P : Program} {w : World} {K : PySem.W.Frag} {C_Pool C_Web : Addr}
end
end Wb

/-! Mo: equal views, in plain terms. -/
namespace Wb
open Rs Ma
variable [Rs.Tabz]
/-- which houses still have equal views behind one more round -/
def stillL (ahead : List Bool) (one other : Rows) : List Bool := (List.range one.length).map fun h => decide (hbL one h = hbL other h) && (hbL one h).all fun n => ahead.getD n false
def eqStep (p : List Rows) (acc : List (List Bool)) (lr : Nat × Nat) : List (List Bool) := acc ++ [stillL (acc.getLast?.getD []) (p.getD lr.1 []) (p.getD lr.2 [])]
def eqRowsL (p : List Rows) (one other : List Nat) : List (List Bool) := (one.zip other).foldl (eqStep p) [List.replicate (psize p) true]
def eqInL (p : List Rows) (one other : List Nat) : List Nat := (List.range (psize p)).filter fun h => ((eqRowsL p one other).getLast?.getD []).getD h false
theorem still_len {E : List Bool} {a b : Rows} : (stillL E a b).length = a.length := by unfold stillL; rw [List.length_map, List.length_range]
theorem fold_len {p : List Rows} {n : Nat} (hp : ∀ rs ∈ p, rs.length = n) : ∀ {zs : List (Nat × Nat)} {acc : List (List Bool)}, (∀ z ∈ zs, z.1 < p.length) → (∀ r ∈ acc, r.length = n) → ∀ r ∈ zs.foldl (eqStep p) acc, r.length = n
  | [], acc, _, h, r, hr => h r hr
  | z :: zs, acc, hz, h, r, hr => by
    refine fold_len hp (fun y hy => hz y (List.mem_cons_of_mem _ hy)) (fun q hq => ?_) r hr
    rcases List.mem_append.mp hq with q1 | q1
    · exact h q q1
    · rw [List.mem_singleton.mp q1, still_len]
      have e := List.getElem?_eq_getElem (hz z List.mem_cons_self)
      rw [List.getD_eq_getElem?_getD, e]
      exact hp _ (List.getElem_mem _)
theorem rows_len {p : List Rows} (ok : POk p) {one other : List Nat} (h : ∀ x ∈ one, x < p.length) : ∀ r ∈ eqRowsL p one other, r.length = psize p := by
  refine fold_len ok.sz (fun z hz => h _ (List.of_mem_zip hz).1) fun r hr => ?_
  rw [List.mem_singleton.mp hr, List.length_replicate]
end Wb

/-! Tg4: sorted of a list, as a list that can be joined; is None. -/
namespace Tw
open PySem PySem.Spec PyProof.Rows L2 SlX StX Rs Ma
variable [Rs.Tabz]
section
variable {ε α β γ δ : Type} {Z : Wsh ε} {ρ : List (Option VP)} {κ : List Ow} {K : PySem.W.Frag} {te ta tb tc : TE} {i : Nat} {R : α → VP} {Rb : β → VP}
theorem tr_isNO {m : Wm ε (Option Nat)} (h : TrE Z ρ κ te m (fD K dO)) : TrE Z ρ κ (tIsN te) (fun Q X => m (fun o => Q o.isNone) X) (fD K dB) :=
  ⟨inferInstance, fun σ F L s c Q X q => rw_bind (k := te σ) (k2 := fun (x : V) H1 (Q : V → Hp → Prop) => Q (V.bl (decide (x = V.non))) H1) (h.run σ F L s c _ X q) fun v F1 e1 ⟨o, q1, hv⟩ => .of (run_ret fun F2 e2 => ⟨_, q1, by
    have hv : Dp K F1 v (dO o) := hv
    cases o with
    | none => cases hv; exact .bl _
    | some n => cases hv; exact .bl _⟩)⟩
end
end Tw

/-! Ti1: t[::-1] of tuples, is not of bools, zip of two tuples, list * int as a list of one's own. -/
namespace HT
open PySem PySem.Spec PyProof.Rows L2
section
variable {prog : Program} {w : World} {A : Around} {E : Value → Shared → Prop} {s : Shared}
end
end HT
namespace Rs
open PySem PySem.Spec PyProof.Rows L2
section
variable {X : Cx}
end
end Rs
namespace Tw
open PySem PySem.Spec PyProof.Rows L2 SlX StX Rs Ma
variable [Rs.Tabz]
section
variable {ε α β γ δ : Type} {Z : Wsh ε} {ρ : List (Option VP)} {κ : List Ow} {K : PySem.W.Frag} {te ta tb tc tx : TE} {i : Nat} {R : α → VP} {Rb : β → VP}
/-- is not of truths -/
theorem o_notB : Op2 ε rNotB (fD K dB) (fD K dB) (fun a b Q X => Q (!decide (a = b))) (fD K dB) := ⟨fun a b x y F L hx hy Q X q => fun F1 N H e A Qk qk => by
  have hx : Dp K F x (.bool a) := hx
  have hy : Dp K F y (.bool b) := hy
  cases hx
  cases hy
  exact ⟨a, b, rfl, rfl, qk _ F1 H (Same.refl _) A ⟨_, q, .bl _⟩⟩⟩
end
end Tw

/-! Tj0: a list of one's own that is changed no more. -/
namespace Tw
open PySem PySem.Spec PyProof.Rows L2 SlX StX Rs Ma
variable [Rs.Tabz]
section
variable {ε α S δ : Type} {Z : Wsh ε} {ρ : List (Option VP)} {κ : List Ow} {K : PySem.W.Frag} {t : TS} {i : Nat} {R : α → VP} {ρ2 : S → List (Option VP)} {κ2 : S → List Ow} {Rd : δ → VP} {xs : List α} {m : Ws ε S δ}
end
/-! ### == of tuples of own objects in laws with tables: promises that keep everything -/
abbrev Tz0 : Rs.Tabz := ⟨fun _ => False, fun _ => none⟩
end Tw

/-! Tk0: an own list handed back ahead of other code; is None of what next gives. -/
namespace Tw
open PySem PySem.Spec PyProof.Rows L2 SlX StX Rs Ma
variable [Rs.Tabz]
section
variable {ε α β γ δ S : Type} {Z : Wsh ε} {ρ : List (Option VP)} {κ : List Ow} {K : PySem.W.Frag} {te : TE} {u : TS} {i : Nat} {R : α → VP} {ρ2 : S → List (Option VP)} {κ2 : S → List Ow}
/-- what is never None -/
class NoNon (R : α → VP) : Prop where
  nn : ∀ a v F, R a v F → v ≠ .non
instance {d : α → PyData} : NoNon (fD K (dT d)) := ⟨fun a v F h e => by
  have h : Dp K F v (dT d a) := h
  subst e
  cases h⟩
instance : NoNon (fD K dN) := ⟨fun a v F h e => by
  have h : Dp K F v (dN a) := h
  subst e
  cases h⟩
end
end Tw

/-! Tk1: the head of a law with a table and with repr. -/
namespace Tw
open PySem PySem.Spec PyProof.Rows L2 SlX StX Rs Ma Sn
section
variable {P : Program} {w : World} {K : PySem.W.Frag} {mg mb : Str → Option Value} {k : Nat} {fa a cA PT : Addr} {fd : FuncData} {x : Str} {s₁ : Shared} {vs : List Value} {ns : List Int}
end
section
variable [Rs.Tabz]
/-! ### repr of a truth -/
section
variable {X : Cx}
variable {e : Expr} {es : List Expr} {t : TA} {p pos : Pos}
end
end
end Tw

/-! Tm0: C(v) where C is a class of exceptions over a built-in one, with `super().__init__('..'); self.f = f` for its own __init__. -/
namespace PySem
namespace SuI
open PySem.W PySem.Calls PyProof.Rows PySem.Spec
section
variable {prog : Program} {w : World} {A : Around} {E : Value → Shared → Prop} {h : Heap} {g : Array GenState} {d : Drawn} {t : Nat} {os : OsState} {K : Frag} {B i newId : String} {bmB : List Value}
end
section
variable {prog : Program} {w : World} {A : Around} {R : Result → Shared → Prop} {s : Shared} {K : Frag} {mg mb : Str → Option Value} {B i newId : String} {bmB : List Value}
end
end SuI
end PySem

/-! Tm1: what the written part says of a class of exceptions with `super().__init__('..'); self.f = f`; C(v) as an exception that is made. -/
namespace PySem
namespace SuI
open PySem.W PySem.Calls PyProof.Rows PySem.Spec
end SuI
end PySem

/-! Tm2: raise C(v), as a rule. -/
namespace L2
open PySem PySem.Spec PyProof.Rows
end L2

/-! Tm3: try with several clauses, some of them with a name. -/
namespace L2
open PySem PySem.Spec PyProof.Rows
/-- a clause: its class, the slot of its name (if it has one), its suite -/
structure Clz where
  c : Value
  i : Option Nat
  ts : Addr → Value → Option Addr → TS
/-- what stands behind a clause with a name: the name is gone -/
def Ends.gone (D : Ends) (i : Nat) : Ends := { nx := fun σ H => D.nx (σ.set i none) H, rt := D.rt, bk := fun σ H => D.bk (σ.set i none) H, ct := fun σ H => D.ct (σ.set i none) H }
def Clz.run (z : Clz) (cls : Value) (d : Option Addr) (D : Ends) (σ : St) (H : Hp) : Prop := ∀ a, H a = none → match z.i with
  | none => z.ts a cls d D σ H
  | some i => z.ts a cls d (D.gone i) (σ.set i (some (.ref a))) H
section
variable {X : Cx} {pins : List (Addr × Obj)} {σ : St} {H : Hp} {B : Heap} {sI s : Shared} {a : Addr} {cls : Value} {d : Option Addr} {D : Ends} {Wout : WX}
/-- a caught exception, looked at by the clauses -/
structure Caught (X : Cx) (pins : List (Addr × Obj)) (σ : St) (H : Hp) (B : Heap) (sI s : Shared) (a : Addr) (cls : Value) (d : Option Addr) : Prop where
  inv : Inv X pins σ H sI
  nb : ∀ b o, sI.heap.get? b = some o → b ∉ frs X.stack → B.get? b = some o
  up : sI.heap.UpToSlots s.heap
  fl : HandSPX.FlyingZ B (X.env :: X.outer) a (Zc cls d) s.heap
  na : H a = none
  os : s.os = sI.os
  ag : AllBare s.gens
theorem Caught.here (C : Caught X pins σ H B sI s a cls d) : Inv X pins σ H s := C.inv.landed C.nb C.fl.1 C.up C.os C.ag
end
section
variable {X : Cx} {body : List Stmt} {h₀ : ExceptHandler} {hds : List ExceptHandler} {l : List Clz} {pos : Pos} {tb : WX → TS} {Wout : WX}
end
end L2

/-! Tl0: defs that raise, calls of them, raise, try .. except C. Of an exception its class is told. -/
namespace Tw
open PySem PySem.Spec PyProof.Rows L2 SlX StX Rs Ma
variable [Rs.Tabz]
/-- a promise by a wish of a result and one of exceptions -/
def SpE {γ δ : Type} (Rs : γ → List VP) (spec : γ → (δ → Prop) → (Value → Prop) → Prop) (R : δ → VP) : Sp := fun vs H Q E => ∃ g F N P PX, At F N H ∧ Each (Rs g) vs F ∧ spec g P PX ∧ (∀ d v F' H', Same F F' → At F' N H' → P d → R d v F' → Q v H') ∧
  ∀ c d F' H', Same F F' → At F' N H' → PX c → E c d H'
structure GfX (P : Program) (w : World) (K : PySem.W.Frag) (mg : Str → Option Value) (base : Heap) (k : Nat) (x : Str) (sp : Sp) : Prop where
  ex : ∃ f fd ps, FnOk P w K mg base (L2.CX P w) k f fd ps sp ∧ mg x = some (.ref f) ∧ PySem.W.keepIn K (.ref f) = true ∧ Binds K fd ps []
section
variable {X : Cx} {e : Expr} {es : List Expr} {t : TA} {p pos : Pos} {f : Str} {W : WX}
end
section
variable {α β γ δ S : Type} {ρ : List (Option VP)} {κ : List Ow} {K : PySem.W.Frag} {t : TA} {mg : Wm Value γ} {Rs : γ → List VP} {Rd : δ → VP} {W : WX} {n : Nat} {ρ2 : S → List (Option VP)} {κ2 : S → List Ow}
end
section
variable {P : Program} {w : World} {K : PySem.W.Frag} {mg : Str → Option Value} {base : Heap} {γ δ : Type}
end
end Tw

/-! Tl1: {k: v for .. for ..} with nested keys. -/
namespace Sn
open PySem PySem.Spec PyProof.Rows L2 SlX StX Rs Ma
variable [Rs.Tabz]
section
variable {prog : Program} {w : World} {A : Around} {R : Result → Shared → Prop} {s : Shared} {kx vx t0 i0 t1 i1 : Expr} {ifs0 ifs1 : List Expr} {scope : Scope} {pos : Pos} {it acc : Value} {D : Addr} {env : Env}
end
section
variable {X : Cx}
end
end Sn
namespace Tw
open PySem PySem.Spec PyProof.Rows L2 SlX StX Rs Ma Sn
variable [Rs.Tabz]
section
variable {ε α β γ δ η : Type} {Z : Wsh ε} {ρ : List (Option VP)} {κ : List Ow} {K : PySem.W.Frag} {P : Program} {w : World} {tk tv : TE} {tt tt1 : TT} {wi wi1 : TI} {g g1 : TG} {n : Nat} {d : α → PyData} [DecidableEq α] [c : Keyd d n] {Rb : β → VP}
end
end Tw

/-! Tl2: new lists made while an own list is looked at; extend; break. -/
namespace Tw
open PySem PySem.Spec PyProof.Rows L2 SlX StX Rs Ma
variable [Rs.Tabz]
section
variable {ε α β γ δ S S1 : Type} {Z : Wsh ε} {ρ : List (Option VP)} {κ : List Ow} {K : PySem.W.Frag} {te : TE} {t u : TS} {tt : TT} {wi : TI} {g : TG} {i : Nat} {R : α → VP} {Rd : δ → VP} {ρ2 : S → List (Option VP)} {κ2 : S → List Ow} {ρ1 : S1 → List (Option VP)} {κ1s : S1 → List Ow}
/-! ### break -/
end
end Tw

/-! Tl3: a dict of one's own that is locked while a statement runs; walks over its keys; own = own + ..; max of a list; int of a truth. -/
namespace Tw
open PySem PySem.Spec PyProof.Rows L2 SlX StX Rs Ma
variable [Rs.Tabz]
/-! ### what does not lean on a locked dict -/
section
variable {K : PySem.W.Frag} {F : Hp} {a : Addr} {o : Obj} {zs : List (Key × V)}
theorem rd_cutZ (h1 : F a = some (.frz o (.dK zs))) {b : Addr} {u : HO} (hu : ∀ ks, u ≠ .dK ks) (hz : ∀ q w, u ≠ .frz q w) (h : F b = some u ∨ ∃ q, F b = some (.frz q u)) : cutF F a b = some u ∨ ∃ q, cutF F a b = some (.frz q u) := by
  have ne : b ≠ a := fun z => by
    rcases h with h | ⟨q, h⟩
    · rw [z, h1] at h
      exact hz _ _ (Option.some.inj h).symm
    · rw [z, h1] at h
      cases h
      exact hu _ rfl
  have e : cutF F a b = F b := by
    show (if b = a then none else F b) = _
    rw [if_neg ne]
  rw [e]; exact h
mutual
theorem dp_cutZ (h1 : F a = some (.frz o (.dK zs))) : ∀ (d : PyData) (v : V), Dp K F v d → Dp K (cutF F a) v d
  | .none, _, h => by cases h; exact .non
  | .bool b, _, h => by cases h; exact .bl b
  | .int i, _, h => by cases h; exact .int i
  | .str x, _, h => by cases h; exact .str x
  | .list ds, _, h => by
    cases h with
    | lst hs ha => exact .lst (hs.imp (fun r => rd_cutZ h1 (fun _ z => by cases z) (fun _ _ z => by cases z) r) id) (dps_cutZ h1 ds _ ha)
  | .dict _, _, h => by cases h
  | .tuple ds, _, h => by
    cases h with
    | tup hs ha => exact .tup (hs.imp (fun r => rd_cutZ h1 (fun _ z => by cases z) (fun _ _ z => by cases z) r) id) (dps_cutZ h1 ds _ ha)
theorem dps_cutZ (h1 : F a = some (.frz o (.dK zs))) : ∀ (ds : List PyData) (vs : List V), DpAll K F vs ds → DpAll K (cutF F a) vs ds
  | [], _, h => by cases h; exact .nil
  | d :: ds, _, h => by
    cases h with
    | cons x1 x2 => exact .cons (dp_cutZ h1 d _ x1) (dps_cutZ h1 ds _ x2)
end
end
/-- what is told does not lean on locked dicts -/
class CutZ {δ : Type} (R : δ → VP) : Prop where
  cut : ∀ d v F a o zs, F a = some (.frz o (.dK zs)) → R d v F → R d v (cutF F a)
class CutZ1 (R : VP) : Prop where
  cut : ∀ v F a o zs, F a = some (.frz o (.dK zs)) → R v F → R v (cutF F a)
instance {K : PySem.W.Frag} {α : Type} {d : α → PyData} : CutZ (fD K d) := ⟨fun x v F a o zs h r => dp_cutZ h (d x) v r⟩
theorem each_cutZ {α : Type} {R : α → VP} [CutZ R] {F : Hp} {a : Addr} {o : Obj} {ks : List (Key × V)} (h1 : F a = some (.frz o (.dK ks))) : ∀ {xs : List α} {vs : List V}, Each (xs.map R) vs F → Each (xs.map R) vs (cutF F a)
  | [], [], h => h
  | x :: xs, v :: vs, h => ⟨CutZ.cut x v F a o ks h1 h.1, each_cutZ h1 h.2⟩
  | [], _ :: _, h => h.elim
  | _ :: _, [], h => h.elim
instance {α : Type} {R : α → VP} [CutZ R] : CutZ (fLn R) := ⟨fun xs v F a o zs h ⟨b, vs, e, hb, r⟩ => ⟨b, vs, e, by
  have ne : b ≠ a := fun z => by rw [z, h] at hb; cases hb
  show (if b = a then none else F b) = _
  rw [if_neg ne]; exact hb, each_cutZ h r⟩⟩
instance {δ : Type} {R : δ → VP} [h : CutZ R] {d : δ} : CutZ1 (R d) := ⟨fun v F a o zs => h.cut d v F a o zs⟩
class CutV (ρ : List (Option VP)) : Prop where
  cut : ∀ σ F a o zs, F a = some (.frz o (.dK zs)) → SatV ρ σ F → SatV ρ σ (cutF F a)
instance : CutV [] := ⟨fun σ F a o zs h s => by cases σ with | nil => exact True.intro | cons _ _ => exact s⟩
instance {ρ : List (Option VP)} [c : CutV ρ] : CutV (none :: ρ) := ⟨fun σ F a o zs h s => by
  cases σ with
  | nil => exact s
  | cons x σ => exact c.cut σ F a o zs h s⟩
instance {ρ : List (Option VP)} {R : VP} [r : CutZ1 R] [c : CutV ρ] : CutV (some R :: ρ) := ⟨fun σ F a o zs h s => by
  cases σ with
  | nil => exact s
  | cons x σ =>
    obtain ⟨⟨v, h1, h2, h3⟩, s⟩ := s
    exact ⟨⟨v, h1, r.cut v F a o zs h h2, h3⟩, c.cut σ F a o zs h s⟩⟩
class CutO (κ : List Ow) : Prop where
  cut : ∀ σ F L a o zs, F a = some (.frz o (.dK zs)) → SatC κ σ F L → SatC κ σ (cutF F a) L
instance : CutO [] := ⟨fun _ _ _ _ _ _ _ _ => True.intro⟩
/-- a dict that is locked -/
def fDZ {α β : Type} [DecidableEq α] (d : α → PyData) [c : NumK d] (R : β → VP) : List (α × β) → VP := fun kvs v F => ∃ D o zs, v = .ref D ∧ F D = some (.frz o (.dK zs)) ∧ RelD d R zs kvs F ∧ (kvs.map (·.1)).Nodup
instance {α β : Type} [DecidableEq α] {d : α → PyData} [NumK d] {R : β → VP} [∀ b, Mono (R b)] {kvs : List (α × β)} : Mono (fDZ d R kvs) := ⟨fun _ _ _ e ⟨D, o, zs, h, h1, r, n⟩ => ⟨D, o, zs, h, e _ _ h1, relD_up e r, n⟩⟩
section
variable {ε α β γ δ S S1 : Type} [DecidableEq α] {Z : Wsh ε} {ρ : List (Option VP)} {κ : List Ow} {K : PySem.W.Frag} {te ta tb td ty : TE} {t u : TS} {i : Nat} {d : α → PyData} [c : NumK d] {R : β → VP} {Ra : γ → VP} {Rd : δ → VP} {ρ2 : S → List (Option VP)} {κ2 : S → List Ow} {ρ1 : S1 → List (Option VP)} {κ1s : S1 → List Ow}
instance {κ : List Ow} {γ : Type} {R : γ → VP} [∀ g, Mono (R g)] [CutZ R] {i : Nat} {xs : List γ} [k : CutO κ] : CutO (.one i (ownL (xs.map R)) :: κ) := ⟨fun σ F L a o zs h ⟨b, u, L', e, s, q, r⟩ => ⟨b, u, L', e, s, fun F' e' => by
  obtain ⟨vs, hu, hv⟩ := q F (Same.refl _)
  exact ⟨vs, hu, MonoL.mono _ _ _ e' (each_cutZ h hv)⟩, k.cut σ F L' a o zs h r⟩⟩
/-- the keys of a locked dict -/
theorem ti_keysZ {md : Wm ε (List (Nat × β))} [∀ b, Mono (R b)] (h : TrE Z ρ κ te md (fDZ dN R)) : TrI Z ρ κ (iKeys te) (fun Q X => md (fun kvs => Q (kvs.map (·.1))) X) (fD K dN) :=
  ⟨inferInstance, fun σ F L s c Q X q => rw_bind (k := te σ) (k2 := fun x H1 (Q : It → Hp → Prop) => ∃ d o, x = .ref d ∧ ((∃ kvs, H1 d = some (.frz o (.dK kvs)) ∧ Q (Itk d o kvs) H1) ∨ ∃ kvs, H1 d = some (.frz o (.dT kvs)) ∧ Q (Itkt d o kvs) H1)) (h.run σ F L s c _ X q) fun x F1 e1 ⟨kvs, q1, hx⟩ => .of fun F2 N H e A Qk qk => by
    obtain ⟨D, o, zs, rfl, hD, hr, hn⟩ := hx
    refine ⟨D, o, rfl, .inl ⟨zs, A.ex _ _ (e _ _ hD), qk _ F2 H (Same.refl _) A ⟨_, q1, ?_⟩⟩⟩
    have hf := relD_fst hr
    have hl : ((kvs.map (·.1)).map (fD K dN)).length = zs.length := by rw [List.length_map, List.length_map, relD_len hr]
    refine ⟨_, _, by rw [hl]; exact walk_keys, fun F3 L3 H3 e3 A3 => A3.ex _ _ (e3 _ _ (e _ _ hD)), fun F3 L3 H3 j x H' e3 A3 hj y => ?_⟩
    obtain ⟨rfl, k, v, hk, rfl⟩ := y
    have hz : (zs.map (·.1))[j]? = some k := by rw [List.getElem?_map, hk]; rfl
    rw [hf, List.getElem?_map] at hz
    cases hg : (kvs.map (·.1))[j]? with
    | none => rw [hg] at hz; cases hz
    | some n =>
      rw [hg] at hz
      have hz : (NumK.key (d := dN) n) = k := Option.some.inj hz
      subst hz
      exact ⟨F3, fD K dN n, Same.refl _, A3, by rw [List.getElem?_map, hg]; rfl, .int _⟩⟩
/-- d[k] of a locked dict -/
theorem tr_dgetZ {md : Wm ε (List (α × β))} {mk : Wm ε α} [∀ b, Mono (R b)] (hd : TrE Z ρ κ td md (fDZ d R)) (hk : TrE Z ρ κ ty mk (fD K d)) : TrE Z ρ κ (tDGet td ty) (fun Q X => md (fun kvs => mk (fun a => ∃ b, getA kvs a = some b ∧ Q b) X) X) R :=
  ⟨inferInstance, fun σ F L s cc Q X q => rw_bind (k := td σ) (hd.run σ F L s cc _ X q) fun x F1 e1 ⟨kvs, q1, hx⟩ => rw_bind (k := ty σ) (k2 := fun y H2 Q => ∃ a v, x = .ref a ∧ DGet H2 a y (some v) ∧ Q v H2) (hk.run σ F1 L (satV_up e1 s) (satC_up e1 cc) _ X q1) fun y F2 e2 ⟨a, ⟨b, q2, q3⟩, hy⟩ => .of fun F3 N H e A Qk qk => by
    obtain ⟨D, o, zs, rfl, hD, hr, hn⟩ := hx
    have ey := c.val hy
    subst ey
    rcases relD_get hr a with ⟨g1, _⟩ | ⟨b', v, g1, g2, g3⟩
    · rw [g1] at q2; cases q2
    · rw [g1] at q2
      cases q2
      exact ⟨D, v, rfl, .inl ⟨zs, _, .inr ⟨o, A.ex _ _ (e _ _ (e2 _ _ hD))⟩, rfl, g2.symm⟩, qk _ F3 H (Same.refl _) A ⟨b, q3, Mono.mono _ _ _ (e2.trans e) g3⟩⟩⟩
/-! ### own = own + .. -/
/-! ### int of a truth, max of a list -/
end
end Tw

/-! Tl4: max of a list, tuple of a tuple; a def that may raise, where it does not. -/
namespace Tw
open PySem PySem.Spec PyProof.Rows L2 SlX StX Rs Ma
variable [Rs.Tabz]
section
variable {X : Cx} {e : Expr} {es : List Expr} {t : TA} {p pos : Pos}
end
section
variable {P : Program} {w : World} {K : PySem.W.Frag} {mg : Str → Option Value} {base : Heap} {γ δ : Type} {k : Nat} {x : Str} {Rs : γ → List VP} {spec : γ → (δ → Prop) → (Value → Prop) → Prop} {R : δ → VP}
theorem GfX.pure (h : GfX P w K mg base k x (SpE Rs spec R)) : Gf P w K mg base k x (SpN Rs (fun g Q => spec g Q fun _ => False) R) := by
  obtain ⟨f, fd, ps, F, h1, h2, h3⟩ := h.ex
  refine ⟨f, fd, ps, ⟨fun vs H Q E ⟨g, F0, N, P0, A, hv, q⟩ => F.len vs H Q (fun _ _ _ => False) ⟨g, F0, N, P0, fun _ => False, A, hv, q.1, q.2, fun _ _ _ _ _ _ z => z.elim⟩, fun A outer s H args us vs Q E hr e0 hb r ⟨g, F0, N, P0, A0, hv, hs, q⟩ => ?_⟩, h1, h2, h3⟩
  refine codeAny_mono (F.run A outer s H args us vs Q (fun _ _ _ => False) hr e0 hb r ⟨g, F0, N, P0, fun _ => False, A0, hv, hs, q, fun _ _ _ _ _ _ z => z.elim⟩) fun z s' hq => ?_
  match z, hq with
  | .error err, ⟨_, _, _, _, _, _, _, _, _, _, _, _, z⟩ => exact z.elim
  | .ok (.ret u), hq => exact hq
end
end Tw
namespace Tw
open PySem PySem.Spec PyProof.Rows L2 SlX StX Rs Ma
variable [Rs.Tabz]
section
variable {ε α β γ δ S : Type} {Z : Wsh ε} {ρ : List (Option VP)} {κ : List Ow} {K : PySem.W.Frag} {ta tb : TE} {u : TS} {ma : Wm ε α} {Ra : α → VP} {Rb : β → VP} {Rd : δ → VP} {ρ2 : S → List (Option VP)} {κ2 : S → List Ow}
end
end Tw

/-! Tl5: sorted of one item, whatever it is. -/
namespace Tw
open PySem PySem.Spec PyProof.Rows L2 SlX StX Rs Ma
variable [Rs.Tabz]
section
variable {X : Cx} {e : Expr} {es : List Expr} {t : TA} {p pos : Pos}
end
end Tw

/-! Tm4: values of many kinds; exceptions that keep a value. -/
namespace Tw
open PySem PySem.Spec PyProof.Rows L2 SlX StX Rs Ma Sn Wb
/-- any value that a law puts in the place of another one -/
inductive Wv where
  | dat (d : PyData) | dct | opL | opT | web (rs : Rows) | pool (rss : List Rows) | tp (ws : List Wv) | dk (es : List (Nat × PyData))
/-- the written part, and the classes of webs and pools -/
structure Wx where
  K : PySem.W.Frag
  cw : Addr
  cp : Addr
  P : Program
  w : World
variable [Rs.Tabz]
mutual
noncomputable def fW (X : Wx) : Wv → V → Hp → Prop
  | .dat d => Dt X.K d
  | .dct => fun v F => ∃ a, v = .ref a ∧ F a = some (.dK [])
  | .opL => fun v F => ∃ a xs, v = .ref a ∧ SqL X.K F a xs
  | .opT => fun v F => ∃ a xs, v = .ref a ∧ SqT X.K F a xs
  | .web rs => webP X.cw X.K rs
  | .pool rss => poolP X.cp X.cw X.K X.P X.w rss
  | .tp ws => fun v F => ∃ a xs, v = .ref a ∧ SqT X.K F a xs ∧ fWs X ws xs F
  | .dk es => fDI dN (fD X.K dA) es
noncomputable def fWs (X : Wx) : List Wv → List V → Hp → Prop
  | [], xs, _ => xs = []
  | w :: ws, xs, F => ∃ x ys, xs = x :: ys ∧ fW X w x F ∧ fWs X ws ys F
end
mutual
theorem fW_up {X : Wx} : ∀ (w : Wv) {v : V} {F F' : Hp}, Same F F' → fW X w v F → fW X w v F'
  | .dat d, v, F, F', e, h => dp_up e h
  | .dct, v, F, F', e, ⟨a, h1, h2⟩ => ⟨a, h1, e _ _ h2⟩
  | .opL, v, F, F', e, ⟨a, xs, h1, h2⟩ => ⟨a, xs, h1, sqL_up e h2⟩
  | .opT, v, F, F', e, ⟨a, xs, h1, h2⟩ => ⟨a, xs, h1, sqT_up e h2⟩
  | .web rs, v, F, F', e, h => Mono.mono (R := webP X.cw X.K rs) _ _ _ e h
  | .pool rss, v, F, F', e, h => Mono.mono (R := poolP X.cp X.cw X.K X.P X.w rss) _ _ _ e h
  | .tp ws, v, F, F', e, ⟨a, xs, h1, h2, h3⟩ => ⟨a, xs, h1, sqT_up e h2, fWs_up ws e h3⟩
  | .dk es, v, F, F', e, h => Mono.mono (R := fDI dN (fD X.K dA) es) _ _ _ e h
theorem fWs_up {X : Wx} : ∀ (ws : List Wv) {xs : List V} {F F' : Hp}, Same F F' → fWs X ws xs F → fWs X ws xs F'
  | [], xs, F, F', e, h => h
  | w :: ws, xs, F, F', e, ⟨x, ys, h1, h2, h3⟩ => ⟨x, ys, h1, fW_up w e h2, fWs_up ws e h3⟩
end
instance {X : Wx} {w : Wv} : Mono (fW X w) := ⟨fun v F F' e h => fW_up w e h⟩
/-! ### its text -/
mutual
/-- the value as data -/
def Wv.toD : Wv → PyData
  | .dat d => d
  | .dk es => .dict (es.map fun p => (.int p.1, p.2))
  | .tp ws => .tuple (toDs ws)
  | .dct => .dict []
  | .opL => .dict []
  | .opT => .dict []
  | .web _ => .dict []
  | .pool _ => .dict []
def toDs : List Wv → List PyData
  | [] => []
  | w :: ws => w.toD :: toDs ws
end
mutual
/-- no list, no dict within -/
def flatD : PyData → Bool
  | .none => true
  | .bool _ => true
  | .int _ => true
  | .str _ => true
  | .tuple xs => flatDs xs
  | .list _ => false
  | .dict _ => false
def flatDs : List PyData → Bool
  | [] => true
  | x :: xs => flatD x && flatDs xs
end
mutual
/-- a text can be made of it, part by part -/
def Wv.rd : Wv → Bool
  | .dat d => flatD d
  | .dct => true
  | .dk es => es.all fun p => flatD p.2
  | .tp ws => rds ws
  | .opL => false
  | .opT => false
  | .web _ => false
  | .pool _ => false
def rds : List Wv → Bool
  | [] => true
  | w :: ws => w.rd && rds ws
end
def Wv.shown (w : Wv) : Str := w.toD.shown
def SayW (w : Wv) : Prop := w.rd = true ∧ w.toD.showable = true ∧ w.toD.depth ≤ 60 ∧ w.toD.shown.length ≤ sizeLine
def Wv.says : Wv → Prop
  | .dat d => Sayable d
  | .dct => True
  | .dk es => SayW (.dk es)
  | .tp ws => SayW (.tp ws)
  | _ => False
/-! ### its kind -/
def Wv.isT (T : String) : Wv → Bool
  | .dat d => (kitB (tyName d) T).getD false
  | .dct => T == "dict"
  | .dk _ => T == "dict"
  | .opL => T == "list"
  | .opT => T == "tuple"
  | .tp _ => T == "tuple"
  | _ => false
section
variable {ε : Type} {X : Wx} {F H : Hp}
/-- no web, no pool -/
def Wv.plain : Wv → Bool
  | .web _ => false
  | .pool _ => false
  | _ => true
end
end Tw

/-! Tm5: values of many kinds as values of one kind, and back; defs that raise exceptions which keep a value. -/
namespace Tw
open PySem PySem.Spec PyProof.Rows L2 SlX StX Rs Ma Sn Wb
variable [Rs.Tabz]
section
variable {ε α β : Type} {Z : Wsh ε} {ρ : List (Option VP)} {κ : List Ow} {X : Wx} {te : TE} {i : Nat}
variable {m : Wm ε Wv}
/-- whatever it is -/
def fAny : Unit → VP := fun _ _ _ => True
instance {u : Unit} : Mono (fAny u) := ⟨fun _ _ _ _ h => h⟩
theorem TrE.any {R : α → VP} {m : Wm ε α} (h : TrE Z ρ κ te m R) : TrE Z ρ κ te (fun Q E => m (fun _ => Q ()) E) fAny := h.conv (fun _ => ()) fun _ _ _ _ => True.intro
end
/-! ### exceptions -/
structure Ex where
  cls : Addr
  arg : Option (Str × Wv)
/-- how an exception stands there -/
noncomputable def xrE (Y : Wx) (e : Ex) (cls : Value) (d : Option Addr) (F : Hp) : Prop := cls = .ref e.cls ∧ ∀ f w, e.arg = some (f, w) → ∃ dd v, d = some dd ∧ F dd = some (.xd [(f, v)]) ∧ fW Y w v F
noncomputable def Zy (Y : Wx) (W : WX) (n : Nat) : Wsh Ex where
  wi := W
  xr := xrE Y
  t := fun σ _ _ => σ.length = n
  tl := fun _ _ _ _ h => h
section
variable {X : Cx} {e : Expr} {es : List Expr} {t : TA} {p pos : Pos} {f : Str} {W : WX}
end
section
variable {α γ δ S : Type} {ρ : List (Option VP)} {κ : List Ow} {Y : Wx} {t : TA} {mg : Wm Ex γ} {Rs : γ → List VP} {Rd : δ → VP} {W : WX} {n : Nat} {ρ2 : S → List (Option VP)} {κ2 : S → List Ow}
end
section
variable {P : Program} {w : World} {K : PySem.W.Frag} {mg : Str → Option Value} {base : Heap} {γ δ : Type} {Y : Wx}
end
end Tw

/-! Tm6: a lambda handed to a def of the law's. -/
namespace LmR
open PySem PySem.Spec PyProof.Rows L2 LamX
section
variable {X : Cx} {pins : List (Addr × Obj)} {σ : L2.St} {H : Hp} {s : Shared}
end
end LmR

/-! Tm7: a law's def that calls what it got, and tells the error by a word. -/
namespace Tw
open PySem PySem.Spec PyProof.Rows L2 SlX StX Rs Ma Sn Wb LmR
variable [Rs.Tabz]
/-! ### the word for an error -/
inductive MetW where
  | word (s : Str) | kept (pre f : Str)
  /-- .. and the number kept, by str -/
  | keptS (pre f : Str)
structure MetC where
  C : Addr
  w : MetW
def metK (Y : Wx) : List MetC → Ex → (Str → Prop) → Prop
  | [], _, _ => False
  | m :: ms, e, Q => ∃ b, PySem.W.exmOne Y.K (.ref e.cls) (.ref m.C) = some b ∧ (b = true → match m.w with
      | .word s => Q s
      | .kept pre f => e.cls = m.C ∧ ∃ w, e.arg = some (f, w) ∧ w.says ∧ pre.length + w.shown.length ≤ sizeLine ∧ Q (pre ++ w.shown)
      | .keptS pre f => e.cls = m.C ∧ ∃ i : Int, e.arg = some (f, .dat (.int i)) ∧ i.natAbs.log2 < 1920 ∧ pre.length + (toString i : Str).length ≤ sizeLine ∧ Q (pre ++ (toString i : Str))) ∧ (b = false → metK Y ms e Q)
section
variable {X : Cx} {Y : Wx}
open LamX in
end
section
variable {ε β : Type} {Z : Wsh ε} {ρ : List (Option VP)} {κ : List Ow} {Y : Wx} {n : Nat} {Rb : β → VP} {t : XK → TE} {mb : Wm Ex β} {P : Addr} {q ret : Str} {ms : List MetC}
/-- a def's run, its error told by a word -/
def lamW (Y : Wx) (ms : List MetC) (ret : Str) (mb : Wm Ex β) (Q : Str → Prop) : Prop := mb (fun _ => Q ret) fun e => metK Y ms e Q
end
end Tw

/-! Tm8: d(lambda: e) as a rule; defs with lambdas. -/
namespace Tw
open PySem PySem.Spec PyProof.Rows L2 SlX StX Rs Ma Sn Wb LmR
variable [Rs.Tabz]
section
variable {P : Program} {w : World} {K : PySem.W.Frag} {mg : Str → Option Value} {base : Heap} {γ δ : Type}
end
section
variable {ε : Type} {Z : Wsh ε} {ρ : List (Option VP)} {κ : List Ow} {X : Wx} {te : TE} {m : Wm ε Wv} {K : PySem.W.Frag}
end
section
variable {X : Cx} {e : Expr} {es : List Expr} {t : TA} {p pos : Pos}
end
section
variable {γ δ S : Type} {ρ : List (Option VP)} {κ : List Ow} {Y : Wx} {Rd : δ → VP} {W : WX} {n : Nat} {ρ2 : S → List (Option VP)} {κ2 : S → List Ow} {u : TS}
end
end Tw

/-! Tn0: the head of a law with several tables of code objects. -/
namespace Tw
open PySem PySem.Spec PyProof.Rows L2 SlX StX Rs Ma Sn
section
variable {P : Program} {w : World} {K : PySem.W.Frag} {mg mb : Str → Option Value} {k : Nat} {fa a : Addr} {cs : List (Addr × Addr)} {fd : FuncData} {x : Str} {s₁ : Shared} {vs : List Value} {ns : List Int}
end
end Tw

/-! Tn1: facts of own errors and own classes, as closed truths. -/
namespace Tw
open PySem PySem.Spec PyProof.Rows L2 SlX StX Rs Ma Sn
end Tw

/-! Tq0: methods that may raise. -/
namespace Tw
open PySem PySem.Spec PyProof.Rows L2 SlX StX Rs Ma Sn Wb
variable [Rs.Tabz]
section
variable {X : Cx} {o e : Expr} {es : List Expr} {m : Str} {pos apos : Pos} {ta : TE} {t : TA} {E : XK}
end
section
variable {α γ δ : Type} {ρ : List (Option VP)} {κ : List Ow} {Y : Wx} {ta : TE} {t : TA} {ma : Wm Ex α} {mg : Wm Ex γ} {Ra : α → VP} {Rs : γ → List VP} {Rd : δ → VP} {n : Nat} {E : XK}
end
section
variable {P : Program} {w : World} {K : PySem.W.Frag} {mg : Str → Option Value} {base : Heap} {γ δ : Type} {Y : Wx}
end
section
variable {α β δ : Type} {ρ : List (Option VP)} {κ : List Ow} {Y : Wx} {ta tb : TE} {ma : Wm Ex α} {mb : Wm Ex β} {Ra : α → VP} {Rb : β → VP} {Rd : δ → VP} {n : Nat} {E : XK}
end
end Tw

/-! Tq1: a law's def that gives back what the call gives, or a word for its error. -/
namespace Tw
open PySem PySem.Spec PyProof.Rows L2 SlX StX Rs Ma Sn Wb LmR
variable [Rs.Tabz]
section
variable {X : Cx} {Y : Wx}
open LamX in
end
section
variable {ε β : Type} {Z : Wsh ε} {ρ : List (Option VP)} {κ : List Ow} {Y : Wx} {n : Nat} {Rb : β → VP} {t : XK → TE} {mb : Wm Ex β} {P : Addr} {q : Str} {ms : List MetC}
end
end Tw

/-! Tq2: lists of two things of different kinds. -/
namespace Tw
open PySem PySem.Spec PyProof.Rows L2 SlX StX Rs Ma Sn Wb
variable [Rs.Tabz]
section
variable {ε α β : Type} {Z : Wsh ε} {ρ : List (Option VP)} {κ : List Ow} {ta tb : TE} {ma : Wm ε α} {mb : Wm ε β} {Ra : α → VP} {Rb : β → VP} {K : PySem.W.Frag}
/-- a list of two things -/
def fPL2 (Ra : α → VP) (Rb : β → VP) : α × β → VP := fun p => Ln [Ra p.1, Rb p.2]
instance [∀ a, Mono (Ra a)] [∀ b, Mono (Rb b)] {p : α × β} : Mono (fPL2 Ra Rb p) := inferInstanceAs (Mono (Ln [Ra p.1, Rb p.2]))
end
section
variable {ε α β γ δ S : Type} {Z : Wsh ε} {ρ : List (Option VP)} {κ : List Ow} {ta tb tc : TE} {u : TS} {ma : Wm ε α} {mb : Wm ε β} {mc : Wm ε γ} {Ra : α → VP} {Rb : β → VP} {Rc : γ → VP} {Rd : δ → VP} {ρ2 : S → List (Option VP)} {κ2 : S → List Ow}
end
end Tw

/-! Tq3: a thing of one of two kinds. -/
namespace Tw
open PySem PySem.Spec PyProof.Rows L2 SlX StX Rs Ma Sn Wb LmR
variable [Rs.Tabz]
section
variable {ε α β : Type} {Z : Wsh ε} {ρ : List (Option VP)} {κ : List Ow} {te : TE} {Ra : α → VP} {Rb : β → VP} {K : PySem.W.Frag}
/-- one of two kinds -/
def fEi (Ra : α → VP) (Rb : β → VP) : α ⊕ β → VP := fun x => match x with
  | .inl a => Ra a
  | .inr b => Rb b
instance [∀ a, Mono (Ra a)] [∀ b, Mono (Rb b)] {x : α ⊕ β} : Mono (fEi Ra Rb x) := by
  cases x
  · exact inferInstanceAs (Mono (Ra _))
  · exact inferInstanceAs (Mono (Rb _))
end
section
variable {ε β : Type} {Z : Wsh ε} {ρ : List (Option VP)} {κ : List Ow} {Y : Wx} {n : Nat} {Rb : β → VP} {t : XK → TE} {mb : Wm Ex β} {P : Addr} {q : Str} {ms : List MetC}
end
end Tw

/-! Tq4: a list of anything != []. -/
namespace Tw
open PySem PySem.Spec PyProof.Rows L2 SlX StX Rs Ma Sn Wb
variable [Rs.Tabz]
section
variable {ε α β : Type} {K : PySem.W.Frag} {R : α → VP} {Rb : β → VP}
end
end Tw

/-! Tq5: != of tuples whose items are alike, by their own ==. -/
namespace NeG
open PySem PySem.SeqAt GQ
open AutoSeq1 (wpAny_loadPart')
open MeetsSeq MeetsSeq2 MeetsSeq3 SeqRoads2
section
variable {prog : Program} {w : World} {A : Around} {R : Result → Shared → Prop}
end
section
variable {prog : Program} {w : World} {A : Around} {E : Value → Shared → Prop} {s : Shared}
end
end NeG
namespace Tw
open PySem PySem.Spec PyProof.Rows L2 SlX StX Rs Ma Sn
section
variable {X : Cx} {α : Type} {Ra : α → VP} {C : Addr} {k : Nat}
end
section
variable {ε α : Type} {K : PySem.W.Frag} {Ra : α → VP}
end
end Tw

/-! Tr1: == of tuples of own objects, whatever they are. -/
namespace EqB
open PySem PySem.SeqAt GQ
open AutoSeq1 (wpAny_loadPart')
open MeetsSeq MeetsSeq2 MeetsSeq3 SeqRoads2
section
variable {prog : Program} {w : World} {A : Around} {R : Result → Shared → Prop}
end
section
variable {prog : Program} {w : World} {A : Around} {E : Value → Shared → Prop} {s : Shared}
end
end EqB
namespace Tw
open PySem PySem.Spec PyProof.Rows L2 SlX StX Rs Ma Sn
theorem each_at {α : Type} {Ra : α → VP} {H : Hp} : ∀ {as : List α} {xs : List V} {i : Nat} {x : V}, Each (as.map Ra) xs H → xs[i]? = some x → ∃ a, as[i]? = some a ∧ Ra a x H
  | [], [], i, x, _, h => by simp at h
  | a :: as, y :: ys, 0, x, hv, h => by
    rw [List.getElem?_cons_zero] at h ⊢
    cases h
    exact ⟨a, rfl, hv.1⟩
  | a :: as, y :: ys, i + 1, x, hv, h => by
    rw [List.getElem?_cons_succ] at h ⊢
    exact each_at hv.2 h
  | [], _ :: _, _, _, hv, _ => hv.elim
  | _ :: _, [], _, _, hv, _ => hv.elim
section
variable {X : Cx} {α : Type} [DecidableEq α] {Ra : α → VP} {C : Addr} {k : Nat}
end
section
variable {ε α : Type} [DecidableEq α] {K : PySem.W.Frag} {Ra : α → VP}
end
end Tw

/-! Tr2: words with K told; isinstance(x, str) of a string or a tuple. -/
namespace Tw
open PySem PySem.Spec PyProof.Rows L2 SlX StX Rs Ma Sn
section
variable {X : Cx}
end
variable [Rs.Tabz]
section
variable {ε α : Type} {K : PySem.W.Frag} {d : α → PyData}
end
section
variable {ε α β γ δ S : Type} {Z : Wsh ε} {ρ : List (Option VP)} {κ : List Ow} {K : PySem.W.Frag} {ta tb tc : TE} {u : TS} {ma : Wm ε α} {mb : Wm ε β} {mc : Wm ε γ} {Ra : α → VP} {Rb : β → VP} {Rc : γ → VP} {Rd : δ → VP} {ρ2 : S → List (Option VP)} {κ2 : S → List Ow}
end
end Tw

/-! Tu0: a list comprehension whose element is told with the def's own state in hand. -/
namespace LmC
open PySem PySem.Spec PyProof.Rows L2 LamX
section
variable {X : Cx}
end
end LmC

/-! Tu1: lambdas as values: made, kept in a list, called one by one in a comprehension. -/
namespace LmC
open PySem PySem.Spec PyProof.Rows L2 LamX
/-- a lambda's object -/
def LamO (f : Addr) (q : Str) (params : Arguments) (body : Expr) (scope : Scope) (cl : List (Str × Addr)) (c' : Addr) : HO := .ext fun h => ∃ pm ctv : Value, h.get? f = some (PySem.W.kla_obj "<lambda>" q params body scope cl pm c' ctv)
section
variable {X : Cx} {pins : List (Addr × Obj)} {σ : L2.St} {H : Hp} {s : Shared}
/-- what is known of a lambda's body: its reading -/
structure LamRec where
  params : Arguments
  body : Expr
  scope : Scope
def BdOk (X : Cx) (k : Nat) (r : LamRec) (t : XK → TE) : Prop := LamS X.env.scope r.scope ∧ (∀ (q : Str) (cl : List (Str × Addr)) (pm cv ctv : Value), bindArgs (PySem.W.kla_fn "<lambda>" q r.params r.body r.scope cl pm cv ctv) ⟨[], []⟩ = pure []) ∧
  ∀ (A : Around) (outer : List Env) (s : Shared) (H : Hp) (E : XK) (f c' : Addr), Room k (A.deeper (lamEnv X r.scope s.heap.objs.size f c')) → PE (lamCx X A outer s H E r.scope f c') r.body (t E)
end
end LmC

/-! Tu2: lambdas as values, in plain terms. -/
namespace Tw
open PySem PySem.Spec PyProof.Rows L2 SlX StX Rs Ma Sn Wb LmR LmC LamX
variable [Rs.Tabz]
/-- a lambda made in the run of the def whose cells are these -/
def fLam (q : Str) (cl : List (Str × Addr)) : LamRec → VP := fun r v F => ∃ f c', v = .ref f ∧ F f = some (LamO f q r.params r.body r.scope (cloFrom cl r.scope.names []) c') ∧ F c' = some (CodeO c' q)
instance {q : Str} {cl : List (Str × Addr)} {r : LamRec} : Mono (fLam q cl r) := ⟨fun _ _ _ e ⟨f, c', h, h1, h2⟩ => ⟨f, c', h, e _ _ h1, e _ _ h2⟩⟩
section
variable {ε β : Type} {Z : Wsh ε} {ρ : List (Option VP)} {κ : List Ow} {Y : Wx} {n : Nat} {P : Addr} {q ret : Str} {cl : List (Str × Addr)} {ms : List MetC}
end
end Tw

/-! Tu3: lambdas of a def, known by their number. -/
namespace Tw
open PySem PySem.Spec PyProof.Rows L2 SlX StX Rs Ma Sn Wb LmR LmC LamX
variable [Rs.Tabz]
def fLamN (q : Str) (cl : List (Str × Addr)) (rs : List LamRec) : Nat → VP := fun j v F => ∃ r, rs[j]? = some r ∧ fLam q cl r v F
instance {q : Str} {cl : List (Str × Addr)} {rs : List LamRec} {j : Nat} : Mono (fLamN q cl rs j) := ⟨fun _ _ _ e ⟨r, h, x⟩ => ⟨r, h, Mono.mono (R := fLam q cl r) _ _ _ e x⟩⟩
abbrev WStr := (Str → Prop) → Prop
/-- each lambda's body is told -/
inductive LmsOk (X : Cx) (k n : Nat) (Y : Wx) (ms : List MetC) (ret : Str) (ρ : List (Option VP)) : List LamRec → List WStr → Prop
  | nil : LmsOk X k n Y ms ret ρ [] []
  | cons {r : LamRec} {rs : List LamRec} {ws : List WStr} {β : Type} {Rb : β → VP} {mb : Wm Ex β} {t : XK → TE} : BdOk X k r t → (∀ E : XK, TrE (Zy Y (fun cls d _ H => E cls d H) n) ρ [] (t E) mb Rb) → LmsOk X k n Y ms ret ρ rs ws → LmsOk X k n Y ms ret ρ (r :: rs) (lamW Y ms ret mb :: ws)
section
variable {ε : Type} {Z : Wsh ε} {ρ : List (Option VP)} {κ : List Ow} {Y : Wx} {k n : Nat} {P : Addr} {q ret : Str} {cl : List (Str × Addr)} {ms : List MetC} {X : Cx}
theorem LmsOk.get {r : LamRec} {w : WStr} : ∀ {rs : List LamRec} {ws : List WStr} {j : Nat}, LmsOk X k n Y ms ret ρ rs ws → rs[j]? = some r → ws[j]? = some w → ∃ (β : Type) (Rb : β → VP) (mb : Wm Ex β) (t : XK → TE), BdOk X k r t ∧ (∀ E : XK, TrE (Zy Y (fun cls d _ H => E cls d H) n) ρ [] (t E) mb Rb) ∧ w = lamW Y ms ret mb
  | _, _, 0, .cons b h _, hr, hw => by
    cases hr
    cases hw
    exact ⟨_, _, _, _, b, h, rfl⟩
  | _, _, j + 1, .cons _ _ l, hr, hw => LmsOk.get (j := j) l hr hw
end
section
variable {X : Cx} {k : Nat}
end
end Tw

/-! Tu4: a tuple of alike data, as a tuple of any data. -/
namespace Tw
open PySem PySem.Spec PyProof.Rows L2 SlX StX Rs Ma Sn Wb
variable [Rs.Tabz]
section
variable {ε α : Type} {Z : Wsh ε} {ρ : List (Option VP)} {κ : List Ow} {K : PySem.W.Frag} {te : TE} {d : α → PyData} {m : Wm ε (List α)}
end
end Tw

/-! Tu5: x[:-1] of a tuple. -/
namespace Tw
open PySem PySem.Spec PyProof.Rows L2 SlX StX Rs Ma Sn Wb
variable [Rs.Tabz]
section
variable {ε α : Type} {Z : Wsh ε} {ρ : List (Option VP)} {κ : List Ow} {K : PySem.W.Frag} {te tx : TE} {R : α → V → Hp → Prop} {ml : Wm ε (List α)} {mx : Wm ε Int}
end
end Tw

/-! Tv0: errors held as values: C(e), isinstance(x, c), x.f. -/
namespace L2
open PySem PySem.Spec PyProof.Rows
/-- an error of the class D at a, made and not raised -/
def exAt (H : Hp) (a D : Addr) : Prop := H a = some (ExO (.ref D) a) ∨ ∃ dd fs, H a = some (exo a D (some dd)) ∧ H dd = some (.xd fs)
end L2

/-! Tv1: errors held as values, in plain terms. -/
namespace Tw
open PySem PySem.Spec PyProof.Rows L2 SlX StX Rs Ma Sn Wb
variable [Rs.Tabz]
/-- an error: its class, and where its own __init__ keeps something, what -/
structure Exv where
  cls : Addr
  arg : Option (Str × PyData)
def exvAt (K : PySem.W.Frag) (e : Exv) (a : Addr) (F : Hp) : Prop := match e.arg with
  | none => F a = some (ExO (.ref e.cls) a)
  | some (f, d) => ∃ dd y, F a = some (exo a e.cls (some dd)) ∧ F dd = some (.xd [(f, y)]) ∧ Dt K d y F
def fX (K : PySem.W.Frag) (e : Exv) : VP := fun v F => ∃ a, v = .ref a ∧ exvAt K e a F
instance {K : PySem.W.Frag} {e : Exv} : Mono (fX K e) := ⟨fun v F F' s h => by
  obtain ⟨a, rfl, h⟩ := h
  obtain ⟨c, arg⟩ := e
  cases arg with
  | none => exact ⟨a, rfl, s _ _ h⟩
  | some p =>
    obtain ⟨f, d⟩ := p
    obtain ⟨dd, y, h1, h2, h3⟩ := h
    exact ⟨a, rfl, dd, y, s _ _ h1, s _ _ h2, dp_up s h3⟩⟩
theorem exvAt.at {K : PySem.W.Frag} {e : Exv} {a : Addr} {F H : Hp} (h : exvAt K e a F) (s : Same F H) : exAt H a e.cls := by
  obtain ⟨c, arg⟩ := e
  cases arg with
  | none => exact .inl (s _ _ h)
  | some p =>
    obtain ⟨f, d⟩ := p
    obtain ⟨dd, y, h1, h2, h3⟩ := h
    exact .inr ⟨dd, _, s _ _ h1, s _ _ h2⟩
section
variable {X : Cx} {x f : Str} {C : Addr} {k : Nat} {e : Expr} {es : List Expr} {te : TE} {ta : TA} {p pos : Pos}
end
section
variable {ε α : Type} {Z : Wsh ε} {ρ : List (Option VP)} {κ : List Ow} {K : PySem.W.Frag} {te : TE} {ta : TA} {R : α → VP} {m : Wm ε α}
end
section
variable {ε : Type} {Z : Wsh ε} {ρ : List (Option VP)} {κ : List Ow} {K : PySem.W.Frag} {te : TE}
end
/-! what the classes say -/
end Tw

/-! Tv2: f() where no repr is under way. -/
namespace Tw
open PySem PySem.Spec PyProof.Rows L2 SlX StX Rs Ma Sn Wb
variable [Rs.Tabz]
section
variable {X : Cx} {f : Str} {p pos : Pos}
end
end Tw

/-! Tv3: what an own error over KeyError asks of KeyError. -/
namespace Tw
open PySem PySem.Spec PyProof.Rows L2 PySem.W
end Tw

/-! Tv4: making an own error over KeyError: LookupError.__new__ makes it, KeyError.__init__ stands behind super(). -/
namespace PySem
namespace SuI
open PySem.W PySem.Calls PyProof.Rows PySem.Spec PySem.HandSPX Tw
section
variable {M : Model} {prog : Program} {w : World} {A : Around} {E : Value → Shared → Prop} {R : Result → Shared → Prop} {h : Heap} {g : Array GenState} {d : Drawn} {t : Nat} {os : OsState} {nm q : Str} {C N : Addr} {bs bm : List Value} {hdct : Bool} {sn : List Str} {sub : List Value} {ab : Bool} {col : Option Bool} {dd : Option Addr} {k0 k1 k2 k3 k5 : Option Value}
/-- what the class's bases say -/
structure TailKE (bm : List Value) : Prop where
  l : bm.contains (.type "LookupError") = true
  a : bm.contains (.type "AttributeError") = false
  n : bm.contains (.type "NameError") = false
theorem TailKE.cons {x : Value} {C : Addr} {b : Bool} (h : bm.contains x = b) (hx : (x == Value.ref C) = false) : (Value.ref C :: bm).contains x = b := by
  rw [List.contains_cons, h, hx, Bool.false_or]
end
end SuI
end PySem

/-! Tv5: an own error over KeyError, with `super().__init__('..'); self.f = f`, held as a value. -/
namespace PySem
namespace SuI
open PySem.W PySem.Calls PyProof.Rows PySem.Spec Tw
section
variable {prog : Program} {w : World} {A : Around} {E : Value → Shared → Prop} {h : Heap} {g : Array GenState} {d : Drawn} {t : Nat} {os : OsState} {K : Frag}
end
section
variable {prog : Program} {w : World} {A : Around} {R : Result → Shared → Prop} {s : Shared} {K : Frag} {mg mb : Str → Option Value}
end
end SuI
end PySem
namespace L2
open PySem PySem.Spec PyProof.Rows
end L2
namespace Tw
open PySem PySem.Spec PyProof.Rows L2 SlX StX Rs Ma Sn Wb
section
variable {X : Cx} {x f : Str} {C : Addr} {k : Nat} {e : Expr} {ta : TA} {p pos : Pos}
end
end Tw

/-! Tv6: isinstance of a value of any kind in laws without pools. -/
namespace Tw
open PySem PySem.Spec PyProof.Rows L2 SlX StX Rs Ma Sn Wb
variable [Rs.Tabz]
section
variable {ε : Type} {X : Wx}
end
end Tw

/-! Pd0: d.get(k, e) of a dict by nested keys. -/
namespace Sn
open PySem PySem.Spec PyProof.Rows L2 PySem.W
variable [Rs.Tabz]
/-- d.get(k, e) -/
def tGetK (K : PySem.W.Frag) (P : Program) (w : World) (td : TE) (ta : TA) : TE := fun σ H Q => td σ H fun x H1 => ∃ D zs, x = .ref D ∧ Rd H1 D (dictN P w zs D) ∧ (∀ z ∈ zs, KeyAt K H1 z.1 z.2.1) ∧
  ta σ H1 fun vs H2 => ∃ a k y, vs = [.ref a, y] ∧ Rd H2 D (dictN P w zs D) ∧ (∀ z ∈ zs, KeyAt K H2 z.1 z.2.1) ∧ KeyAt K H2 k a ∧ Q (((atN zs k).map (·.2)).getD y) H2
theorem p_getK {X : Cx} {o e : Expr} {es : List Expr} {td : TE} {ta : TA} {apos cpos : Pos} (K : PySem.W.Frag) (P : Program) (w : World) (hu : X.A.units + 64 < cLine) (ho : PE X o td) (ha : PA X (e :: es) ta) (hK : X.K = K := by rfl) (hP : X.prog = P := by rfl) (hw : X.w = w := by rfl)
    (hbase : attributeBase o "get" X.env (eval o X.env) = eval o X.env := by rfl)
    (hfew : ((backTo cpos (starEach (e :: es) X.env)).all (fun x => !x.1) && (backToKw cpos (keywordEach [] X.env)).all (fun x => x.1.isSome)
      && decide ((e :: es).length + ([] : List Keyword).length + (if ([] : List Keyword).isEmpty then 0 else 1) < 30)) = true := by rfl)
    (hline : (apos.endLine == cpos.line) = true := by rfl) (hs : starEach (e :: es) X.env = (false, eval e X.env) :: starEach es X.env := by rfl) (hplain : (backTo cpos (starEach es X.env)).any (·.1) = false := by rfl) :
    PE X (.Call (.Attribute o "get" apos) (e :: es) [] cpos) (tGetK K P w td ta) := by
  subst hK; subst hP; subst hw
  refine ⟨fun pins s σ H Q I h => ?_⟩
  refine wpAny_Call_method_late hbase hfew hline rfl (thn (ho.run pins s σ H _ I h) fun v s1 ⟨x, H1, I1, r1, D, zs, ex, hD, hz, q1⟩ => ?_)
  subst ex
  obtain rfl : v = Value.ref D := r1
  obtain ⟨q0, _, ys, rel, dd⟩ := dict_at I1 hD hz
  refine ⟨"dict", "dict.get", PySem.F.plainAttrs_dict, PySem.F.slot_dict_get, PySem.F.type_dict_get, dd.typeIs, ?_, ?_⟩
  · intro b eb
    cases eb
    obtain ⟨oo, _, _, h1, h2, _⟩ := dd
    exact ⟨oo, h1, h2.2.1⟩
  have hA := ha.run cpos pins s1 σ H1 _ I1 q1
  rw [hs] at hA ⊢
  refine Calls.callWith_builtin (by show (false || (backTo cpos (starEach es X.env)).any (·.1)) = false; rw [hplain] <;> rfl) (Calls.evalArgs_plain ?_)
  refine thn hA fun us s2 ⟨vs, H2, I2, r2, a, k, y, ev, hD2, hz2, hk, q⟩ => ?_
  subst ev
  obtain ⟨u1, us1, e1, rk, rr⟩ : ∃ u1 us1, us = u1 :: us1 ∧ RelV (.ref a) u1 ∧ Vals [y] us1 := by cases r2 with | cons rk rr => exact ⟨_, _, rfl, rk, rr⟩
  obtain ⟨u2, us2, e2, ry, rn⟩ : ∃ u1 us2, us1 = u1 :: us2 ∧ RelV y u1 ∧ Vals [] us2 := by cases rr with | cons rk rr => exact ⟨_, _, rfl, rk, rr⟩
  cases rn
  subst e2
  subst e1
  obtain rfl : u1 = Value.ref a := rk
  obtain ⟨q0, _, ys2, rel2, dd2⟩ := dict_at I2 hD2 hz2
  refine getOr_keyed (show X.A.in1.units + 8 < cLine by rw [Around.in1_units]; omega) (key_at I2 hk) q0 ⟨ys2, dd2, rfl⟩ ?_
  have r3 : RelV (((atN zs k).map (·.2)).getD y) ((valueAt (pairsH ys2) k).getD u2) := by
    rw [valueAt_pairsH]
    rcases atN_rel rel2 k with ⟨e1, e2⟩ | ⟨b, v, u, e1, e2, r⟩
    · rw [e1, e2]; exact ry
    · rw [e1, e2]; exact r
  exact ⟨_, H2, I2.tok _, r3, q⟩
end Sn

/-! Pd1: dicts by keys that are tuples of any nested data. -/
namespace Tw
open PySem PySem.Spec PyProof.Rows L2 SlX StX Rs Ma Sn
variable [Rs.Tabz]
/-- data that are tuples -/
class TupD {α : Type} (d : α → PyData) : Prop where
  tp : ∀ a, ∃ ds, d a = .tuple ds
instance {α : Type} {d : α → PyData} : TupD (dT d) := ⟨fun a => ⟨_, rfl⟩⟩
instance {α β : Type} {d : α → PyData} {e : β → PyData} : TupD (dP d e) := ⟨fun a => ⟨_, rfl⟩⟩
theorem tupD_ref {α : Type} {d : α → PyData} [t : TupD d] {K : PySem.W.Frag} {a : α} {v : V} {F : Hp} (h : Dp K F v (d a)) : ∃ b, v = .ref b := by
  obtain ⟨ds, e⟩ := t.tp a
  rw [e] at h
  cases h
  exact ⟨_, rfl⟩
instance keydO : Keyd dO 0 := ⟨fun o => match o with | none => .none | some n => .num (n : Nat), fun o => by cases o <;> rfl, fun o => by cases o <;> rfl, fun o => by cases o <;> exact Nat.le_refl _, fun a b e => by
  cases a <;> cases b
  · rfl
  · cases e
  · cases e
  · injection e with e
    congr 1
    omega⟩
instance keydP {α β : Type} {d : α → PyData} {e : β → PyData} {n m : Nat} [c : Keyd d n] [c2 : Keyd e m] : Keyd (dP d e) (n + m + 1) := ⟨fun p => .tup [c.key p.1, c2.key p.2], fun p => by
  simp only [NestedKey.data, NestedKey.datas, c.ok, c2.ok]
  rfl, fun p => by simp only [calm, calmAll, c.quiet, c2.quiet]; rfl, fun p => by
  have h1 := c.dep p.1
  have h2 := c2.dep p.2
  simp only [NestedKey.depth, NestedKey.depthAll]
  omega, fun a b h => by
  obtain ⟨a1, a2⟩ := a
  obtain ⟨b1, b2⟩ := b
  injection h with h
  injection h with h1 h2
  injection h2 with h2 _
  rw [c.inj a1 b1 h1, c2.inj a2 b2 h2]⟩
section
variable {ε α β : Type} [DecidableEq α] {Z : Wsh ε} {ρ : List (Option VP)} {κ : List Ow} {K : PySem.W.Frag} {P : Program} {w : World} {d : α → PyData} {n : Nat} [c : Keyd d n] [t : TupD d] {Rb : β → VP} {td te : TE} {ta : TA}
theorem key_of {F F1 H : Hp} {L : Cells} {a : α} {v : V} (hn : n ≤ 8) (hx : Dp K F v (d a)) (s : Same F H) : ∃ b, v = .ref b ∧ KeyAt K H (c.key a) b := by
  obtain ⟨b, rfl⟩ := tupD_ref hx
  exact ⟨b, rfl, keyAt_up s ⟨by rw [c.ok]; exact hx, Nat.le_trans (c.dep a) hn⟩⟩
theorem o_ixDP (hn : n ≤ 8 := by decide) [∀ b, Mono (Rb b)] : Op2 ε (rIxK K P w) (fDK K P w d Rb) (fD K d) (fun kvs a Q X => ∃ b, getA kvs a = some b ∧ Q b) Rb := ⟨fun kvs a x y F L ⟨D, zs, ex, hD, he, _⟩ hy Q X ⟨b, q0, q1⟩ => fun F1 N H e A Qk qk => by
  subst ex
  obtain ⟨kb, rfl, hk⟩ := key_of (F1 := F1) (L := L) hn hy (e.trans A.ex)
  rcases entAll_get he a with ⟨e1, e2⟩ | ⟨b', x, v, e1, e2, hr⟩
  · rw [e1] at q0; cases q0
  · rw [e1] at q0
    cases q0
    exact ⟨kb, D, zs, c.key a, x, v, rfl, rfl, rd_up (e.trans A.ex) hD, fun z hz => keyAt_up (e.trans A.ex) (entAll_keys he z hz), hk, e2, qk _ F1 H (Same.refl _) A ⟨b, q1, Mono.mono _ _ _ e hr⟩⟩⟩
/-- d.get(k, e) -/
theorem tr_getDP {md : Wm ε (List (α × β))} {ma : Wm ε (α × β)} (hn : n ≤ 8 := by decide) [∀ b, Mono (Rb b)] (hd : TrE Z ρ κ td md (fDK K P w d Rb)) (h : TrA Z ρ κ ta ma fun p => [fD K d p.1, Rb p.2]) :
    TrE Z ρ κ (tGetK K P w td ta) (fun Q X => md (fun kvs => ma (fun p => Q ((getA kvs p.1).getD p.2)) X) X) Rb :=
  ⟨inferInstance, fun σ F L s c2 Q X q => rw_bind (k := td σ) (k2 := fun (x : V) (H1 : Hp) (Q : VK) => ∃ D zs, x = .ref D ∧ Rd H1 D (dictN P w zs D) ∧ (∀ z ∈ zs, KeyAt K H1 z.1 z.2.1) ∧ ta σ H1 fun vs H2 => ∃ a k y, vs = [.ref a, y] ∧ Rd H2 D (dictN P w zs D) ∧ (∀ z ∈ zs, KeyAt K H2 z.1 z.2.1) ∧ KeyAt K H2 k a ∧ Q (((atN zs k).map (·.2)).getD y) H2)
    (hd.run σ F L s c2 _ X q) fun x F1 e1 ⟨kvs, q1, D, zs, ex, hD, he, _⟩ => fun F2 N H e A wsh Qk qk => by
    refine ⟨D, zs, ex, rd_up (e.trans A.ex) hD, fun z hz => keyAt_up (e.trans A.ex) (entAll_keys he z hz), ?_⟩
    refine h.run σ F1 L (satV_up e1 s) (satC_up e1 c2) _ X q1 F2 N H e A wsh _ fun vs F3 H3 e3 A3 ⟨p, q3, hv⟩ => ?_
    obtain ⟨v1, v2, rfl, h1, h2⟩ := each2 hv
    obtain ⟨kb, rfl, hk⟩ := key_of (F1 := F3) (L := L) hn h1 A3.ex
    have s3 : Same F1 H3 := (e.trans e3).trans A3.ex
    refine ⟨kb, c.key p.1, v2, rfl, rd_up s3 hD, fun z hz => keyAt_up s3 (entAll_keys he z hz), hk, qk _ F3 H3 e3 A3 ⟨_, q3, ?_⟩⟩
    rcases entAll_get he p.1 with ⟨g1, g2⟩ | ⟨b', x, v, g1, g2, hr⟩
    · rw [g1, g2]; exact h2
    · rw [g1, g2]; exact Mono.mono (R := Rb b') _ _ _ (e.trans e3) hr⟩
end
end Tw

/-! Pd2: len of a dict by nested keys. -/
namespace Sn
open PySem PySem.Spec PyProof.Rows L2 PySem.W Rs
variable [Rs.Tabz]
def rLenDK (K : PySem.W.Frag) (P : Program) (w : World) : List V → Hp → VK → Prop := fun xs H Q => ∃ D zs, xs = [.ref D] ∧ Rd H D (dictN P w zs D) ∧ (∀ z ∈ zs, KeyAt K H z.1 z.2.1) ∧ Q (.int (zs.length : Int)) H
theorem call_lenDK {X : Cx} : CallR X (.builtin "len") (rLenDK X.K X.prog X.w) := by
  intro pins s σ H xs us Q I r h
  obtain ⟨D, zs, rfl, hD, hz, q⟩ := h
  rw [Vals.ref1 r]
  obtain ⟨q0, hl, ys, rel, dd⟩ := dict_at I hD hz
  refine call_len_dictH q0 dd (by rw [← rel.length]; omega) ?_
  rw [← rel.length]
  exact ⟨.int zs.length, H, I.tok _, ⟨_, rfl⟩, q⟩
theorem p_lenDK {X : Cx} {e : Expr} {es : List Expr} {t : TA} {p pos : Pos} (K : PySem.W.Frag) (P : Program) (w : World) (B : Bf X.mg) (ha : PA X (e :: es) t) (hg : Gl X "len" := by rfl) (he : starEach (e :: es) X.env = (false, eval e X.env) :: starEach es X.env := by rfl) (hpl : (backTo pos (starEach es X.env)).any (·.1) = false := by rfl) (hK : X.K = K := by rfl) (hP : X.prog = P := by rfl) (hw : X.w = w := by rfl) :
    PE X (.Call (.Name "len" p) (e :: es) [] pos) (tCB (rLenDK K P w) t) := by
  subst hK; subst hP; subst hw
  exact pe_callB call_lenDK hg B.len PySem.boot_len ha (by decide) (by decide) he hpl
end Sn
namespace Tw
open PySem PySem.Spec PyProof.Rows L2 SlX StX Rs Ma Sn
variable [Rs.Tabz]
theorem c_lenDK {ε α β : Type} [DecidableEq α] {K : PySem.W.Frag} {P : Program} {w : World} {d : α → PyData} {n : Nat} [c : Keyd d n] {Rb : β → VP} [∀ b, Mono (Rb b)] : Cb ε (rLenDK K P w) (fun kvs : List (α × β) => [fDK K P w d Rb kvs]) (fun kvs => pur kvs.length) (fD K dN) := .of fun kvs vs F L hv Q X q => by
  obtain ⟨v, rfl, D, zs, rfl, hD, he, _⟩ := each1 hv
  refine ⟨kvs.length, q, fun F2 N H e2 A Qk qk => ⟨D, zs, rfl, rd_up (e2.trans A.ex) hD, fun z hz => keyAt_up (e2.trans A.ex) (entAll_keys he z hz), ?_⟩⟩
  rw [entAll_len he]
  exact qk _ F2 H (Same.refl _) A (.int _)
end Tw

/-! Pd3: a dict by nested keys of one's own: {}, d[k] = v. -/
namespace Sn
open PySem PySem.Spec PyProof.Rows L2 PySem.W
variable [Rs.Tabz]
def tNewN (P : Program) (w : World) : TE := fun _ H Q => ∀ p, H p = none → Q (.ref p) (upd H p (dictN P w [] p))
/-- d[k] = v -/
def sPutN (K : PySem.W.Frag) (P : Program) (w : World) (td ty tv : TE) : TS := fun D σ H => tv σ H fun v H1 => td σ H1 fun x H2 => ty σ H2 fun y H3 => ∃ d a zs k, x = .ref d ∧ y = .ref a ∧ H3 d = some (dictN P w zs d) ∧ (∀ z ∈ zs, KeyAt K H3 z.1 z.2.1) ∧ KeyAt K H3 k a ∧ zs.length < 100000 ∧ D.nx σ (upd H3 d (dictN P w (putN zs k a v) d))
section
variable {X : Cx} {pins : List (Addr × Obj)} {σ : L2.St} {H : Hp} {s : Shared} {E : Value → Shared → Prop} {D a : Addr} {zs : List Ent} {k : NestedKey} {v : V} {u : Value}
theorem dsetI {Q : Unit → Shared → Prop} {A : Around} (hu : A.units + 64 < cLine) (I : Inv X pins σ H s) (hD : H D = some (dictN X.prog X.w zs D)) (hz : ∀ z ∈ zs, KeyAt X.K H z.1 z.2.1) (hk : KeyAt X.K H k a) (r : RelV v u) (hl : zs.length < 100000)
    (h : ∀ s', Inv X pins σ (upd H D (dictN X.prog X.w (putN zs k a v) D)) s' → Q () s') : wpAny (model X.prog X.w) A (setItem (.ref D) (.ref a) u) Q E s := by
  obtain ⟨q0, _, ys, rel, dd⟩ := dict_at I (.inl hD) hz
  have hyl : ys.length ≤ sizeLine := by rw [← rel.length, sizeLine_eq]; omega
  refine wpAny_setItem_heap (hsz := hyl) (show A.in1.units + 8 < cLine by rw [Around.in1_units]; omega) (key_at I hk) dd fun h' dd' sb => h _ ?_
  obtain ⟨o, es, ep, g1, g2, g3, g4, _, g6⟩ := dd'
  refine d_write I (by rw [hD]; exact True.intro) sb ⟨o, g1⟩ (dictN_new ⟨q0, ?_, _, put_rel rel r, o, es, ep, g1, g2, g3, g4, g6⟩)
  have := putN_len (k := k) (a := a) (v := v) (zs := zs)
  omega
theorem ps_putN {o i value : Expr} {pos pos' : Pos} {td ty tv : TE} (K : PySem.W.Frag) (P : Program) (w : World) (hu : X.A.units + 64 < cLine) (ho : PE X o td) (hi : PE X i ty) (hv : PE X value tv) (hs : swapsWith value (some (.Subscript o i pos')) pos.line X.env = pure false) (hK : X.K = K := by rfl) (hP : X.prog = P := by rfl) (hw : X.w = w := by rfl) :
    PS X (.Assign [.Subscript o i pos'] value pos) (sPutN K P w td ty tv) := by
  subst hK; subst hP; subst hw
  refine ⟨fun pins s σ H D I h => ?_⟩
  refine wpAny_Assign_Subscript (thn (hv.run pins s σ H _ I h) fun r s1 ⟨v, H1, I1, rv, q1⟩ => thn (ho.run pins s1 σ H1 _ I1 q1) fun u s2 ⟨x, H2, I2, rx, q2⟩ => thn (hi.run pins s2 σ H2 _ I2 q2) fun iv s3 ⟨y, H3, I3, ry, d, a, zs, k, ex, ey, hD, hz, hk, hl, q3⟩ => ?_) hs
  subst ex ey
  obtain rfl : u = Value.ref d := rx
  obtain rfl : iv = Value.ref a := ry
  exact dsetI hu I3 hD hz hk rv hl fun s4 I4 => ⟨σ, _, I4, q3⟩
theorem pe_newN {pos : Pos} (P : Program) (w : World) (hP : X.prog = P := by rfl) (hw : X.w = w := by rfl) : PE X (.Dict [] [] pos) (tNewN P w) := by
  subst hP; subst hw
  exact ⟨fun pins s σ H Q I h => wpAny_Dict_empty ⟨.ref s.heap.objs.size, _, I.laid (a := s.heap.objs.size) (o := dictN X.prog X.w [] s.heap.objs.size) (t' := s.toks) (fun _ _ q => Heap.get?_push_of_some _ q) (Nat.le_refl _) (dictN_new (d0_new I.big)), rfl, h _ (I.hok.fresh (Nat.le_refl _))⟩⟩
end
end Sn

/-! Pd4: a dict by nested keys of one's own, in plain terms. -/
namespace Tw
open PySem PySem.Spec PyProof.Rows L2 SlX StX Rs Ma Sn
variable [Rs.Tabz]
/-- a dict of one's own by keys that are tuples -/
def ownDP (K : PySem.W.Frag) (P : Program) (w : World) {α β : Type} [DecidableEq α] (d : α → PyData) {n : Nat} [c : Keyd d n] (R : β → VP) (kvs : List (α × β)) : Addr → HO → Hp → Prop := fun D o F => ∃ zs, o = dictN P w zs D ∧ EntAll K d R zs kvs F ∧ (kvs.map (·.1)).Nodup
instance {K : PySem.W.Frag} {P : Program} {w : World} {α β : Type} [DecidableEq α] {d : α → PyData} {n : Nat} [Keyd d n] {R : β → VP} [∀ b, Mono (R b)] : Bor (fun kvs : List (α × β) => ownDP K P w d R kvs) (fDK K P w d R) := ⟨inferInstance, fun g a o F h q => by
  obtain ⟨zs, rfl, r, n⟩ := q F (Same.refl _)
  exact ⟨a, zs, rfl, .inl upd_same, entAll_up (same_new h) r, n⟩⟩
section
variable {ε α β δ S : Type} [DecidableEq α] {Z : Wsh ε} {ρ : List (Option VP)} {κ : List Ow} {K : PySem.W.Frag} {P : Program} {w : World} {d : α → PyData} {n : Nat} [c : Keyd d n] [t : TupD d] {R : β → VP} {Rd : δ → VP} {td ty tv : TE} {u : TS} {i : Nat} {kvs : List (α × β)} {ρ2 : S → List (Option VP)} {κ2 : S → List Ow} {mk : Wm ε α} {mv : Wm ε β}
theorem dictN_notTup {zs : List Ent} {D : Addr} : ∀ xs, dictN P w zs D ≠ .tup xs := fun _ z => nomatch z
theorem dictN_notTbl {zs : List Ent} {D : Addr} : ∀ ps, dictN P w zs D ≠ .tbl ps := fun _ z => nomatch z
theorem tm_newP [∀ b, Mono (R b)] : TrM Z ρ κ (tNewN P w) (pur ([] : List (α × β))) (ownDP K P w d R) :=
  ⟨fun σ F L s cc Q X q F1 N H e A wsh Qk qk p hp => qk p (dictN P w [] p) F1 _ [] (Same.refl _) (A.cell hp dictN_notTup dictN_notTbl dictN_ne) (fun _ _ => ⟨[], rfl, True.intro, List.nodup_nil⟩) q⟩
theorem ts_putP (hn : n ≤ 8 := by decide) [∀ b, Mono (R b)] {m : β → α → Ws ε S δ} (hv : TrE Z ρ (.one i (ownDP K P w d R kvs) :: κ) tv mv R) (hk : TrE Z ρ (.one i (ownDP K P w d R kvs) :: κ) ty mk (fD K d)) (k : ∀ b a, TrS Z ρ (.one i (ownDP K P w d R (putA kvs a b)) :: κ) u (m b a) ρ2 κ2 Rd) :
    TrS Z ρ (.one i (ownDP K P w d R kvs) :: κ) (tSeq (sPutN K P w (tVar i) ty tv) u) (fun Nx Rt X => mv (fun b => mk (fun a => kvs.length < 100000 ∧ m b a Nx Rt X) X) X) ρ2 κ2 Rd :=
  ⟨fun σ F L sv sc Nx Rt X q F1 N H e A wsh D nx rt => by
    obtain ⟨a, o, L', hL, h1, h2, h3⟩ := sc
    obtain ⟨zs, ho, hr, hnd⟩ := h2 F (Same.refl _)
    subst hL ho
    refine hv.run σ F ((a, dictN P w zs a) :: L') sv ⟨a, _, L', rfl, h1, h2, h3⟩ _ X q F1 N H e A wsh _ fun v F2 H2 e2 A2 ⟨b, q1, hb⟩ => ?_
    have e12 := e.trans e2
    refine ⟨.ref a, h1, ?_⟩
    refine hk.run σ F2 ((a, dictN P w zs a) :: L') (satV_up e12 sv) ⟨a, _, L', rfl, h1, fun F' e' => h2 F' (e12.trans e'), satC_up e12 h3⟩ _ X q1 F2 N H2 (Same.refl _) A2 (wsh.up e2) _ fun y F3 H3 e3 A3 ⟨x, ⟨hz, q2⟩, hx⟩ => ?_
    have e13 := e12.trans e3
    obtain ⟨kb, rfl, hkk⟩ := key_of (F1 := F3) (L := L') hn hx (Same.refl F3)
    refine ⟨a, kb, zs, c.key x, rfl, rfl, A3.on1, fun z hz' => keyAt_up (e13.trans A3.ex) (entAll_keys hr z hz'), keyAt_up A3.ex hkk, by rw [entAll_len hr]; exact hz, ?_⟩
    have hr3 := entAll_put (a := x) (x := kb) (v := v) hkk (Mono.mono _ _ _ e3 hb) (entAll_up e13 hr) hnd
    exact (k b x).run σ F3 ((a, dictN P w (putN zs (c.key x) kb v) a) :: L') (satV_up e13 sv) ⟨a, _, L', rfl, h1, fun F' e' => ⟨_, rfl, entAll_up e' hr3, (putA_nodup hnd).1⟩, satC_up e13 h3⟩ Nx Rt X q2 F3 N _ (Same.refl _) (At.put A3 dictN_notTup dictN_notTbl dictN_ne) (wsh.up (e2.trans e3)) D
      (fun σ4 F4 L4 H4 e4 A4 n => nx σ4 F4 L4 H4 ((e2.trans e3).trans e4) A4 n) fun v F4 H4 e4 A4 n => rt v F4 H4 ((e2.trans e3).trans e4) A4 n⟩
end
end Tw

/-! Pe0: dicts by nested keys that are locked for good: walked by keys and by pairs. -/
namespace Sn
open PySem PySem.Spec PyProof.Rows L2 PySem.W
variable [Rs.Tabz]
/-- the dict that is given is locked for good -/
def tLockV (te : TE) : TE := fun σ H Q => te σ H fun v H1 => ∃ d u, v = .ref d ∧ H1 d = some u ∧ Mut (some u) ∧ ∀ od, Q v (upd H1 d (.frz od u))
/-- ahead of a statement a thing is locked for good -/
def tLockP (t : TS) : TS := fun D σ H => ∃ d u, H d = some u ∧ Mut (some u) ∧ ∀ od, t D σ (upd H d (.frz od u))
theorem pe_lockV {X : Cx} {e : Expr} {te : TE} (he : PE X e te) : PE X e (tLockV te) := by
  refine ⟨fun pins s σ H Q I h => thn (he.run pins s σ H _ I h) fun u s1 ⟨x, H1, I1, rx, d, w, ex, hd, mu, q⟩ => ?_⟩
  obtain ⟨od, I2⟩ := I1.lock hd mu
  exact ⟨x, _, I2, rx, q od⟩
theorem ps_lockP {X : Cx} {st : Stmt} {t : TS} (h : PS X st t) : PS X st (tLockP t) := by
  refine ⟨fun pins s σ H D I hw => ?_⟩
  obtain ⟨d, u, hd, mu, hw⟩ := hw
  obtain ⟨od, I1⟩ := I.lock hd mu
  exact h.run pins s σ _ D I1 (hw od)
section
variable {X : Cx} {pins : List (Addr × Obj)} {σ : L2.St} {H : Hp} {s : Shared} {d : Addr} {o : Obj} {zs : List Ent}
theorem pairedE_get : ∀ {zs : List Ent} {ys : List (NestedKey × Addr × Value)}, Paired EntR zs ys → ∀ {i : Nat} {z : Ent}, zs[i]? = some z → ∃ y, ys[i]? = some y ∧ EntR z y
  | _, _, .nil, i, z, e => by simp at e
  | _, _, .cons r t, 0, z, e => by simp at e; subst e; exact ⟨_, rfl, r⟩
  | _, _, .cons r t, i + 1, z, e => by
    obtain ⟨y, h1, h2⟩ := pairedE_get t (i := i) (by simpa using e)
    exact ⟨y, by simpa using h1, h2⟩
theorem frzN (I : Inv X pins σ H s) (h : H d = some (.frz o (dictN X.prog X.w zs d))) :
    (d == sysModules) = false ∧ s.heap.get? d = some o ∧ o.ExactDict ∧ ∃ (es : Array DictEntry) (ep : Nat), o.data = .dict es ep ∧ es.size = zs.length ∧ s.heap.DictRaw d es ep ∧
      ∀ (i : Nat) (k : NestedKey) (a : Addr) (v : V), zs[i]? = some (k, a, v) → ∃ (en : DictEntry), es[i]? = some en ∧ en.key = .ref a ∧ RelV v en.val := by
  obtain ⟨hd, ⟨hs, _, ys, rel, o', es, ep, ho, hx, hdt, he, _⟩, _⟩ := I.hok d _ h
  rw [hd] at ho
  cases ho
  refine ⟨hs, hd, hx, es, ep, hdt, ?_, ⟨o, hd, hx, hdt⟩, fun i k a v e => ?_⟩
  · have l1 : es.size = ys.length := size_of_entries he
    have l2 := rel.length
    omega
  · obtain ⟨y, hy, e1, e2, e3⟩ := pairedE_get rel e
    have q := entry_at he i
    rw [hy] at q
    have e2 : a = y.2.1 := e2
    exact ⟨_, q, by rw [e2]; rfl, e3⟩
end
/-- the keys of the locked dict at d, in their order -/
def Itn (P : Program) (w : World) (d : Addr) (o : Obj) (zs : List Ent) : It :=
  ⟨fun i H => H d = some (.frz o (dictN P w zs d)) ∧ i < zs.length, fun i H x H' => H' = H ∧ ∃ k a v, zs[i]? = some (k, a, v) ∧ x = .ref a, fun i H => H d = some (.frz o (dictN P w zs d)) ∧ zs.length ≤ i⟩
section
variable {P : Program} {w : World} {K : PySem.W.Frag} {tg : Expr} {d : Addr} {o : Obj} {es : Array DictEntry} {ep : Nat} {zs : List Ent}
theorem turn_keysN (it : Addr) (hod : o.data = .dict es ep) : L2.Turn P w K tg (Itn P w d o zs) [it] it (fun i h => h.IsKeyIter it d i zs.length ep) where
  mem := by simp
  obj := fun i h st b hb => by
    have e : b = it := by simpa using hb
    subst e
    obtain ⟨oi, e, c, dd⟩ := st
    exact ⟨oi, e, fun v z => by rw [dd] at z; cases z⟩
  keep := fun i h h' st k => st.at fun oi e => k it (by simp) oi e
  item := by
    intro X hP hw hK hc i pins s σ H E I hf st hg
    subst hP hw hK
    obtain ⟨hd, hi⟩ := hg
    obtain ⟨f0, f1, f2, f3, f4, f5⟩ := hf it (by simp)
    obtain ⟨hs, hgd, hx, es', ep', hdt, hsz, _, ent⟩ := frzN I hd
    obtain ⟨rfl, rfl⟩ := dict_ep hod hdt
    obtain ⟨⟨k, a, v⟩, hkv⟩ : ∃ p, zs[i]? = some p := ⟨zs[i], List.getElem?_eq_getElem hi⟩
    obtain ⟨en, hen, hkey, hr⟩ := ent i k a v hkv
    refine next_key_item st hgd hdt hsz hen fun h' st' sb => ?_
    have I1 : Inv X pins σ H { s with heap := h' } := I.turned (t' := s.toks) (fun b ob hb e => (sb.2 b hb).trans e) f0 f1 f3 f4 f5
    obtain ⟨oi, e, c, dd⟩ := id st'
    exact ⟨en.key, rfl, go_of (s := { s with heap := h' }) e c dd (by decide) ⟨.ref a, H, I1, hkey, ⟨rfl, k, a, v, hkv, rfl⟩, st', fun b hb => (hf b hb).1⟩⟩
  done := by
    intro X hP hw hK hc i pins s σ H E I hf st hg
    subst hP hw hK
    obtain ⟨hd, hi⟩ := hg
    obtain ⟨f0, f1, f2, f3, f4, f5⟩ := hf it (by simp)
    obtain ⟨hs, hgd, hx, es', ep', hdt, hsz, _, ent⟩ := frzN I hd
    obtain ⟨rfl, rfl⟩ := dict_ep hod hdt
    exact next_key_end (I.ok.hd hc) st hgd hdt hsz hi fun h' eb => ⟨rfl, I.turned (t' := s.toks) (fun b ob hb e => eb b ob hb e) f0 f1 f3 f4 f5⟩
  self := fun A i s Q E st h => by
    refine wpAny_pyIter_slot st.typeIs F.slot_dict_keyiterator_iter (wpAny_call_entry F.slot_dict_keyiterator_iter st.typeIs F.entry_dict_keyiterator_iter ?_ (F.args_dict_keyiterator_iter_1 _))
    show wpAny _ _ (ret (.ref it)) _ _ s
    exact wpAny_pure ⟨_, rfl, "dict_keyiterator", _, st.typeIs, F.slot_dict_keyiterator_next.lookup, h⟩
end
/-- for k in d -/
def iKeysN (P : Program) (w : World) (td : TE) : TI := fun σ H R => td σ H fun x H1 => ∃ d o zs, x = .ref d ∧ H1 d = some (.frz o (dictN P w zs d)) ∧ R (Itn P w d o zs) H1
section
variable {X : Cx} {tg e : Expr} {td : TE} {apos cpos : Pos}
theorem pi_keysN (P : Program) (w : World) (he : PE X e td) (hP : X.prog = P := by rfl) (hw : X.w = w := by rfl) : PI X tg e (iKeysN P w td) := by
  subst hP; subst hw
  refine ⟨fun pins s σ H R I h => ?_⟩
  refine thn (he.run pins s σ H _ I h) fun u s1 ⟨x, H1, I1, rx, d, o, zs, ex, hd, q⟩ => ?_
  subst ex
  obtain rfl : u = Value.ref d := rx
  obtain ⟨hs, hgd, hx, es, ep, hdt, hsz, hraw, ent⟩ := frzN I1 hd
  refine iter_keys hs hgd hx hdt (pi_one (tk := s1.toks) I1 _ (turn_keysN _ hdt) ⟨_, Heap.get?_push_size _ rfl, rfl, ?_⟩ q)
  rw [hsz] <;> rfl
end
end Sn

/-! Pe1: dicts that are locked for good, in plain terms; walks over them; d.get; comprehensions of one's own. -/
namespace Tw
open PySem PySem.Spec PyProof.Rows L2 SlX StX Rs Ma Sn
variable [Rs.Tabz]
/-- a dict by nested keys, locked for good -/
def fDKZ (K : PySem.W.Frag) (P : Program) (w : World) {α β : Type} [DecidableEq α] (d : α → PyData) {n : Nat} [c : Keyd d n] (R : β → VP) : List (α × β) → VP := fun kvs v F => ∃ D o zs, v = .ref D ∧ F D = some (.frz o (dictN P w zs D)) ∧ EntAll K d R zs kvs F ∧ (kvs.map (·.1)).Nodup
instance {K : PySem.W.Frag} {P : Program} {w : World} {α β : Type} [DecidableEq α] {d : α → PyData} {n : Nat} [Keyd d n] {R : β → VP} [∀ b, Mono (R b)] {kvs : List (α × β)} : Mono (fDKZ K P w d R kvs) := ⟨fun _ _ _ e ⟨D, o, zs, h, h1, r, n⟩ => ⟨D, o, zs, h, e _ _ h1, entAll_up e r, n⟩⟩
/-- a thing of one's own that can be locked for good -/
class LkZ {γ : Type} (ow : γ → Addr → HO → Hp → Prop) (fam : outParam (γ → VP)) : Prop where
  mono : ∀ g, Mono (fam g)
  mt : ∀ g a o F, ow g a o F → Mut (some o)
  lk : ∀ g a o F od, F a = none → (∀ F', Same F F' → ow g a o F') → fam g (.ref a) (upd F a (.frz od o))
instance {K : PySem.W.Frag} {P : Program} {w : World} {α β : Type} [DecidableEq α] {d : α → PyData} {n : Nat} [Keyd d n] {R : β → VP} [∀ b, Mono (R b)] : LkZ (fun kvs : List (α × β) => ownDP K P w d R kvs) (fDKZ K P w d R) := ⟨inferInstance, fun g a o F ⟨zs, h, _⟩ => by subst h; exact True.intro, fun g a o F od h q => by
  obtain ⟨zs, rfl, r, n⟩ := q F (Same.refl _)
  exact ⟨a, od, zs, rfl, upd_same, entAll_up (same_new h) r, n⟩⟩
instance {α β : Type} [DecidableEq α] {d : α → PyData} [NumK d] {R : β → VP} [∀ b, Mono (R b)] : LkZ (fun kvs : List (α × β) => ownDI d R kvs) (fDZ d R) := ⟨inferInstance, fun g a o F ⟨zs, h, _⟩ => by subst h; exact True.intro, fun g a o F od h q => by
  obtain ⟨zs, rfl, r, n⟩ := q F (Same.refl _)
  exact ⟨a, od, zs, rfl, upd_same, relD_up (same_new h) r, n⟩⟩
section
variable {ε γ δ S : Type} {Z : Wsh ε} {ρ : List (Option VP)} {κ : List Ow} {te : TE} {t u : TS} {i : Nat} {ow : γ → Addr → HO → Hp → Prop} {fam : γ → VP} {g : γ} {ρ2 : S → List (Option VP)} {κ2 : S → List Ow} {Rd : δ → VP} {m : Wm ε γ} {mm : Ws ε S δ}
theorem tr_lockM [l : LkZ ow fam] (h : TrM Z ρ κ te m ow) : TrE Z ρ κ (tLockV te) m fam :=
  ⟨l.mono, fun σ F L s c Q X q F1 N H e A wsh Qk qk => h.run σ F L s c Q X q F1 N H e A wsh _ fun a o F2 H2 g e2 A2 r q1 => by
    refine ⟨a, o, rfl, A2.on1, (l.mt g a o F2 (r F2 (Same.refl _))), fun od => ?_⟩
    have A3 : At F2 ((a, .frz od o) :: (L ++ N)) (upd H2 a (.frz od o)) := At.put (A := A2)
    exact qk _ _ _ (e2.trans (same_new A2.off1)) A3.keep ⟨g, q1, l.lk g a o F2 od A2.off1 r⟩⟩
theorem ts_lockOwn0 [l : LkZ ow fam] (h : TrS Z (st ρ i (some (fam g))) κ t mm ρ2 κ2 Rd) (hi : Nat.blt i ρ.length = true) : TrS Z ρ (.one i (ow g) :: κ) (tLockP t) mm ρ2 κ2 Rd :=
  ⟨fun σ F L sv sc Nx Rt X q F1 N H e A wsh D nx rt => by
    obtain ⟨a, o, L', hL, h1, h2, h3⟩ := sc
    subst hL
    have A1 : At F1 ((a, o) :: (L' ++ N)) H := A
    refine ⟨a, o, A1.on1, (l.mt g a o F1 (h2 F1 e)), fun od => ?_⟩
    have A2 : At F1 ((a, .frz od o) :: (L' ++ N)) (upd H a (.frz od o)) := At.put (A := A1)
    have e1 : Same F1 (upd F1 a (.frz od o)) := same_new A1.off1
    have sv1 : SatV (st ρ i (some (fam g))) (σ.set i (some (.ref a))) (upd F1 a (.frz od o)) := satV_set (l.lk g a o F1 od A1.off1 fun F' e' => h2 F' (e.trans e')) (l.mono g) (satV_up (e.trans e1) sv)
    have eσ : σ.set i (some (.ref a)) = σ := by
      apply List.ext_getElem?
      intro j
      by_cases hj : i = j
      · subst hj
        rw [List.getElem?_set_self (by rw [← sat_len sv]; exact Nat.le_of_ble_eq_true hi), h1]
      · rw [List.getElem?_set_ne hj]
    rw [eσ] at sv1
    exact h.run σ _ L' sv1 (satC_up (e.trans e1) h3) Nx Rt X q _ N _ (Same.refl _) A2.keep (wsh.up e1) D (fun σ' F' L'' H' e' A' n => nx σ' F' L'' H' (e1.trans e') A' n) (fun v F' H' e' A' r => rt v F' H' (e1.trans e') A' r)⟩
theorem ts_lockOwnq [l : LkZ ow fam] (h : TrS Z (st ρ i (some (fam g))) κ (tSeq t u) mm ρ2 κ2 Rd) (hi : Nat.blt i ρ.length = true) : TrS Z ρ (.one i (ow g) :: κ) (tSeq (tLockP t) u) mm ρ2 κ2 Rd := ⟨(ts_lockOwn0 h hi).run⟩
end
section
variable {ε α β : Type} [DecidableEq α] {Z : Wsh ε} {ρ : List (Option VP)} {κ : List Ow} {K : PySem.W.Frag} {P : Program} {w : World} {d : α → PyData} {n : Nat} [c : Keyd d n] [t : TupD d] {R : β → VP} {te : TE} {md : Wm ε (List (α × β))}
theorem tr_ZK [∀ b, Mono (R b)] (h : TrE Z ρ κ te md (fDKZ K P w d R)) : TrE Z ρ κ te md (fDK K P w d R) := h.same fun _ _ _ ⟨D, o, zs, h1, h2, h3, h4⟩ => ⟨D, zs, h1, .inr ⟨o, h2⟩, h3, h4⟩
theorem entAll_at {F : Hp} : ∀ {zs : List Ent} {kvs : List (α × β)}, EntAll K d R zs kvs F → ∀ {i : Nat} {k : NestedKey} {a : Addr} {v : V}, zs[i]? = some (k, a, v) → ∃ p, kvs[i]? = some p ∧ fD K d p.1 (.ref a) F ∧ R p.2 v F
  | [], [], _, i, _, _, _, e => by simp at e
  | z :: zs, p :: ps, ⟨⟨h1, h2, h3⟩, h4⟩, 0, k, a, v, e => by
    simp at e
    subst e
    refine ⟨p, rfl, ?_, h3⟩
    have h1 : k = c.key p.1 := h1
    have h2 : Dp K F (.ref a) k.data := h2.1
    rw [h1, c.ok] at h2
    exact h2
  | z :: zs, p :: ps, ⟨_, h4⟩, i + 1, k, a, v, e => by
    obtain ⟨q, g1, g2, g3⟩ := entAll_at (i := i) h4 (by simpa using e)
    exact ⟨q, by simpa using g1, g2, g3⟩
  | [], _ :: _, h, _, _, _, _, _ => h.elim
  | _ :: _, [], h, _, _, _, _, _ => h.elim
/-- the keys of a locked dict -/
theorem ti_keysN [∀ b, Mono (R b)] (h : TrE Z ρ κ te md (fDKZ K P w d R)) : TrI Z ρ κ (iKeysN P w te) (fun Q X => md (fun kvs => Q (kvs.map (·.1))) X) (fD K d) :=
  ⟨inferInstance, fun σ F L s cc Q X q => rw_bind (k := te σ) (k2 := fun x H1 (Q : It → Hp → Prop) => ∃ d o zs, x = .ref d ∧ H1 d = some (.frz o (dictN P w zs d)) ∧ Q (Itn P w d o zs) H1) (h.run σ F L s cc _ X q) fun x F1 e1 ⟨kvs, q1, hx⟩ => .of fun F2 N H e A Qk qk => by
    obtain ⟨D, o, zs, rfl, hD, hr, hn⟩ := hx
    refine ⟨D, o, zs, rfl, A.ex _ _ (e _ _ hD), qk _ F2 H (Same.refl _) A ⟨_, q1, ?_⟩⟩
    have hl : ((kvs.map (·.1)).map (fD K d)).length = zs.length := by rw [List.length_map, List.length_map, entAll_len hr]
    refine ⟨fun H => H D = some (.frz o (dictN P w zs D)), fun i H x H' => H' = H ∧ ∃ k a v, zs[i]? = some (k, a, v) ∧ x = .ref a, by rw [hl]; exact ⟨fun _ _ hi q => ⟨q, hi⟩, fun _ q => ⟨q, Nat.le_refl _⟩, fun _ _ _ _ _ _ y => y⟩, fun F3 L3 H3 e3 A3 => A3.ex _ _ (e3 _ _ (e _ _ hD)), fun F3 L3 H3 j x H' e3 A3 hj y => ?_⟩
    obtain ⟨rfl, k, a, v, hk, rfl⟩ := y
    obtain ⟨p, g1, g2, g3⟩ := entAll_at hr hk
    exact ⟨F3, fD K d p.1, Same.refl _, A3, by rw [List.getElem?_map, List.getElem?_map, g1]; rfl, Mono.mono (R := fD K d p.1) _ _ _ (e.trans e3) g2⟩⟩
end
section
variable {ε α β : Type} [DecidableEq α] {Z : Wsh ε} {ρ : List (Option VP)} {κ : List Ow} {K : PySem.W.Frag} {d : α → PyData} [c : NumK d] {R : β → VP} {te td ty tx : TE} {md : Wm ε (List (α × β))} {mk : Wm ε α} {mx : Wm ε β}
theorem tr_ZI [∀ b, Mono (R b)] (h : TrE Z ρ κ te md (fDZ d R)) : TrE Z ρ κ te md (fDI d R) := h.same fun _ _ _ ⟨D, o, zs, h1, h2, h3, h4⟩ => ⟨D, zs, h1, .inr ⟨o, h2⟩, h3, h4⟩
/-- d.get(k, e) -/
theorem tr_getI [∀ b, Mono (R b)] (hd : TrE Z ρ κ td md (fDI d R)) (hk : TrE Z ρ κ ty mk (fD K d)) (hx : TrE Z ρ κ tx mx R) : TrE Z ρ κ (tDGet2 td ty tx) (fun Q X => md (fun kvs => mk (fun a => mx (fun b => Q ((getA kvs a).getD b)) X) X) X) R :=
  ⟨inferInstance, fun σ F L s cc Q X q F1 N H e A wsh Qk qk => hd.run σ F L s cc _ X q F1 N H e A wsh _ fun x F2 H2 e2 A2 ⟨kvs, q1, D, zs, ex, hD, hr, hn⟩ => by
    refine ⟨D, ex, .inl ⟨zs, rd_up A2.ex hD⟩, ?_⟩
    refine hk.run σ F2 L (satV_up (e.trans e2) s) (satC_up (e.trans e2) cc) _ X q1 F2 N H2 (Same.refl _) A2 (wsh.up e2) _ fun y F3 H3 e3 A3 ⟨a, q2, hy⟩ => ?_
    refine hx.run σ F3 L (satV_up ((e.trans e2).trans e3) s) (satC_up ((e.trans e2).trans e3) cc) _ X q2 F3 N H3 (Same.refl _) A3 (wsh.up (e2.trans e3)) _ fun z F4 H4 e4 A4 ⟨b, q3, hz⟩ => ?_
    have ey := c.val hy
    subst ey
    refine ⟨valV zs (c.key a), .inl ⟨zs, _, rd_up ((e3.trans e4).trans A4.ex) hD, rfl, rfl⟩, qk _ F4 H4 ((e2.trans e3).trans e4) A4 ⟨_, q3, ?_⟩⟩
    rcases relD_get hr a with ⟨g1, g2⟩ | ⟨b', v, g1, g2, g3⟩
    · rw [g1, g2]; exact hz
    · rw [g1, g2]; exact Mono.mono (R := R b') _ _ _ (e3.trans e4) g3⟩
/-- d.get(k, None) of numbers -/
theorem tr_getIO {md : Wm ε (List (α × Nat))} (hd : TrE Z ρ κ td md (fDI d (fD K dN))) (hk : TrE Z ρ κ ty mk (fD K d)) : TrE Z ρ κ (tDGet2 td ty (tC .non)) (fun Q X => md (fun kvs => mk (fun a => Q (getA kvs a)) X) X) (fD K dO) :=
  ⟨inferInstance, fun σ F L s cc Q X q F1 N H e A wsh Qk qk => hd.run σ F L s cc _ X q F1 N H e A wsh _ fun x F2 H2 e2 A2 ⟨kvs, q1, D, zs, ex, hD, hr, hn⟩ => by
    refine ⟨D, ex, .inl ⟨zs, rd_up A2.ex hD⟩, ?_⟩
    refine hk.run σ F2 L (satV_up (e.trans e2) s) (satC_up (e.trans e2) cc) _ X q1 F2 N H2 (Same.refl _) A2 (wsh.up e2) _ fun y F3 H3 e3 A3 ⟨a, q2, hy⟩ => ?_
    have ey := c.val hy
    subst ey
    refine ⟨valV zs (c.key a), .inl ⟨zs, _, rd_up (e3.trans A3.ex) hD, rfl, rfl⟩, qk _ F3 H3 (e2.trans e3) A3 ⟨_, q2, ?_⟩⟩
    rcases relD_get hr a with ⟨g1, g2⟩ | ⟨b', v, g1, g2, g3⟩
    · rw [g1, g2]; exact .non
    · rw [g1, g2]; exact Mono.mono (R := fD K dN b') _ _ _ e3 g3⟩
end
/-! ### comprehensions that are one's own -/
section
variable {ε α β γ δ : Type} {Z : Wsh ε} {ρ : List (Option VP)} {κ : List Ow} {K : PySem.W.Frag} {P : Program} {w : World} {tk tv : TE} {tt : TT} {wi : TI} {g : TG} {n : Nat} {d : α → PyData} [DecidableEq α] {Rb : β → VP}
theorem tm_dcN [c : Keyd d n] [t : TupD d] {vs js : List Nat} {up : γ → List (Option VP) → List (Option VP)} {mi : Wm ε (List γ)} {mc : γ → Wm ε Bool} {mk : γ → Wm ε α} {mv : γ → Wm ε β} {Rx : γ → VP} [∀ b, Mono (Rb b)] (hn : n ≤ 8) (hi : TrI Z ρ κ wi mi Rx) (hg : TrG g Rx js up) (hj : (js.all fun j => vs.contains j) = true) (fc : freeCs vs κ = true) (fj : freeCs js κ = true)
    (hlen : ∀ x, (up x (wipeE ρ vs)).length = ρ.length) (hc : ∀ x, TrT Z (up x (wipeE ρ vs)) κ tt (mc x)) (hk : ∀ x, TrE Z (up x (wipeE ρ vs)) κ tk (mk x) (fD K d)) (hv : ∀ x, TrE Z (up x (wipeE ρ vs)) κ tv (mv x) Rb) :
    TrM Z ρ κ (tDcK K P w wi g tt tk tv vs) (fun Q X => mi (fun xs => xs.length ≤ 40000 ∧ lcW mc (fun x Q X => mk x (fun a => mv x (fun b => Q (a, b)) X) X) xs (fun ps => Q (putsA [] ps)) X) X) (fun kvs => ownDP K P w d Rb kvs) :=
  ⟨fun σ F L s cc Q X q F1 N H e A wsh Qk qk => hi.run σ F L s cc _ X q F1 N H e A wsh _ fun J F2 H2 e2 A2 ⟨xs, ⟨hz, q1⟩, ⟨G, Y, wk, hG, hY⟩⟩ D hD => by
    have hl := sat_len s
    rw [List.length_map] at wk
    refine dc_it wk (Qd := fun H => Qk (.ref D) H) (fun i H' => ∃ F' zs kvs, Same F2 F' ∧ At F' ((D, dictN P w zs D) :: (L ++ N)) H' ∧ EntAll K d Rb zs kvs F' ∧ (kvs.map (·.1)).Nodup ∧ zs.length ≤ i ∧ lcW mc (fun x Q X => mk x (fun a => mv x (fun b => Q (a, b)) X) X) (xs.drop i) (fun ps => Q (putsA kvs ps)) X)
      ⟨F2, [], [], Same.refl _, A2.cell hD (hc := dictN_ne), True.intro, List.nodup_nil, Nat.le_refl _, q1⟩ (fun i H' _ ⟨F', zs, kvs, e', A', _⟩ => hG F' _ H' e' A') ?_ ?_
    · rintro i x H3 H4 hi ⟨F', zs, kvs, e', A', hent, hnd, hzl, q2⟩ y
      obtain ⟨F3, R, e3, A3, hR, hx⟩ := hY F' _ H3 i x H4 e' A' (by rw [List.length_map]; exact hi) y
      rw [List.getElem?_map, List.getElem?_eq_getElem hi] at hR
      cases hR
      rw [drop_at (List.getElem?_eq_getElem hi), lcW] at q2
      have P0 : ((D, dictN P w zs D) :: (L ++ N)).Perm (L ++ ((D, dictN P w zs D) :: N)) := List.perm_middle.symm
      have e13 : Same F F3 := ((e.trans e2).trans e').trans e3
      have s3 := satV_up e13 s
      have c3 := satC_up e13 cc
      have w3 : WishOk Z F3 ((D, dictN P w zs D) :: N) X := (wsh.up ((e2.trans e').trans e3)).push1
      refine hg.run xs[i] x (wipe σ vs) F3 (wipeE ρ vs) _ H4 (satV_wipe s3 vs) hx A3 _ fun τ ag s4 => ⟨?_, ?_⟩
      · rw [wipe_agree (by rw [← sat_len s4, hlen, wipe_length, hl]) ag hj]
        exact wipe_idem
      · have c4 : SatC κ τ F3 L := satC_agree ag fj (satC_wipe c3 fc)
        refine (hc xs[i]).run τ F3 L s4 c4 _ X q2 F3 _ H4 (Same.refl _) (A3.perm P0) w3 _ fun b F5 H5 e5 A5 q5 => ?_
        cases b with
        | false =>
          rw [if_neg Bool.false_ne_true] at q5
          exact iteF ⟨F5, zs, kvs, (e'.trans e3).trans e5, A5.perm P0.symm, entAll_up (e3.trans e5) hent, hnd, Nat.le_succ_of_le hzl, q5⟩
        | true =>
          rw [if_pos rfl] at q5
          refine iteT ?_
          refine (hk xs[i]).run τ F5 L (satV_up e5 s4) (satC_up e5 c4) _ X q5 F5 _ H5 (Same.refl _) A5 (w3.up e5) _ fun y F6 H6 e6 A6 ⟨a, q6, hy⟩ => ?_
          refine (hv xs[i]).run τ F6 L (satV_up (e5.trans e6) s4) (satC_up (e5.trans e6) c4) _ X q6 F6 _ H6 (Same.refl _) A6 ((w3.up e5).up e6) _ fun z F7 H7 e7 A7 ⟨b, q7, hz7⟩ => ?_
          have A8 := A7.perm P0.symm
          have hent7 := entAll_up (((e3.trans e5).trans e6).trans e7) hent
          obtain ⟨ad, rfl, kat⟩ := key_of (F1 := F7) (L := L) hn (Mono.mono (R := fD K d a) _ _ _ e7 hy) (Same.refl F7)
          refine ⟨ad, zs, c.key a, rfl, A8.on1, fun z hz => keyAt_up A7.ex (entAll_keys hent7 z hz), keyAt_up A7.ex kat, by omega, F7, putN zs (c.key a) ad z, putA kvs a b, (((e'.trans e3).trans e5).trans e6).trans e7, A8.put (hc := dictN_ne), entAll_put kat hz7 hent7 hnd, (putA_nodup hnd).1, ?_, q7⟩
          have := putN_len (k := c.key a) (a := ad) (v := z) (zs := zs)
          omega
    · rintro H3 ⟨F', zs, kvs, e', A', hent, hnd, hzl, q2⟩
      rw [List.drop_length, lcW, putsA] at q2
      exact qk D _ F' H3 kvs (e2.trans e') A' (fun F'' e'' => ⟨zs, rfl, entAll_up e'' hent, hnd⟩) q2⟩
/-- what a turn of a comprehension by numbers or texts needs and leaves -/
def TurnI (tt : TT) (tk tv : TE) (D : Addr) (Nx : Hp → Prop) : L2.St → Hp → Prop := fun τ H2 => tt τ H2 fun b H3 =>
  if b = true then tk τ H3 fun y H4 => tv τ H4 fun z H5 => ∃ kvs k, y = kV k ∧ H5 D = some (.dK kvs) ∧ kvs.length < sizeLine ∧ Nx (upd H5 D (.dK (putK kvs k z))) else Nx H3
theorem dcI_it {J : It} {n : Nat} {G : Hp → Prop} {Y : Nat → Hp → V → Hp → Prop} (wk : Walk J n G Y) {g : TG} {tt : TT} {tk tv : TE} {vs : List Nat} {σ : L2.St} {H1 : Hp} {D : Addr} {Qd : Hp → Prop} (Pv : Nat → Hp → Prop) (h0 : Pv 0 (upd H1 D (.dK []))) (hG : ∀ i H, i ≤ n → Pv i H → G H)
    (hs : ∀ i x H H', i < n → Pv i H → Y i H x H' → g x (wipe σ vs) H' fun τ H2 => wipe τ vs = wipe σ vs ∧ TurnI tt tk tv D (Pv (i + 1)) τ H2) (hd : ∀ H, Pv n H → Qd H) :
    ∃ W : Nat → Nat → Hp → Prop, (∃ m, W 0 m (upd H1 D (.dK []))) ∧ ∀ i m H, W i m H →
      (J.stop i H ∧ Qd H) ∨ (J.go i H ∧ ∃ Nx : Hp → Prop, (∀ H', Nx H' → ∃ m', m' < m ∧ W (i + 1) m' H') ∧ ∀ x H', J.yld i H x H' → g x (wipe σ vs) H' fun τ H2 => wipe τ vs = wipe σ vs ∧ TurnI tt tk tv D Nx τ H2) := by
  refine ⟨fun i m H => i + m = n ∧ Pv i H, ⟨n, Nat.zero_add _, h0⟩, fun i m H hi => ?_⟩
  obtain ⟨him, p⟩ := hi
  have q := hG i H (by omega) p
  cases m with
  | zero =>
    obtain rfl : i = n := him
    exact .inl ⟨wk.stops H q, hd H p⟩
  | succ m => exact .inr ⟨wk.goes i H (by omega) q, Pv (i + 1), fun H' p' => ⟨m, Nat.lt_succ_self _, by omega, p'⟩, fun x H' y => hs i x H H' (by omega) p (wk.yields i H x H' (by omega) q y)⟩
theorem putK_len {zs : List (Key × V)} {k : Key} {v : V} : (putK zs k v).length ≤ zs.length + 1 := by
  unfold putK
  split
  · rw [List.length_map]; omega
  · rw [List.length_append]; exact Nat.le_refl _
theorem tm_dcI [c : NumK d] {vs js : List Nat} {up : γ → List (Option VP) → List (Option VP)} {mi : Wm ε (List γ)} {mc : γ → Wm ε Bool} {mk : γ → Wm ε α} {mv : γ → Wm ε β} {Rx : γ → VP} [∀ b, Mono (Rb b)] (hi : TrI Z ρ κ wi mi Rx) (hg : TrG g Rx js up) (hj : (js.all fun j => vs.contains j) = true) (fc : freeCs vs κ = true) (fj : freeCs js κ = true)
    (hlen : ∀ x, (up x (wipeE ρ vs)).length = ρ.length) (hc : ∀ x, TrT Z (up x (wipeE ρ vs)) κ tt (mc x)) (hk : ∀ x, TrE Z (up x (wipeE ρ vs)) κ tk (mk x) (fD K d)) (hv : ∀ x, TrE Z (up x (wipeE ρ vs)) κ tv (mv x) Rb) :
    TrM Z ρ κ (tDc wi g tt tk tv vs) (fun Q X => mi (fun xs => xs.length ≤ 40000 ∧ lcW mc (fun x Q X => mk x (fun a => mv x (fun b => Q (a, b)) X) X) xs (fun ps => Q (putsA [] ps)) X) X) (fun kvs => ownDI d Rb kvs) :=
  ⟨fun σ F L s cc Q X q F1 N H e A wsh Qk qk => hi.run σ F L s cc _ X q F1 N H e A wsh _ fun J F2 H2 e2 A2 ⟨xs, ⟨hz, q1⟩, ⟨G, Y, wk, hG, hY⟩⟩ D hD => by
    have hl := sat_len s
    rw [List.length_map] at wk
    refine dcI_it wk (Qd := fun H => Qk (.ref D) H) (fun i H' => ∃ F' zs kvs, Same F2 F' ∧ At F' ((D, .dK zs) :: (L ++ N)) H' ∧ RelD d Rb zs kvs F' ∧ (kvs.map (·.1)).Nodup ∧ zs.length ≤ i ∧ lcW mc (fun x Q X => mk x (fun a => mv x (fun b => Q (a, b)) X) X) (xs.drop i) (fun ps => Q (putsA kvs ps)) X)
      ⟨F2, [], [], Same.refl _, A2.cell hD, True.intro, List.nodup_nil, Nat.le_refl _, q1⟩ (fun i H' _ ⟨F', zs, kvs, e', A', _⟩ => hG F' _ H' e' A') ?_ ?_
    · rintro i x H3 H4 hi ⟨F', zs, kvs, e', A', hent, hnd, hzl, q2⟩ y
      obtain ⟨F3, R, e3, A3, hR, hx⟩ := hY F' _ H3 i x H4 e' A' (by rw [List.length_map]; exact hi) y
      rw [List.getElem?_map, List.getElem?_eq_getElem hi] at hR
      cases hR
      rw [drop_at (List.getElem?_eq_getElem hi), lcW] at q2
      have P0 : ((D, HO.dK zs) :: (L ++ N)).Perm (L ++ ((D, .dK zs) :: N)) := List.perm_middle.symm
      have e13 : Same F F3 := ((e.trans e2).trans e').trans e3
      have s3 := satV_up e13 s
      have c3 := satC_up e13 cc
      have w3 : WishOk Z F3 ((D, HO.dK zs) :: N) X := (wsh.up ((e2.trans e').trans e3)).push1
      refine hg.run xs[i] x (wipe σ vs) F3 (wipeE ρ vs) _ H4 (satV_wipe s3 vs) hx A3 _ fun τ ag s4 => ⟨?_, ?_⟩
      · rw [wipe_agree (by rw [← sat_len s4, hlen, wipe_length, hl]) ag hj]
        exact wipe_idem
      · have c4 : SatC κ τ F3 L := satC_agree ag fj (satC_wipe c3 fc)
        refine (hc xs[i]).run τ F3 L s4 c4 _ X q2 F3 _ H4 (Same.refl _) (A3.perm P0) w3 _ fun b F5 H5 e5 A5 q5 => ?_
        cases b with
        | false =>
          rw [if_neg Bool.false_ne_true] at q5
          exact iteF ⟨F5, zs, kvs, (e'.trans e3).trans e5, A5.perm P0.symm, relD_up (e3.trans e5) hent, hnd, Nat.le_succ_of_le hzl, q5⟩
        | true =>
          rw [if_pos rfl] at q5
          refine iteT ?_
          refine (hk xs[i]).run τ F5 L (satV_up e5 s4) (satC_up e5 c4) _ X q5 F5 _ H5 (Same.refl _) A5 (w3.up e5) _ fun y F6 H6 e6 A6 ⟨a, q6, hy⟩ => ?_
          refine (hv xs[i]).run τ F6 L (satV_up (e5.trans e6) s4) (satC_up (e5.trans e6) c4) _ X q6 F6 _ H6 (Same.refl _) A6 ((w3.up e5).up e6) _ fun z F7 H7 e7 A7 ⟨b, q7, hz7⟩ => ?_
          have A8 := A7.perm P0.symm
          have hent7 := relD_up (((e3.trans e5).trans e6).trans e7) hent
          have ey := c.val hy
          subst ey
          refine ⟨zs, c.key a, rfl, A8.on1, len_lt (by omega), F7, putK zs (c.key a) z, putA kvs a b, (((e'.trans e3).trans e5).trans e6).trans e7, At.put A8, relD_put hz7 hent7 hnd, (putA_nodup hnd).1, ?_, q7⟩
          have := putK_len (k := c.key a) (v := z) (zs := zs)
          omega
    · rintro H3 ⟨F', zs, kvs, e', A', hent, hnd, hzl, q2⟩
      rw [List.drop_length, lcW, putsA] at q2
      exact qk D _ F' H3 kvs (e2.trans e') A' (fun F'' e'' => ⟨zs, rfl, relD_up e'' hent, hnd⟩) q2⟩
end
end Tw

/-! Pe2: sorted(xs, key=f), f a def of the module. -/
namespace Sn
open PySem PySem.Spec PyProof.Rows L2 PySem.W
variable [Rs.Tabz]
/-- a cell that was known to the object alone comes to be told, others at ch turn -/
theorem inv_show {X : Cx} {pins : List (Addr × Obj)} {σ : L2.St} {H : Hp} {s : Shared} {h' : Heap} {t' : Nat} {ch : List Addr} {T : Addr} {ob : HO} (I : Inv X pins σ H s) (k : ∀ b o, b ≠ X.env.locals → b ∉ ch → s.heap.get? b = some o → h'.get? b = some o) (ns : ∀ m, s.heap.Ns X.env.locals m → h'.Ns X.env.locals m) (hf : ∀ b ∈ ch, FpOk X pins H b) (hT : T ∈ ch)
    (new : ObjOk X.prog X.w (upd H T ob) h' T ob) : Inv X pins σ (upd H T ob) { s with heap := h', toks := t' } := by
  have hn : H T = none := (hf T hT).1
  have nit : ∀ b u, H b = some u → b ∉ ch := fun b u e z => by
    have q := (hf b z).1
    rw [q] at e; cases e
  have nL : ∀ b u, H b = some u → b ≠ X.env.locals := fun b u e z => by
    rw [z, I.free] at e; cases e
  refine I.step (g' := s.gens) (d' := s.drawn) (ch := ch) (fun b hb => ⟨(hf b hb).2.2.2.1, (hf b hb).2.1, (hf b hb).2.2.2.2.1, (hf b hb).2.2.2.2.2⟩) (fun b o hL _ hc e _ => k b o hL hc e) (fun b o hL _ hc e _ => ⟨o.slots, k b o hL hc e⟩)
    (fun b o hc e n => ?_) (fun b o hc e => ?_) (fun b xs e => ?_) (fun b o u e => ?_) (fun b ps e => ⟨#[], ?_⟩) (fun m hm => ns m hm) (fun b u e => ?_) I.bare
  · rw [upd_ne (fun z => hc (by rw [z]; exact hT))]; exact n
  · by_cases hL : b = X.env.locals
    · obtain ⟨m, hm, _⟩ := I.loc
      obtain ⟨o', _, _, ho, _⟩ := ns m hm
      exact ⟨o', by rw [hL]; exact ho⟩
    · exact ⟨o, k b o hL hc e⟩
  · rw [upd_ne (ne_of_none e hn)]; exact e
  · rw [upd_ne (ne_of_none e hn)]; exact e
  · rw [upd_ne (ne_of_none e hn), e]; simp
  · by_cases hb : b = T
    · subst hb
      rw [upd_same] at e
      cases e
      exact new
    · rw [upd_ne hb] at e
      refine (I.hok b u e).stay (fun c v hc q => ?_) (fun c q => by rw [upd_ne (ne_of_none q hn)]; exact q) fun c xs q => by rw [upd_ne (ne_of_none q hn)]; exact q
      rcases hc with z | z
      · rw [z] at q ⊢; exact k b v (nL b u e) (nit b u e) q
      · exact k c v (nL c _ z) (nit c _ z) q
/-- sorted(xs, key=f): W tells the keys so far -/
def rSortF (K : PySem.W.Frag) (sp : Sp) (E : XK) (f : Addr) : List V → List V → Hp → VK → Prop := fun vs zs H Q => ∃ l xs, vs = [.ref l] ∧ zs = [.ref f] ∧ SqL K H l xs ∧
  ∃ W : List V → Hp → Prop, W [] H ∧ (∀ ks H2 x, W ks H2 → xs[ks.length]? = some x → sp [x] H2 (fun k H3 => W (ks ++ [k]) H3) E) ∧
    ∀ ks H2, W ks H2 → ks.length = xs.length → ∃ ps : List (V × PyData × V), ps.map (·.1) = ks ∧ ps.map (·.2.2) = xs ∧ (∀ p ∈ ps, Dp K H2 p.1 p.2.1) ∧ AllAlike (ps.map (·.2.1)) ∧ Sortable (ps.map (·.2.1)) ∧ (∀ p ∈ ps, p.2.1.depth ≤ 8) ∧
      ∀ q, H2 q = none → Q (.ref q) (upd H2 q (.lst ((ps.mergeSort (dataLe false (·.2.1))).map (·.2.2))))
theorem room_in2 {k : Nat} {A : Around} (r : Room (k + 1) A) : Room k A.in1.in1 := ⟨r.hd, by have := r.dp; show A.depth + 3 * k + 5 < _; omega, by have := r.un; show A.units + 1 + 1 + 16 * k + 200 < _; omega⟩
section
variable {X : Cx} {k : Nat} {f : Addr} {fd : FuncData} {ps : List Str} {sp : Sp} {CX : CXT} {E : XK}
theorem cr_sortF (F : FnOk X.prog X.w X.K X.mg X.base CX k f fd ps sp) (hr : Room (k + 1) X.A) (hb : Binds X.K fd ps []) (hx : ∀ H s e s', ¬ CX X.stack H s E e s') : CallRK X (.builtin "sorted") [Str.ofString "key"] (rSortF X.K sp E f) := by
  intro pins s σ H vs zs us ws Q I r rz h
  obtain ⟨l, xs, rfl, rfl, hs, W, w0, wk, wd⟩ := h
  obtain rfl := Vals.ref1 r
  obtain ⟨w1, rfl, e1⟩ := vals1 rz
  obtain rfl : w1 = Value.ref f := e1
  obtain ⟨its, rv, hl, hz⟩ := I.list hs
  have hzl : its.length ≤ sizeLine := by rw [← rv.length]; exact hz
  show wpAny _ _ (call (.builtin "sorted") [.ref l] [(Str.ofString "key", .ref f)]) _ _ _
  refine sorted_of_sort hl.isList hzl (ksk_s1 _ _) (fun _ => ksk_l1 _ _) fun E' => ?_
  rw [ksk_t1]
  -- the copied list at a
  obtain ⟨a, ha⟩ : ∃ a, a = s.heap.objs.size + 1 := ⟨_, rfl⟩
  rw [← ha]
  have fa : FpOk X pins H a := I.fpOk (by omega) (I.hok.fresh (by omega))
  have ca : (copyHeap s.heap its).get? a = some (seqObj "list" its.toArray 0) := by rw [ha]; exact copyHeap_at s.heap its
  have I1 : Inv X pins σ H { s with heap := copyHeap s.heap its } := I.kept (t' := s.toks) fun b o e => copyHeap_old e
  obtain ⟨e1, ho1⟩ : ∃ e1, ((copyHeap s.heap its).update a (Obj.mapSeq fun _ => (#[] : Array Value))).get? a = some (seqObj "list" #[] e1) := ⟨_, get?_update_seq ca fun _ => #[]⟩
  have I2 : Inv X pins σ H { s with heap := (copyHeap s.heap its).update a (Obj.mapSeq fun _ => (#[] : Array Value)) } :=
    Inv.turnedL (s := { s with heap := copyHeap s.heap its }) (t' := s.toks) (ch := [a]) I1 (fun b o hb e => (Heap.get?_update_ne _ _ _ _ (fun z => hb (by simp [z]))).trans e) (fun b hb => by rw [List.mem_singleton.mp hb]; exact fa)
  unfold ksk_tree
  refine wpAny_bind (listItems_at ca rfl ?_)
  refine wpAny_bind (listUpdate_at ca rfl ?_ (by rw [List.size_toArray]; exact hzl) (Nat.zero_le _))
  refine wpAny_bind (seqEpoch_at ho1 rfl ?_)
  refine wpAny_bind (wpAny_newTuple ?_ (by show its.length ≤ _; exact hzl))
  refine wpAny_bind (wpAny_newList ?_ (Nat.zero_le _))
  refine wpAny_holding ?_
  obtain ⟨h2, hh2⟩ : ∃ h2, h2 = ((copyHeap s.heap its).update a (Obj.mapSeq fun _ => (#[] : Array Value))).push (seqObj "tuple" its.toArray 0) := ⟨_, rfl⟩
  have I3 : Inv X pins σ H { s with heap := h2 } := by
    rw [hh2]
    exact I2.kept (t' := s.toks) fun b o e => Heap.get?_push_of_some _ e
  have a3 : h2.get? a = some (seqObj "list" #[] e1) := by rw [hh2]; exact Heap.get?_push_of_some _ ho1
  show wpAny _ _ (ksk_rest a (.ref f) false its.toArray e1 (.ref ((((copyHeap s.heap its).update a (Obj.mapSeq fun _ => (#[] : Array Value))).push (seqObj "tuple" its.toArray 0)).objs.size))) _ _ { s with heap := (((copyHeap s.heap its).update a (Obj.mapSeq fun _ => (#[] : Array Value))).push (seqObj "tuple" its.toArray 0)).push (seqObj "list" #[] 0) }
  rw [← hh2]
  obtain ⟨kS, hkS⟩ : ∃ kS, kS = h2.objs.size := ⟨_, rfl⟩
  rw [← hkS]
  have fk : FpOk X pins H kS := I3.fpOk (Nat.le_of_eq hkS.symm) (I3.hok.fresh (Nat.le_of_eq hkS.symm))
  have hka : kS ≠ a := by rw [hkS]; exact Nat.ne_of_gt (Heap.lt_size a3)
  have I4 : Inv X pins σ H { s with heap := h2.push (seqObj "list" #[] 0) } := I3.kept (t' := s.toks) fun b o e => Heap.get?_push_of_some _ e
  have nfr : ∀ b, FpOk X pins H b → b ∉ frs X.stack := fun b fb z => (List.mem_cons.mp (I.stkSub b z)).elim fb.2.1 fb.2.2.1
  unfold ksk_rest
  refine wpAny_bind (wpAny_rule ?_)
  first
    | rw [List.forIn_toArray]
    | (rw [← Array.forIn_toList]; simp only [List.toList_toArray])
  refine wpAny_bind (ksk_fold (fun i s' => ∃ (H' : Hp) (ks : List V) (kA : Array Value) (e : Nat), Inv X pins σ H' s' ∧ s'.heap.get? kS = some (seqObj "list" kA e) ∧ s'.heap.get? a = some (seqObj "list" #[] e1) ∧ H' kS = none ∧ H' a = none ∧ Vals ks kA.toList ∧ ks.length = i ∧ i ≤ its.length ∧ W ks H') its 0 _
    ⟨H, [], #[], 0, I4, by rw [hkS]; exact Heap.get?_push_size _ rfl, Heap.get?_push_of_some _ a3, fk.1, fa.1, .nil, rfl, Nat.zero_le _, w0⟩ ?step ?done)
  case step =>
    rintro j y s' hy ⟨H', ks, kA, e, I5, gk, ga, nk, na, rk, hlk, hj, wks⟩
    rw [Nat.zero_add] at hlk hj ⊢
    have hj2 : j < its.length := (List.getElem?_eq_some_iff.mp hy).1
    obtain ⟨x, hx1, rx⟩ : ∃ x, xs[j]? = some x ∧ RelV x y := by
      have : ∀ {xs : List V} {its : List Value}, Vals xs its → ∀ {j : Nat} {y : Value}, its[j]? = some y → ∃ x, xs[j]? = some x ∧ RelV x y := by
        intro xs its r
        induction r with
        | nil => intro j y e; simp at e
        | cons r t ih => intro j y e; cases j with
          | zero => simp at e; subst e; exact ⟨_, rfl, r⟩
          | succ j => obtain ⟨x, h1, h2⟩ := ih (j := j) (by simpa using e); exact ⟨x, by simpa using h1, h2⟩
      exact this rv hy
    have hsp := wk ks H' x wks (by rw [hlk]; exact hx1)
    have henv := I5.env0
    have call1 : wpAny (model X.prog X.w) X.A.in1.in1 (call (.ref f) [y]) (fun v s'' => CE X.stack X.prog X.w H' s' (fun k H3 => W (ks ++ [k]) H3) v s'') (fun _ _ => False) s' := by
      refine wpAny_call (codeAny_mono (F.run X.A.in1.in1 X.stack s' H' ⟨[y], []⟩ [y] [x] _ E (room_in2 hr) henv.in1.in1 (by simpa using hb s' [y] I5.kIn (by have := F.len _ _ _ _ hsp; simpa using this)) (.cons rx .nil) hsp) fun r s'' hq => ?_)
      cases r with
      | error e => exact hx _ _ _ _ hq
      | ok fl =>
        cases fl with
        | ret u => exact hq
        | next => exact False.elim hq
        | brk => exact False.elim hq
        | cont => exact False.elim hq
    refine wpAny_bind (wpAny_attempt (wpAny_mono call1 (fun v s'' hc => ?_) fun _ _ hF => hF.elim))
    obtain ⟨v0, H6, os, bare, un, hok, rv0, w6⟩ := id hc
    have gk6 : s''.heap.get? kS = some (seqObj "list" kA e) := un.keep kS _ gk nk (nfr kS fk) (by simp)
    have ga6 : s''.heap.get? a = some (seqObj "list" #[] e1) := un.keep a _ ga na (nfr a fa) (by simp)
    have nk6 : H6 kS = none := un.free kS _ gk nk (by simp)
    have na6 : H6 a = none := un.free a _ ga na (by simp)
    obtain ⟨v1, H7, I7, rv1, hH7, hv1⟩ : ∃ v1 H7, Inv X pins σ H7 s'' ∧ RelV v1 v ∧ H7 = H6 ∧ v1 = v0 := by
      have h9 := I5.after (Q := fun v2 H2 => H2 = H6 ∧ v2 = v0) (u := v) (s' := s'') ⟨v0, H6, os, bare, un, hok, rv0, rfl, rfl⟩
      obtain ⟨v1, H7, I7, rv1, e2, e3⟩ := h9
      exact ⟨v1, H7, I7, rv1, e2, e3⟩
    subst hH7 hv1
    try dsimp only
    obtain ⟨c2, hc2⟩ : ∃ c2, (s''.heap.update kS (Obj.mapSeq (·.push v))).get? kS = some (seqObj "list" (kA.push v) c2) := ⟨_, get?_update_seq gk6 (·.push v)⟩
    have hkl : kA.size = j := by
      have h9 : ks.length = kA.toList.length := rk.length
      exact (Array.length_toList (xs := kA)).symm.trans (h9.symm.trans hlk)
    refine wpAny_bind (listUpdate_at gk6 rfl ?_ (by omega) (Nat.le_trans (Nat.le_of_eq (Array.size_push ..)) (by omega)))
    refine wpAny_pure ⟨rfl, H7, ks ++ [v1], kA.push v, c2, ?_, hc2, ?_, nk6, na6, ?_, by rw [List.length_append, hlk]; rfl, by omega, w6⟩
    · exact I7.turnedL (t' := s''.toks) (ch := [kS]) (fun b o hb e => (Heap.get?_update_ne _ _ _ _ (fun z => hb (by simp [z]))).trans e) (fun b hb => by rw [List.mem_singleton.mp hb]; exact ⟨nk6, fk.2⟩)
    · exact (Heap.get?_update_ne _ _ _ _ hka.symm).trans ga6
    · have : (kA.push v).toList = kA.toList ++ [v] := by simp
      rw [this]
      exact rk.append (.cons rv1 .nil)
  case done =>
    rintro s' ⟨H', ks, kA, e, I5, gk, ga, nk, na, rk, hlk, hj, wks⟩
    rw [Nat.zero_add] at hlk
    have hxl : xs.length = its.length := rv.length
    obtain ⟨ps, p1, p2, p3, p4, p5, p6, p7⟩ := wd ks H' wks (by omega)
    subst p1 p2
    have hsz : kA.size = its.length := by
      have h9 : (ps.map (·.1)).length = kA.toList.length := rk.length
      exact (Array.length_toList (xs := kA)).symm.trans (h9.symm.trans hlk)
    try dsimp only
    refine wpAny_bind (listItems_at gk rfl ?_)
    obtain ⟨m, Fr0⟩ := I5.fr
    have ek : EachIs (fun v d => ∃ as, Reads s'.heap v d as) kA.toList (ps.map (·.2.1)) := by
      have : ∀ (ps : List (V × PyData × V)) (vs : List Value), (∀ p ∈ ps, Dp X.K H' p.1 p.2.1) → Vals (ps.map (·.1)) vs → EachIs (fun v d => ∃ as, Reads s'.heap v d as) vs (ps.map (·.2.1)) := by
        intro ps
        induction ps with
        | nil => intro vs _ h; cases h; exact .nil
        | cons p ps ih => intro vs hp h; cases h with | cons h1 h2 => exact .cons (Dp.reads I5 _ _ _ (hp p List.mem_cons_self) h1) (ih _ (fun y hy => hp y (List.mem_cons_of_mem _ hy)) h2)
      exact this ps _ p3 rk
    have bN : ∀ b, FpOk X pins H b → X.base.get? b = none := fun b fb => by
      cases e : X.base.get? b with
      | none => rfl
      | some o =>
        rcases fb.2.2.2.1 with z | z
        · exact absurd z (I.ok.noex b o e)
        · exact absurd (Nat.lt_of_lt_of_le (Heap.lt_size e) (Nat.le_trans I.ok.bsz z)) (Nat.lt_irrefl _)
    let news := (allNews X.base s'.heap X.env.locals).filter fun p => decide (p.1 ≠ kS ∧ p.1 ≠ a)
    have N0 : News X.base X.env.locals s'.heap (news ++ [(kS, seqObj "list" kA e), (a, seqObj "list" #[] e1)]) := fun p hp => by
      rcases List.mem_append.mp hp with hp | hp
      · exact news_all p (List.mem_filter.mp hp).1
      · rcases List.mem_cons.mp hp with rfl | hp
        · exact ⟨gk, fk.2.1, bN kS fk⟩
        · rw [List.mem_singleton.mp hp]
          exact ⟨ga, fa.2.1, bN a fa⟩
    refine key_end (κ := dataKind s'.heap (ps.map (·.2.1))) Fr0 N0 hka (fun p hp => (of_decide_eq_true (List.mem_filter.mp hp).2).1) (fun p hp => (of_decide_eq_true (List.mem_filter.mp hp).2).2) (SortsAt.data ek p4 p5 fun d hd => ?_) hsz hzl fun h' tk c F' N' => ?_
    · obtain ⟨p, hp, rfl⟩ := List.mem_map.mp hd
      have h1 := p6 p hp
      have h2 := (room_in2 hr).un
      show X.A.in1.in1.units + p.2.1.depth < cLine
      omega
    · have eo : EachIs (fun (v : Value) (p : V × PyData × V) => RelV p.2.2 v) (sortVals (dataKind s'.heap (ps.map (·.2.1))) false kA.toList its) (ps.mergeSort (dataLe false (·.2.1))) := by
        refine keyedOut_each (rev := false) (k := fun p : V × PyData × V => p.2.1) ⟨s'.heap, kA.toList, p4, rfl, ek⟩ ?_
        have : ∀ (ps : List (V × PyData × V)) (its : List Value), Vals (ps.map (·.2.2)) its → EachIs (fun (v : Value) (p : V × PyData × V) => RelV p.2.2 v) its ps := by
          intro ps
          induction ps with
          | nil => intro its h; cases h; exact .nil
          | cons p ps ih => intro its h; cases h with | cons h1 h2 => exact .cons h1 (ih _ h2)
        exact this ps its rv
      have hv : Vals ((ps.mergeSort (dataLe false (·.2.1))).map (·.2.2)) (sortVals (dataKind s'.heap (ps.map (·.2.1))) false kA.toList its) := by
        have : ∀ (qs : List (V × PyData × V)) (out : List Value), EachIs (fun (v : Value) (p : V × PyData × V) => RelV p.2.2 v) out qs → Vals (qs.map (·.2.2)) out := by
          intro qs
          induction qs with
          | nil => intro out h; cases h; exact .nil
          | cons p ps ih => intro out h; cases h with | cons h1 h2 => exact .cons h1 (ih _ h2)
        exact this _ _ eo
      have hlen : ((ps.mergeSort (dataLe false (·.2.1))).map (·.2.2)).length ≤ sizeLine := by
        rw [List.length_map, (List.mergeSort_perm _ _).length_eq]
        rw [List.length_map] at hxl
        omega
      refine ⟨rfl, .ref a, upd H' a (.lst ((ps.mergeSort (dataLe false (·.2.1))).map (·.2.2))), ?_, by rw [ha]; rfl, p7 a na⟩
      have gO : h'.get? a = some (seqObj "list" (sortVals (dataKind s'.heap (ps.map (·.2.1))) false kA.toList its).toArray c) := (N' _ List.mem_cons_self).1
      refine inv_show I5 (ch := [kS, a]) (fun b o hL hc e => ?_) (fun m' hm => by rw [SlX.ns_only hm Fr0.ns]; exact F'.ns) (fun b hb => ?_) (by simp) ⟨hlen, _, c, hv, gO⟩
      · cases q : X.base.get? b with
        | some u =>
          have h3 := I5.bk b u q
          rw [e] at h3
          cases h3
          exact F'.keep b _ q
        | none =>
          refine (N' (b, o) (List.mem_cons_of_mem _ (List.mem_filter.mpr ⟨mem_allNews hL q e, decide_eq_true ⟨fun (z : b = kS) => hc (by rw [z]; exact List.mem_cons_self), fun (z : b = a) => hc (by rw [z]; exact List.mem_cons_of_mem _ List.mem_cons_self)⟩⟩))).1
      · rcases List.mem_cons.mp hb with z | hb
        · subst z; exact ⟨nk, fk.2⟩
        · obtain rfl := List.mem_singleton.mp hb; exact ⟨na, fa.2⟩
end
end Sn

/-! Pe3: sorted by a key, in plain terms. -/
namespace Tw
open PySem PySem.Spec PyProof.Rows L2 SlX StX Rs Ma Sn
variable [Rs.Tabz]
/-- places of moves, in their order -/
abbrev Plc := Nat × List Nat
def plLe (a b : Plc) : Bool := decide (a.1 < b.1 ∨ (a.1 = b.1 ∧ a.2 ≤ b.2))
theorem plLe_trans (a b c : Plc) (h1 : plLe a b = true) (h2 : plLe b c = true) : plLe a c = true := by
  simp only [plLe, decide_eq_true_eq] at *
  rcases h1 with h1 | ⟨h1, h1'⟩ <;> rcases h2 with h2 | ⟨h2, h2'⟩
  · exact .inl (by omega)
  · exact .inl (by omega)
  · exact .inl (by omega)
  · exact .inr ⟨by omega, List.le_trans h1' h2'⟩
theorem plLe_total (a b : Plc) : (plLe a b || plLe b a) = true := by
  simp only [plLe, Bool.or_eq_true, decide_eq_true_eq]
  rcases Nat.lt_trichotomy a.1 b.1 with h | h | h
  · exact .inl (.inl h)
  · rcases List.le_total a.2 b.2 with h2 | h2
    · exact .inl (.inr ⟨h, h2⟩)
    · exact .inr (.inr ⟨h.symm, h2⟩)
  · exact .inr (.inl h)
def sortPl {γ : Type} (xs : List (Plc × γ)) : List (Plc × γ) := xs.mergeSort fun p q => plLe p.1 q.1
theorem sortPl_perm {γ : Type} {xs : List (Plc × γ)} : (sortPl xs).Perm xs := List.mergeSort_perm _ _
theorem sortPl_asc {γ : Type} {xs : List (Plc × γ)} : (sortPl xs).Pairwise fun p q => plLe p.1 q.1 = true :=
  List.pairwise_mergeSort (le := fun p q : Plc × γ => plLe p.1 q.1) (fun a b c => plLe_trans a.1 b.1 c.1) (fun a b => plLe_total a.1 b.1) xs
abbrev dPl : Plc → PyData := dP dN (dT dN)
theorem dPl_lt (a b : Plc) : PySem.W.dataLt (dPl a) (dPl b) = !plLe b a := by
  have r1 : a.2.map dN = (cI a.2).map PyData.int := row_int
  have r2 : b.2.map dN = (cI b.2).map PyData.int := row_int
  show PySem.W.dataLt (.tuple [.int (a.1 : Nat), .tuple (a.2.map dN)]) (.tuple [.int (b.1 : Nat), .tuple (b.2.map dN)]) = _
  have al : PySem.W.alike (.tuple (a.2.map dN)) (.tuple (b.2.map dN)) = true := by
    rw [PySem.W.alike, r1, r2]; exact PySem.W.alike_ints _ _
  rw [PySem.W.dataLt_pair (by rfl) al]
  have e1 : PyData.eqv (.int (a.1 : Nat)) (.int (b.1 : Nat)) = decide (a.1 = b.1) := Nice.eq (d := dN) a.1 b.1
  have e2 : PyData.eqv (.tuple (a.2.map dN)) (.tuple (b.2.map dN)) = decide (a.2 = b.2) := Nice.eq (d := dT dN) a.2 b.2
  have l2 : PySem.W.dataLt (.tuple (a.2.map dN)) (.tuple (b.2.map dN)) = decide (a.2 < b.2) := by
    rw [PySem.W.dataLt_tuple, r1, r2]
    have := PySem.W.dataLt_ints (cI a.2) (cI b.2)
    refine this.trans (decide_eq_decide.mpr ?_)
    rw [← List.not_le, ← List.not_le, cI_le]
  rw [e1, e2, l2, PySem.W.dataLt_int]
  by_cases h1 : a.1 = b.1
  · by_cases h2 : a.2 = b.2
    · have : plLe b a = true := by simp only [plLe, decide_eq_true_eq]; exact .inr ⟨h1.symm, by rw [h2]; exact List.le_refl _⟩
      simp [h1, h2, this]
    · by_cases h3 : b.2 ≤ a.2
      · have h4 : ¬ a.2 < b.2 := by rw [← List.not_le]; exact fun z => z h3
        have : plLe b a = true := by simp only [plLe, decide_eq_true_eq]; exact .inr ⟨h1.symm, h3⟩
        simp [h1, h2, this, h4, h3]
      · have h4 : a.2 < b.2 := by rw [← List.not_le]; exact h3
        have : plLe b a = false := by
          simp only [plLe, decide_eq_false_iff_not]
          rintro (z | ⟨z, z2⟩)
          · omega
          · exact h3 z2
        simp [h1, h2, this, h4]
  · by_cases h3 : a.1 < b.1
    · have : plLe b a = false := by
        simp only [plLe, decide_eq_false_iff_not]
        rintro (z | ⟨z, z2⟩) <;> omega
      have h5 : ((a.1 : Nat) : Int) < (b.1 : Nat) := by omega
      simp [h1, this, h5]
    · have : plLe b a = true := by simp only [plLe, decide_eq_true_eq]; exact .inl (by omega)
      have h5 : ¬ ((a.1 : Nat) : Int) < (b.1 : Nat) := by omega
      simp [h1, this, h5]
theorem dataLe_pl {β : Type} (x : β → Plc) (f : β → PyData) (hf : ∀ b, f b = dPl (x b)) : PySem.W.dataLe false f = fun p q => plLe (x p) (x q) := by
  funext p q
  show (!PySem.W.dataLt (f q) (f p)) = _
  rw [hf, hf, dPl_lt, Bool.not_not]
theorem dPl_alike (a b : Plc) : PySem.W.alike (dPl a) (dPl b) = true := by
  have r1 : a.2.map dN = (cI a.2).map PyData.int := row_int
  have r2 : b.2.map dN = (cI b.2).map PyData.int := row_int
  show PySem.W.alike (.tuple [.int (a.1 : Nat), .tuple (a.2.map dN)]) (.tuple [.int (b.1 : Nat), .tuple (b.2.map dN)]) = true
  simp only [PySem.W.alike, PySem.W.alikeAll, r1, r2, PySem.W.alike_ints, Bool.and_self]
section
variable {ε β : Type} {Z : Wsh ε} {ρ : List (Option VP)} {κ : List Ow} {K : PySem.W.Frag} {te : TE} {dv : β → PyData} {ml : Wm ε (List (Plc × β))}
theorem dpAll_snoc {F : Hp} : ∀ {ks : List V} {ds : List PyData} {k : V} {d : PyData}, DpAll K F ks ds → Dp K F k d → DpAll K F (ks ++ [k]) (ds ++ [d])
  | [], [], _, _, _, h => .cons h .nil
  | _ :: _, _ :: _, _, _, g, h => by cases g with | cons h1 h2 => exact .cons h1 (dpAll_snoc h2 h)
  | [], _ :: _, _, _, g, _ => nomatch g
  | _ :: _, [], _, _, g, _ => nomatch g
theorem dpAll_len {F : Hp} : ∀ {ks : List V} {ds : List PyData}, DpAll K F ks ds → ks.length = ds.length
  | [], [], _ => rfl
  | _ :: _, _ :: _, g => by cases g with | cons h1 h2 => rw [List.length_cons, List.length_cons, dpAll_len h2]
  | [], _ :: _, g => nomatch g
  | _ :: _, [], g => nomatch g
theorem rows_zip {F F1 : Hp} : ∀ {rows : List (Plc × β)} {ks us : List V}, DpAll K F ks (rows.map fun p => dPl p.1) → DpAll K F1 us (rows.map (dP dPl dv)) → ∃ qs : List (V × (Plc × β) × V), qs.map (·.1) = ks ∧ qs.map (·.2.1) = rows ∧ qs.map (·.2.2) = us ∧ (∀ q ∈ qs, Dp K F q.1 (dPl q.2.1.1)) ∧ ∀ q ∈ qs, Dp K F1 q.2.2 (dP dPl dv q.2.1)
  | [], ks, us, h1, h3 => by
    cases h1; cases h3
    exact ⟨[], rfl, rfl, rfl, fun q hq => by simp at hq, fun q hq => by simp at hq⟩
  | r :: rows, ks, us, h1, h3 => by
    rw [List.map_cons] at h1 h3
    cases h1 with
    | cons h1 h2 =>
      cases h3 with
      | cons h3 h4 =>
        obtain ⟨qs, e1, e2, e3, e4, e5⟩ := rows_zip (rows := rows) h2 h4
        exact ⟨(_, r, _) :: qs, by rw [List.map_cons, e1], by rw [List.map_cons, e2], by rw [List.map_cons, e3], fun q hq => (List.mem_cons.mp hq).elim (fun z => by subst z; exact h1) (e4 q), fun q hq => (List.mem_cons.mp hq).elim (fun z => by subst z; exact h3) (e5 q)⟩
/-- sorted(rows, key=f), f the first of a pair -/
theorem tr_sortF {f : Addr} {E : XK} (h : TrE Z ρ κ te ml (fD K (dL (dP dPl dv)))) :
    TrE Z ρ κ (tCKw (rSortF K (SpN (fun g : PyData × PyData => [fD K (dP dA dA) g]) (fun g (Q : PyData → Prop) => Q g.1) (fD K dA)) E f) (tCons te tNil) (tCons (tC (.ref f)) tNil)) (fun Q X => ml (fun rows => Q (sortPl rows)) X) (fD K (dL (dP dPl dv))) :=
  ⟨inferInstance, fun σ F L s cc Q X q F1 N H e A wsh Qk qk => h.run σ F L s cc _ X q F1 N H e A wsh _ fun v F2 H2 e2 A2 ⟨rows, q1, hv⟩ => by
    obtain ⟨l, us, rfl, hs, hr⟩ := ls_dt.mpr (show Dt K (.list (rows.map (dP dPl dv))) v F2 from hv)
    have hd := each_dt.mp hr
    have hl : us.length = rows.length := by have := dpAll_len hd; rwa [List.length_map] at this
    refine ⟨l, us, rfl, rfl, sqL_up A2.ex hs, fun ks H3 => ∃ F3, Same F2 F3 ∧ At F3 (L ++ N) H3 ∧ DpAll K F3 ks ((rows.take ks.length).map fun p => dPl p.1), ⟨F2, Same.refl _, A2, .nil⟩, fun ks H3 x ⟨F3, e3, A3, hk⟩ hx => ?_, fun ks H3 ⟨F3, e3, A3, hk⟩ hlk => ?_⟩
    · have hlt : ks.length < us.length := (List.getElem?_eq_some_iff.mp hx).1
      have hrow : rows[ks.length]? = some (rows[ks.length]'(by omega)) := List.getElem?_eq_getElem _
      obtain ⟨r, hr'⟩ : ∃ r, rows[ks.length]? = some r := ⟨_, hrow⟩
      have hxd : Dp K F2 x (dP dPl dv r) := by
        have := each_get (f := Dt K) hr hx
        obtain ⟨d, g1, g2⟩ := this
        rw [List.getElem?_map, hr'] at g1
        cases g1
        exact g2
      refine ⟨(dPl r.1, dv r.2), F3, L ++ N, fun d => d = dPl r.1, A3, ⟨dp_up e3 hxd, True.intro⟩, rfl, fun d v F4 H4 e4 A4 p rv => ⟨F4, e3.trans e4, A4, ?_⟩⟩
      have p : d = dPl r.1 := p
      subst p
      have et : rows.take (ks ++ [v]).length = rows.take ks.length ++ [r] := by
        rw [List.length_append, List.length_cons, List.length_nil, List.take_add_one, hr']
        rfl
      rw [et, List.map_append]
      exact dpAll_snoc (dpA_up e4 hk) rv
    · have e9 : rows.take ks.length = rows := List.take_of_length_le (by omega)
      rw [e9] at hk
      obtain ⟨qs, g1, g2, g3, g4, g5⟩ := rows_zip hk (dpA_up e3 hd)
      subst g1 g2 g3
      refine ⟨qs.map fun p => (p.1, dPl p.2.1.1, p.2.2), by rw [List.map_map]; rfl, by rw [List.map_map]; rfl, fun p hp => ?_, ?_, ?_, fun p hp => ?_, fun a ha => ?_⟩
      · obtain ⟨p0, hp0, rfl⟩ := List.mem_map.mp hp
        exact dp_up A3.ex (g4 p0 hp0)
      · rw [List.map_map]
        exact PySem.W.AllAlike.of fun p q => dPl_alike p.2.1.1 q.2.1.1
      · refine .inl fun d hd => ?_
        rw [List.map_map] at hd
        obtain ⟨p0, hp0, rfl⟩ := List.mem_map.mp hd
        exact ⟨_, _, rfl⟩
      · obtain ⟨p0, hp0, rfl⟩ := List.mem_map.mp hp
        have := Nice.dep (d := dPl) p0.2.1.1
        show (dPl p0.2.1.1).depth ≤ 8
        omega
      · have hms : (qs.map fun p : V × (Plc × β) × V => (p.1, dPl p.2.1.1, p.2.2)).mergeSort (PySem.W.dataLe false (·.2.1)) = (qs.mergeSort fun p q => plLe p.2.1.1 q.2.1.1).map fun p => (p.1, dPl p.2.1.1, p.2.2) := by
          rw [List.map_mergeSort]
          intro p hp q hq
          have := congrFun (congrFun (dataLe_pl (β := V × (Plc × β) × V) (fun p => p.2.1.1) (fun p => dPl p.2.1.1) fun _ => rfl) p) q
          exact this.symm
        have hsort : sortPl (qs.map (·.2.1)) = (qs.mergeSort fun p q => plLe p.2.1.1 q.2.1.1).map (·.2.1) := by
          rw [sortPl, List.map_mergeSort]
          intro p hp q hq
          rfl
        rw [hms, List.map_map]
        have s1 := same_new (o := HO.lst ((qs.mergeSort fun p q => plLe p.2.1.1 q.2.1.1).map fun p => p.2.2)) (A3.free ha)
        refine qk _ (upd F3 a _) _ ((e2.trans e3).trans s1) (A3.new ha) ⟨_, q1, ?_⟩
        rw [hsort]
        refine ls_dt.mp ⟨a, _, rfl, .inl (.inl upd_same), ?_⟩
        rw [List.map_map, List.map_map]
        have all : ∀ l : List (V × (Plc × β) × V), (∀ p ∈ l, p ∈ qs) → Each (l.map fun p => Dt K (dP dPl dv p.2.1)) (l.map fun p => p.2.2) (upd F3 a (.lst ((qs.mergeSort fun p q => plLe p.2.1.1 q.2.1.1).map fun p => p.2.2))) := by
          intro l
          induction l with
          | nil => intro _; exact True.intro
          | cons p l ih => intro hm; exact ⟨dp_up s1 (g5 p (hm p List.mem_cons_self)), ih fun y hy => hm y (List.mem_cons_of_mem _ hy)⟩
        exact all _ fun p hp => (List.mergeSort_perm _ _).mem_iff.mp hp⟩
end
end Tw

/-! Pe4: isinstance(x, dict); lists of unlike things; sorted by a key and d.get as rules over defs. -/
namespace Sn
open PySem PySem.Spec PyProof.Rows L2 PySem.W Rs
variable [Rs.Tabz]
/-- isinstance(x, dict), x such a dict -/
def rIsiDct (K : PySem.W.Frag) (P : Program) (w : World) : List V → Hp → VK → Prop := fun xs H Q => rIsi K xs H Q ∨ ∃ D zs, xs = [.ref D, .ty "dict"] ∧ Rd H D (dictN P w zs D) ∧ Q (.bl true) H
section
variable {X : Cx}
theorem call_isiDct (kit : PySem.W.kitOne X.K (.type "dict") (.type "dict") = some true) : CallR X (.builtin "isinstance") (rIsiDct X.K X.prog X.w) := by
  intro pins s σ H xs us Q I r h
  rcases h with h | ⟨D, zs, rfl, hD, q⟩
  · exact call_isi pins s σ H xs us Q I r h
  · obtain ⟨u1, u2, rfl, r1, r2⟩ := vals2 r
    cases (show u1 = Value.ref D from r1)
    have e2 := (ClsV.ty "dict").eq r2
    subst e2
    obtain ⟨⟨hs, _, ys, rel, o', es, ep, ho, hx, hdt, he, _⟩, _⟩ := hD.ok I.hok
    exact PySem.W.kia_one PySem.W.kitx_dict I.kIn ⟨o', ho, hx.1⟩ kit (fun z => nomatch z) fun tk => ⟨.bl true, H, I.tok tk, rfl, q⟩
theorem p_isiDct {e : Expr} {es : List Expr} {t : TA} {p pos : Pos} (K : PySem.W.Frag) (P : Program) (w : World) (B : Bf X.mg) (ha : PA X (e :: es) t) (kit : PySem.W.kitOne X.K (.type "dict") (.type "dict") = some true := by first | exact kit_ty (by decide +kernel) | decide +kernel) (hg : Gl X "isinstance" := by rfl) (he : starEach (e :: es) X.env = (false, eval e X.env) :: starEach es X.env := by rfl) (hpl : (backTo pos (starEach es X.env)).any (·.1) = false := by rfl) (hK : X.K = K := by rfl) (hP : X.prog = P := by rfl) (hw : X.w = w := by rfl) :
    PE X (.Call (.Name "isinstance" p) (e :: es) [] pos) (tCB (rIsiDct K P w) t) := by
  subst hK; subst hP; subst hw
  exact pe_callB (call_isiDct kit) hg B.isinstance PyProof.Rows.boot_isinstance ha (by decide) (by decide) he hpl
/-- a def's promise, its address told -/
def GfAt (P : Program) (w : World) (K : PySem.W.Frag) (mg : Str → Option Value) (base : Heap) (k : Nat) (x : Str) (sp : Sp) (f : Addr) : Prop := ∃ (fd : FuncData) (ps : List Str), FnOk P w K mg base CX0 k f fd ps sp ∧ mg x = some (.ref f) ∧ PySem.W.keepIn K (.ref f) = true ∧ Binds K fd ps []
theorem gf_at {P : Program} {w : World} {K : PySem.W.Frag} {mg : Str → Option Value} {base : Heap} {k : Nat} {x : Str} {sp : Sp} (c : Gf P w K mg base k x sp) : ∃ f, GfAt P w K mg base k x sp f := by
  obtain ⟨f, fd, ps, F, hm, kp, b⟩ := c.ex
  exact ⟨f, fd, ps, F, hm, kp, b⟩
/-- sorted(xs, key=f) -/
theorem p_sortF {x : Str} {sp : Sp} {f : Addr} {k j : Nat} {e : Expr} {es : List Expr} {p pk pos kpos : Pos} {t : TA} (c : GfAt X.prog X.w X.K X.mg X.base k x sp f) (K : PySem.W.Frag) (hr : Room j X.A) (hk : k + 1 ≤ j) (B : Bf X.mg) (ha : PA X (e :: es) t) (hK : X.K = K := by rfl) (hgx : Gl X x := by rfl) (hdx : (x == ("__debug__" : Str)) = false := by decide) (hg : Gl X "sorted" := by rfl)
    (he : backTo pos (starEach (e :: es) X.env) = (false, eval e X.env) :: backTo pos (starEach es X.env) := by rfl) (hpl : (backTo pos (starEach (e :: es) X.env)).any (·.1) = false := by rfl)
    (hall : (backToKw pos (keywordEach [⟨some (Str.ofString "key"), .Name x pk, kpos⟩] X.env)).all (·.1.isSome) = true := by rfl) (hnone : (backToKw pos (keywordEach [⟨some (Str.ofString "key"), .Name x pk, kpos⟩] X.env)).any (·.1.isNone) = false := by rfl) (hks : (backToKw pos (keywordEach [⟨some (Str.ofString "key"), .Name x pk, kpos⟩] X.env)).filterMap (·.1) = [Str.ofString "key"] := by rfl) :
    PE X (.Call (.Name "sorted" p) (e :: es) [⟨some (Str.ofString "key"), .Name x pk, kpos⟩] pos) (tCKw (rSortF K sp E0 f) t (tCons (tC (.ref f)) tNil)) := by
  subst hK
  obtain ⟨fd, ps, F, hm, kp, b⟩ := c
  exact pe_callBK (cr_sortF F (hr.mono hk) b (fun _ _ _ _ z => z)) hg B.sorted boot_sorted ha (pk_cons (pe_glob hgx hm rfl hdx) pk_nil) (by decide) (by decide) he hpl hall hnone hks
end
end Sn
namespace Tw
open PySem PySem.Spec PyProof.Rows L2 SlX StX Rs Ma Sn
variable [Rs.Tabz]
section
variable {ε α β γ : Type} {Z : Wsh ε} {ρ : List (Option VP)} {κ : List Ow} {K : PySem.W.Frag} {P : Program} {w : World} {te : TE} {t : TA} {Rb : β → VP} {R : α → VP}
theorem c_isiDN [DecidableEq α] {d : α → PyData} {n : Nat} [c : Keyd d n] [∀ b, Mono (Rb b)] : Cb ε (rIsiDct K P w) (fun p : List (α × β) × Unit => [fDK K P w d Rb p.1, Eqv (.ty "dict")]) (fun _ => pur true) (fD K dB) := .of fun g vs F L hv Q X q1 => by
  obtain ⟨v, u, rfl, h1, h2⟩ := each2 hv
  cases h2
  obtain ⟨D, zs, rfl, hD, _⟩ := h1
  exact ⟨true, q1, fun F2 N H e A Qk qk => .inr ⟨D, zs, rfl, rd_up (e.trans A.ex) hD, qk _ F2 H (Same.refl _) A (.bl true)⟩⟩
theorem c_isiDI [DecidableEq α] {d : α → PyData} [c : NumK d] [∀ b, Mono (Rb b)] (kit : PySem.W.kitOne K (.type "dict") (.type "dict") = some true := by first | exact kit_ty (by decide +kernel) | decide +kernel) : Cb ε (rIsiDct K P w) (fun p : List (α × β) × Unit => [fDI d Rb p.1, Eqv (.ty "dict")]) (fun _ => pur true) (fD K dB) := .of fun g vs F L hv Q X q1 => by
  obtain ⟨v, u, rfl, h1, h2⟩ := each2 hv
  cases h2
  obtain ⟨D, zs, rfl, hD, _⟩ := h1
  refine ⟨true, q1, fun F2 N H e A Qk qk => .inl ⟨.ref D, .ty "dict", .type "dict", .type "dict", true, rfl, .ty "dict", ?_, kit, qk _ F2 H (Same.refl _) A (.bl true)⟩⟩
  rcases rd_up (e.trans A.ex) hD with h | ⟨o, h⟩
  · exact .base (.dK h)
  · exact .fDict h
/-- sorted(d), d a dict by numbers that stays -/
theorem c_sortedDZ [∀ b, Mono (Rb b)] : Cb ε rSortedDI (fun kvs : List (Nat × β) => [fDI dN Rb kvs]) (fun kvs Q X => kvs.length < 64 ∧ Q (sortN (kvs.map (·.1)))) (fD K (dL dN)) := .of fun kvs vs F L hv Q X ⟨q0, q1⟩ => by
  obtain ⟨v, rfl, D, zs, rfl, hD, hr, hn⟩ := each1 hv
  have hk : zs.map (·.1) = (cI (kvs.map (·.1))).map Sum.inl := by
    rw [relD_fst hr, cI, List.map_map, List.map_map, List.map_map]; rfl
  refine ⟨sortN (kvs.map (·.1)), q1, fun F2 N H e A Qk qk => ⟨D, zs, cI (kvs.map (·.1)), rfl, rd_up (e.trans A.ex) hD, hk, by rw [cI, List.length_map, List.length_map]; exact q0, ?_⟩⟩
  intro os p h1 h2 hp
  have eo : os = cI (sortN (kvs.map (·.1))) := List.Perm.eq_of_pairwise (le := (· ≤ ·)) (fun a b _ _ x y => Int.le_antisymm x y) h2 (List.pairwise_map.mpr (sortN_asc.imp fun {a b} h => by show (a : Int) ≤ (b : Int); omega)) (h1.trans (sortN_perm.map _).symm)
  subst eo
  have s1 := same_new (o := HO.lst ((cI (sortN (kvs.map (·.1)))).map V.int)) (A.free hp)
  refine qk _ (upd F2 p _) _ s1 (A.new hp) (ls_dt.mp ⟨p, _, rfl, .inl (.inl upd_same), ?_⟩)
  rw [List.map_map, cI, List.map_map]
  have all : ∀ (xs : List Nat) (F : Hp), Each (xs.map (Dt K ∘ dN)) (xs.map (V.int ∘ fun n : Nat => (n : Int))) F := by
    intro xs F
    induction xs with
    | nil => exact True.intro
    | cons x xs ih => exact ⟨.int _, ih⟩
  exact all _ _
/-- [a, b, ..] of unlike things -/
theorem tr_lstM {mg : Wm ε γ} {Rs : γ → List VP} (h : TrA Z ρ κ t mg Rs) : TrE Z ρ κ (tLst t) (fun Q X => mg (fun g => (Rs g).length ≤ 100000 ∧ Q g) X) (fun g => Ln (Rs g)) :=
  have := h.mono
  ⟨fun g => ⟨fun v F F' e ⟨a, vs, ev, h1, h2⟩ => ⟨a, vs, ev, e _ _ h1, MonoL.mono _ _ _ e h2⟩⟩, fun σ F L s c Q X q F1 N H e A wsh Qk qk => h.run σ F L s c _ X q F1 N H e A wsh _ fun vs F2 H2 e2 A2 ⟨g, ⟨q0, q1⟩, r⟩ =>
    ⟨len_ok (by rw [each_length r]; exact q0), fun p hp => qk _ (upd F2 p _) _ (e2.trans (same_new (A2.free hp))) (A2.new hp) ⟨g, q1, p, vs, rfl, upd_same, MonoL.mono _ _ _ (same_new (A2.free hp)) r⟩⟩⟩
/-- its item at a written place -/
theorem each_ix : ∀ {Rs : List VP} {vs : List V} {F : Hp} {i : Nat} {R : VP}, Each Rs vs F → Rs[i]? = some R → ∃ v, vs[i]? = some v ∧ R v F
  | R :: Rs, v :: vs, F, 0, R', h, e => by simp at e; subst e; exact ⟨v, rfl, h.1⟩
  | R :: Rs, v :: vs, F, i + 1, R', h, e => by
    obtain ⟨u, h1, h2⟩ := each_ix (i := i) h.2 (by simpa using e)
    exact ⟨u, by simpa using h1, h2⟩
  | [], [], _, _, _, _, e => by simp at e
  | [], _ :: _, _, _, _, h, _ => h.elim
  | _ :: _, [], _, _, _, h, _ => h.elim
theorem tr_ixM {mg : Wm ε γ} {Rs : γ → List VP} {j : Int} (f : γ → α) (i : Nat) [∀ a, Mono (R a)] (h : TrE Z ρ κ te mg (fun g => Ln (Rs g))) (hi : ∀ g, (Rs g)[i]? = some (R (f g))) (hj : j = (i : Nat) := by rfl) : TrE Z ρ κ (tOp (rIxL K) te (tC (.int j))) (fun Q X => mg (fun g => Q (f g)) X) R := by
  subst hj
  exact ⟨inferInstance, fun σ F L s c Q X q => rw_bind (k := te σ) (k2 := fun x H Q => tOp (rIxL K) (tC x) (tC (.int (i : Nat))) σ H Q) (h.run σ F L s c _ X q) fun x F1 e1 ⟨g, q1, a, vs, ev, hs, hr⟩ => .of fun F2 N H e A Qk qk => by
    subst ev
    obtain ⟨v, hv, hR⟩ := each_ix hr (hi g)
    have hl : i < vs.length := (List.getElem?_eq_some_iff.mp hv).1
    exact ⟨a, vs, (i : Nat), v, rfl, rfl, .inl (.inl (A.ex _ _ (e _ _ hs))), atI_nat hv, qk _ F2 H (Same.refl _) A ⟨_, q1, Mono.mono _ _ _ e hR⟩⟩⟩
/-- what a value stands for, said otherwise -/
theorem tr_map {γ : Type} {R : γ → VP} {m : Wm ε α} [∀ a, Mono (R a)] (f : α → γ) (h : TrE Z ρ κ te m (fun a => R (f a))) : TrE Z ρ κ te (fun Q X => m (fun a => Q (f a)) X) R :=
  ⟨inferInstance, fun σ F L s c Q X q => (h.run σ F L s c _ X q).weak fun v F2 e ⟨a, q1, r1⟩ => ⟨f a, q1, r1⟩⟩
/-- an item of a pair -/
theorem tr_fst {d : α → PyData} {e : β → PyData} {m : Wm ε (α × β)} (h : TrE Z ρ κ te m (fD K (dP d e))) : TrE Z ρ κ (tOp (rIxT K) te (tC (.int 0))) (fun Q X => m (fun p => Q p.1) X) (fD K d) :=
  ⟨inferInstance, fun σ F L s c Q X q => rw_bind (k := te σ) (k2 := fun x H Q => tOp (rIxT K) (tC x) (tC (.int 0)) σ H Q) (h.run σ F L s c _ X q) fun x F1 e1 ⟨p, q1, hx⟩ => .of fun F2 N H e A Qk qk => by
    obtain ⟨a, vs, rfl, hs, hr⟩ := rP_dP.mpr hx
    obtain ⟨v1, v2, rfl, r1, r2⟩ := each2 hr
    exact ⟨a, [v1, v2], (0 : Nat), v1, rfl, rfl, sqT_up (e.trans A.ex) hs, atI_nat rfl, qk _ F2 H (Same.refl _) A ⟨_, q1, Mono.mono (R := fD K d p.1) _ _ _ e r1⟩⟩⟩
theorem tr_snd {d : α → PyData} {e : β → PyData} {m : Wm ε (α × β)} (h : TrE Z ρ κ te m (fD K (dP d e))) : TrE Z ρ κ (tOp (rIxT K) te (tC (.int 1))) (fun Q X => m (fun p => Q p.2) X) (fD K e) :=
  ⟨inferInstance, fun σ F L s c Q X q => rw_bind (k := te σ) (k2 := fun x H Q => tOp (rIxT K) (tC x) (tC (.int 1)) σ H Q) (h.run σ F L s c _ X q) fun x F1 e1 ⟨p, q1, hx⟩ => .of fun F2 N H e' A Qk qk => by
    obtain ⟨a, vs, rfl, hs, hr⟩ := rP_dP.mpr hx
    obtain ⟨v1, v2, rfl, r1, r2⟩ := each2 hr
    exact ⟨a, [v1, v2], (1 : Nat), v2, rfl, rfl, sqT_up (e'.trans A.ex) hs, atI_nat rfl, qk _ F2 H (Same.refl _) A ⟨_, q1, Mono.mono (R := fD K e p.2) _ _ _ e' r2⟩⟩⟩
/-- isinstance(p, tuple), len(p) of a pair -/
theorem tr_pAny {d : α → PyData} {e : β → PyData} {m : Wm ε (α × β)} (h : TrE Z ρ κ te m (fD K (dP d e))) : TrE Z ρ κ te (fun Q X => m (fun p => Q [d p.1, e p.2]) X) (fD K (dT dA)) := h.conv (fun p => [d p.1, e p.2]) fun _ _ _ x => x
end
end Tw

/-! Pf0: what a program is. -/
namespace Wb
open PySem PySem.Spec PyProof.Rows L2 SlX StX Rs Ma Sn Tw
variable [Rs.Tabz]
abbrev Hrd := List (Option Nat)
abbrev Mvk := Nat × Hrd
structure Prg where
  size : Nat
  states : Nat
  starts : Rows
  moves : List (Mvk × Nat)
  decs : List (Nat × Nat)
def StartsOk (size states : Nat) (ss : Rows) : Prop := ss.length = size ∧ ∀ p ∈ ss, p.length = 2 ∧ ∀ x ∈ p, x < states
def HearOk (size states s : Nat) (h : Hrd) : Prop := h.length = size ∧ (∀ x, some x ∈ h → x < states) ∧ some s ∈ h
def DecsOk (states : Nat) (ds : List (Nat × Nat)) : Prop := (ds.map (·.1)).Nodup ∧ ds.length < 64 ∧ ∀ p ∈ ds, p.1 < states ∧ p.2 ≤ 1
def letB (ds : List (Nat × Nat)) (s t : Nat) : Bool := !(getA ds s).isSome || decide (getA ds t = getA ds s)
def MovesOk (size states : Nat) (ds : List (Nat × Nat)) (mv : List (Mvk × Nat)) : Prop := (mv.map (·.1)).Nodup ∧ mv.length ≤ 1000 ∧ ∀ x ∈ mv, x.1.1 < states ∧ HearOk size states x.1.1 x.1.2 ∧ x.2 < states ∧ letB ds x.1.1 x.2 = true
structure RawOk (g : Nat × Nat × Rows × List (Mvk × Nat) × List (Nat × Nat)) : Prop where
  sz : 1 ≤ g.1 ∧ g.1 ≤ 5
  st : 1 ≤ g.2.1 ∧ g.2.1 ≤ 400
  starts : StartsOk g.1 g.2.1 g.2.2.1
  moves : MovesOk g.1 g.2.1 g.2.2.2.2 g.2.2.2.1
  decs : DecsOk g.2.1 g.2.2.2.2
def placeOf (states : Nat) (k : Mvk) : Nat × List Nat := (k.1, k.2.map fun o => o.getD states)
def sortMoves (states : Nat) (mv : List (Mvk × Nat)) : List (Mvk × Nat) := (sortPl (mv.map fun x => (placeOf states x.1, x))).map (·.2)
theorem sortMoves_perm {states : Nat} {mv : List (Mvk × Nat)} : (sortMoves states mv).Perm mv := by
  refine (sortPl_perm.map _).trans ?_
  rw [List.map_map]
  exact List.Perm.of_eq (List.map_id _)
def sortDecs (ds : List (Nat × Nat)) : List (Nat × Nat) := (sortN (ds.map (·.1))).map fun s => (s, (getA ds s).getD 0)
def mkP (g : Nat × Nat × Rows × List (Mvk × Nat) × List (Nat × Nat)) : Prg := ⟨g.1, g.2.1, g.2.2.1, sortMoves g.2.1 g.2.2.2.1, sortDecs g.2.2.2.2⟩
/-- what is always so of a program -/
def PrOk (p : Prg) : Prop := RawOk (p.size, p.states, p.starts, p.moves, p.decs)
theorem getA_mem {α β : Type} [DecidableEq α] : ∀ {ps : List (α × β)} {a : α} {b : β}, getA ps a = some b → (a, b) ∈ ps
  | p :: ps, a, b, h => by
    unfold getA at h
    split at h
    · rename_i e
      cases h
      exact e ▸ List.mem_cons_self
    · exact List.mem_cons_of_mem _ (getA_mem h)
  | [], _, _, h => by cases h
theorem getA_of {α β : Type} [DecidableEq α] : ∀ {ps : List (α × β)} {p : α × β}, (ps.map (·.1)).Nodup → p ∈ ps → getA ps p.1 = some p.2
  | q :: ps, p, hn, h => by
    rw [List.map_cons, List.nodup_cons] at hn
    unfold getA
    rcases List.mem_cons.mp h with rfl | h
    · rw [if_pos rfl]
    · have hne : ¬ q.1 = p.1 := fun e => hn.1 (by rw [e]; exact List.mem_map_of_mem h)
      rw [if_neg hne]
      exact getA_of hn.2 h
  | [], _, _, h => by cases h
theorem getA_perm {α β : Type} [DecidableEq α] {ps qs : List (α × β)} (h : ps.Perm qs) (hn : (qs.map (·.1)).Nodup) (a : α) : getA ps a = getA qs a := by
  have hn' : (ps.map (·.1)).Nodup := (h.map _).nodup_iff.mpr hn
  cases e : getA qs a with
  | some b => exact getA_of (p := (a, b)) hn' (h.mem_iff.mpr (getA_mem e))
  | none =>
    rw [getA_none] at e ⊢
    exact fun z => e ((h.map _).mem_iff.mp z)
theorem sortDecs_perm {ds : List (Nat × Nat)} (hn : (ds.map (·.1)).Nodup) : (sortDecs ds).Perm ds := by
  refine (sortN_perm.map _).trans ?_
  rw [List.map_map]
  refine List.Perm.of_eq ?_
  have : ∀ x ∈ ds, ((fun s => (s, (getA ds s).getD 0)) ∘ fun x : Nat × Nat => x.1) x = id x := fun x hx => by
    show (x.1, (getA ds x.1).getD 0) = x
    rw [getA_of hn hx]; rfl
  rw [List.map_congr_left this, List.map_id]
theorem mkP_ok {g : Nat × Nat × Rows × List (Mvk × Nat) × List (Nat × Nat)} (h : RawOk g) : PrOk (mkP g) := by
  obtain ⟨h1, h2, h3, ⟨m1, m2, m3⟩, ⟨d1, d2, d3⟩⟩ := h
  have pm := sortMoves_perm (states := g.2.1) (mv := g.2.2.2.1)
  have pd := sortDecs_perm d1
  refine ⟨h1, h2, h3, ⟨(pm.map _).nodup_iff.mpr m1, by rw [show (mkP g).moves = sortMoves g.2.1 g.2.2.2.1 from rfl, pm.length_eq]; exact m2, fun x hx => ?_⟩, ⟨(pd.map _).nodup_iff.mpr d1, by rw [show (mkP g).decs = sortDecs g.2.2.2.2 from rfl, pd.length_eq]; exact d2, fun p hp => d3 p (pd.mem_iff.mp hp)⟩⟩
  obtain ⟨a, b, c, d⟩ := m3 x (pm.mem_iff.mp hx)
  refine ⟨a, b, c, ?_⟩
  show letB (sortDecs g.2.2.2.2) x.1.1 x.2 = true
  unfold letB at d ⊢
  rw [getA_perm pd d1, getA_perm pd d1]
  exact d
theorem each5 {A B C D E : VP} {vs : List V} {F : Hp} (h : Each [A, B, C, D, E] vs F) : ∃ a b c d e, vs = [a, b, c, d, e] ∧ A a F ∧ B b F ∧ C c F ∧ D d F ∧ E e F := by
  cases vs with
  | nil => exact h.elim
  | cons a vs => cases vs with
    | nil => exact h.2.elim
    | cons b vs => cases vs with
      | nil => exact h.2.2.elim
      | cons c vs => cases vs with
        | nil => exact h.2.2.2.elim
        | cons d vs => cases vs with
          | nil => exact h.2.2.2.2.elim
          | cons e vs => cases vs with
            | nil => exact ⟨a, b, c, d, e, rfl, h.1, h.2.1, h.2.2.1, h.2.2.2.1, h.2.2.2.2.1⟩
            | cons _ _ => exact h.2.2.2.2.2.elim
noncomputable def progVs (K : PySem.W.Frag) (P : Program) (w : World) (p : Prg) : List VP := [fD K dN p.size, fD K dN p.states, fD K (dT (dT dN)) p.starts, fDKZ K P w (dP dN (dT dO)) (fD K dN) p.moves, fDZ dN (fD K dN) p.decs]
instance {K : PySem.W.Frag} {P : Program} {w : World} {p : Prg} : MonoL (progVs K P w p) := by unfold progVs; infer_instance
noncomputable def progP (C : Addr) (K : PySem.W.Frag) (P : Program) (w : World) (p : Prg) : VP := fun v F => PrOk p ∧ Ob C [2, 4, 3, 1, 0] (progVs K P w p) v F
instance {C : Addr} {K : PySem.W.Frag} {P : Program} {w : World} {p : Prg} : Mono (progP C K P w p) := ⟨fun _ _ _ e h => ⟨h.1, Mono.go h.2 e⟩⟩
structure ProgK (K : PySem.W.Frag) (C : Addr) : Prop where
  sc : SCls K C
  si : SIsi K C
  kit : PySem.W.kitOne K (.ref C) (.ref C) = some true
  size : SlF K C "own_size" 2
  states : SlF K C "own_states" 4
  starts : SlF K C "own_starts" 3
  moves : SlF K C "own_moves" 1
  decs : SlF K C "own_decisions" 0
noncomputable abbrev spProgInit (C : Addr) (K : PySem.W.Frag) (P : Program) (w : World) : Sp := SpI C (γ := Nat × Nat × Rows × List (Mvk × Nat) × List (Nat × Nat)) RawOk (fun g => [fD K dN g.1, fD K dN g.2.1, fD K (dT (dT dN)) g.2.2.1, fDKZ K P w (dP dN (dT dO)) (fD K dN) g.2.2.2.1, fDZ dN (fD K dN) g.2.2.2.2]) (fun g => progP C K P w (mkP g))
section
variable {P : Program} {w : World} {K : PySem.W.Frag} {C_Program : Addr}
theorem is_prog : ∀ (a : Prg) v F, progP C_Program K P w a v F → IsOb C_Program v F := fun _ _ _ h => h.2.is
theorem ok_prog : ∀ (a : Prg) v F, progP C_Program K P w a v F → PrOk a := fun _ _ _ h => h.1
theorem fl_prog_own_size (W : ProgK K C_Program) : Fld K (progP C_Program K P w) "own_size" (fun p => p.size) (fD K dN) := ⟨fun a v F L h => r_fld (k := 0) (is := [2, 4, 3, 1, 0]) (Rs := progVs K P w a) W.size (r_c (R := Ob C_Program [2, 4, 3, 1, 0] (progVs K P w a)) h.2) rfl rfl⟩
theorem fl_prog_own_states (W : ProgK K C_Program) : Fld K (progP C_Program K P w) "own_states" (fun p => p.states) (fD K dN) := ⟨fun a v F L h => r_fld (k := 1) (is := [2, 4, 3, 1, 0]) (Rs := progVs K P w a) W.states (r_c (R := Ob C_Program [2, 4, 3, 1, 0] (progVs K P w a)) h.2) rfl rfl⟩
theorem fl_prog_own_starts (W : ProgK K C_Program) : Fld K (progP C_Program K P w) "own_starts" (fun p => p.starts) (fD K (dT (dT dN))) := ⟨fun a v F L h => r_fld (k := 2) (is := [2, 4, 3, 1, 0]) (Rs := progVs K P w a) W.starts (r_c (R := Ob C_Program [2, 4, 3, 1, 0] (progVs K P w a)) h.2) rfl rfl⟩
theorem fl_prog_own_moves (W : ProgK K C_Program) : Fld K (progP C_Program K P w) "own_moves" (fun p => p.moves) (fDKZ K P w (dP dN (dT dO)) (fD K dN)) := ⟨fun a v F L h => r_fld (k := 3) (is := [2, 4, 3, 1, 0]) (Rs := progVs K P w a) W.moves (r_c (R := Ob C_Program [2, 4, 3, 1, 0] (progVs K P w a)) h.2) rfl rfl⟩
theorem fl_prog_own_decisions (W : ProgK K C_Program) : Fld K (progP C_Program K P w) "own_decisions" (fun p => p.decs) (fDZ dN (fD K dN)) := ⟨fun a v F L h => r_fld (k := 4) (is := [2, 4, 3, 1, 0]) (Rs := progVs K P w a) W.decs (r_c (R := Ob C_Program [2, 4, 3, 1, 0] (progVs K P w a)) h.2) rfl rfl⟩
end
end Wb

/-! Th0: tuples whose object is known (so that t.index(x) is found); an optional number that must be there. -/
namespace Rs
open PySem PySem.Spec PyProof.Rows L2 SlX StX
section
variable {X : Cx} {e o : Expr} {es : List Expr} {t : TA} {to : TE} {p pos apos cpos : Pos} {name : Str} {id : String} {r : V → List V → Hp → VK → Prop}
/-- an object that a tuple of no class of one's own has -/
def PlT (o : Obj) : Prop := o.cls = .type "tuple" ∧ o.dict = none
end
end Rs
namespace Tw
open PySem PySem.Spec PyProof.Rows L2 SlX StX Rs Ma
variable [Rs.Tabz]
/-- tuples whose object is known -/
def fZ {α : Type} (R : α → VP) : List α → VP := fun xs v F => ∃ p o vs, v = .ref p ∧ F p = some (.frz o (.tup vs)) ∧ PlT o ∧ Each (xs.map R) vs F
instance {α : Type} {R : α → VP} [∀ a, Mono (R a)] {xs : List α} : Mono (fZ R xs) := ⟨fun _ _ _ e ⟨p, o, vs, h, s, z, r⟩ => ⟨p, o, vs, h, e _ _ s, z, MonoL.mono _ _ _ e r⟩⟩
section
variable {ε α β γ δ : Type} {Z : Wsh ε} {ρ : List (Option VP)} {κ : List Ow} {K : PySem.W.Frag} {te ta tb tc tx : TE} {i : Nat} {R : α → VP} {Rb : β → VP}
/-- an optional number that must be there -/
theorem tr_oN {m : Wm ε (Option Nat)} (h : TrE Z ρ κ te m (fD K dO)) : TrE Z ρ κ te (fun Q X => m (fun o => ∃ n, o = some n ∧ Q n) X) (fD K dN) :=
  ⟨inferInstance, fun σ F L s c Q X q => (h.run σ F L s c _ X q).weak fun v F1 e ⟨o, ⟨n, eo, q1⟩, hv⟩ => by
    subst eo
    exact ⟨n, q1, hv⟩⟩
end
end Tw

/-! Pg0: objects that change: their cells. -/
namespace Tw
open PySem PySem.Spec PyProof.Rows L2 SlX StX Rs Ma Sn
variable [Rs.Tabz]
/-! ### cells laid into what stays, and taken out again -/
def addM (F : Hp) : Cells → Hp
  | [] => F
  | p :: M => addM (upd F p.1 p.2) M
def cutM (F : Hp) : Cells → Hp
  | [] => F
  | p :: M => cutF (cutM F M) p.1
def OkC (o : HO) : Prop := (∀ xs, o ≠ .tup xs) ∧ (∀ ps, o ≠ .tbl ps) ∧ (∀ c q, o ≠ CodeT c q) ∧ ∀ o' u, o ≠ .frz o' u
section
variable {F F1 F2 H : Hp} {M N L : Cells} {a : Addr} {o : HO}
theorem cutF_ne {b : Addr} (h : b ≠ a) : cutF F a b = F b := if_neg h
theorem cutM_not : ∀ {M : Cells} {b : Addr}, b ∉ M.map (·.1) → cutM F M b = F b
  | [], _, _ => rfl
  | p :: M, b, h => by
    rw [List.map_cons, List.mem_cons, not_or] at h
    show cutF (cutM F M) p.1 b = _
    rw [cutF_ne h.1, cutM_not h.2]
theorem addM_same : ∀ {M : Cells} {F : Hp}, (∀ p ∈ M, F p.1 = none) → (M.map (·.1)).Nodup → Same F (addM F M)
  | [], F, _, _ => Same.refl _
  | p :: M, F, h, n => by
    rw [List.map_cons, List.nodup_cons] at n
    have h1 : Same F (upd F p.1 p.2) := same_new (h p List.mem_cons_self)
    refine h1.trans (addM_same (fun q hq => ?_) n.2)
    have hne : q.1 ≠ p.1 := fun z => n.1 (z ▸ List.mem_map_of_mem (f := (·.1)) hq)
    rw [upd_ne hne]; exact h q (List.mem_cons_of_mem _ hq)
theorem addM_on : ∀ {M : Cells} {F : Hp}, (∀ p ∈ M, F p.1 = none) → (M.map (·.1)).Nodup → ∀ q ∈ M, addM F M q.1 = some q.2
  | p :: M, F, h, n, q, hq => by
    rw [List.map_cons, List.nodup_cons] at n
    have h2 : ∀ q ∈ M, upd F p.1 p.2 q.1 = none := fun q hq => by
      have hne : q.1 ≠ p.1 := fun z => n.1 (z ▸ List.mem_map_of_mem (f := (·.1)) hq)
      rw [upd_ne hne]; exact h q (List.mem_cons_of_mem _ hq)
    rcases List.mem_cons.mp hq with z | z
    · subst z; exact addM_same h2 n.2 _ _ upd_same
    · exact addM_on h2 n.2 q z
theorem At.keepL : ∀ {M : Cells} {F : Hp}, At F (M ++ L) H → At (addM F M) L H
  | [], _, A => A
  | p :: M, _, A => At.keepL (M := M) (At.keep (a := p.1) (o := p.2) A)
theorem At.unkeepL : ∀ {M : Cells}, (M.map (·.1)).Nodup → (∀ p ∈ M, F2 p.1 = some p.2 ∧ OkC p.2) → At F2 L H → At (cutM F2 M) (M ++ L) H
  | [], _, _, A => A
  | p :: M, n, h, A => by
    rw [List.map_cons, List.nodup_cons] at n
    obtain ⟨h1, k1, k2, k3, k4⟩ := h p List.mem_cons_self
    have A1 := At.unkeepL n.2 (fun q hq => h q (List.mem_cons_of_mem _ hq)) A
    refine At.unkeep (F := fun _ => none) (a := p.1) (o := p.2) k1 k2 k3 (fun b u e => ?_) A1
    by_cases hb : b = p.1
    · subst hb; rw [upd_same] at e; rw [cutM_not n.1, h1]; exact e
    · rw [upd_ne hb] at e; cases e
theorem cutM_same (e : Same F F2) (h : ∀ p ∈ M, F p.1 = none) : Same F (cutM F2 M) := fun b u hb => by
  rw [cutM_not fun z => ?_]
  · exact e b u hb
  · obtain ⟨q, hq, rfl⟩ := List.mem_map.mp z
    rw [h q hq] at hb; cases hb
theorem cut_M {δ : Type} {R : δ → VP} [Cut R] {d : δ} {v : V} : ∀ {M : Cells}, (M.map (·.1)).Nodup → (∀ p ∈ M, F p.1 = some p.2 ∧ OkC p.2) → R d v F → R d v (cutM F M)
  | [], _, _, h => h
  | p :: M, n, hM, h => by
    rw [List.map_cons, List.nodup_cons] at n
    obtain ⟨h1, k1, k2, k3, k4⟩ := hM p List.mem_cons_self
    exact Cut.cut d v (cutM F M) p.1 p.2 (by rw [cutM_not n.1]; exact h1) k1 k4 (cut_M n.2 (fun q hq => hM q (List.mem_cons_of_mem _ hq)) h)
theorem At.nodL (A : At F (M ++ L) H) : (M.map (·.1)).Nodup := A.left.nd
theorem At.offL (A : At F (M ++ L) H) : ∀ p ∈ M, F p.1 = none := A.left.off
end
/-! ### fields -/
inductive FD where
  | v (R : VP)
  | l (Rs : List VP)
abbrev Fds := List (Str × FD)
def HoldD : FD → V → Cells → Hp → Prop
  | .v R, x, M, F => M = [] ∧ R x F ∧ Mono R
  | .l Rs, x, M, F => ∃ p xs, x = .ref p ∧ M = [(p, .lst xs)] ∧ Each Rs xs F ∧ MonoL Rs
def HoldF : Fds → List (Str × V) → Cells → Hp → Prop
  | [], [], M, _ => M = []
  | d :: ds, f :: fs, M, F => d.1 = f.1 ∧ ∃ M1 M2, M = M1 ++ M2 ∧ HoldD d.2 f.2 M1 F ∧ HoldF ds fs M2 F
  | _, _, _, _ => False
section
variable {F F1 F2 H : Hp} {M N L : Cells} {ds : Fds} {fs : List (Str × V)} {f : Str} {d d' : FD} {x y : V}
theorem holdD_up (e : Same F F1) (h : HoldD d x M F) : HoldD d x M F1 := by
  cases d with
  | v R => obtain ⟨h1, h2, h3⟩ := h; exact ⟨h1, h3.mono _ _ _ e h2, h3⟩
  | l Rs => obtain ⟨p, xs, h1, h2, h3, h4⟩ := h; exact ⟨p, xs, h1, h2, h4.mono _ _ _ e h3, h4⟩
theorem holdF_up (e : Same F F1) : ∀ {ds : Fds} {fs : List (Str × V)} {M : Cells}, HoldF ds fs M F → HoldF ds fs M F1
  | [], [], _, h => h
  | d :: ds, f :: fs, _, ⟨h1, M1, M2, h2, h3, h4⟩ => ⟨h1, M1, M2, h2, holdD_up e h3, holdF_up e h4⟩
  | [], _ :: _, _, h => h.elim
  | _ :: _, [], _, h => h.elim
theorem holdF_names : ∀ {ds : Fds} {fs : List (Str × V)} {M : Cells}, HoldF ds fs M F → fs.map (·.1) = ds.map (·.1)
  | [], [], _, _ => rfl
  | d :: ds, f :: fs, _, ⟨h1, M1, M2, h2, h3, h4⟩ => by rw [List.map_cons, List.map_cons, holdF_names h4, h1]
  | [], _ :: _, _, h => h.elim
  | _ :: _, [], _, h => h.elim
/-- one field by itself -/
theorem holdF_zoom : ∀ {ds : Fds} {fs : List (Str × V)} {M : Cells} {k : Nat}, ds[k]? = some (f, d) → HoldF ds fs M F → ∃ x M1 M2, fs[k]? = some (f, x) ∧ M.Perm (M1 ++ M2) ∧ HoldD d x M1 F ∧
    ∀ d' y Mn F', Same F F' → HoldD d' y Mn F' → ∃ M', M'.Perm (Mn ++ M2) ∧ HoldF (ds.set k (f, d')) (fs.set k (f, y)) M' F'
  | [], [], _, k, e, _ => by simp at e
  | dd :: ds, ff :: fs, _, 0, e, ⟨h1, M1, M2, h2, h3, h4⟩ => by
    cases (Option.some.inj e : dd = _)
    obtain ⟨fn, x⟩ := ff
    cases (h1 : f = fn)
    exact ⟨x, M1, M2, rfl, by rw [h2], h3, fun d' y Mn F' e' hy => ⟨Mn ++ M2, List.Perm.refl _, rfl, Mn, M2, rfl, hy, holdF_up e' h4⟩⟩
  | dd :: ds, ff :: fs, _, k + 1, e, ⟨h1, M1, M2, h2, h3, h4⟩ => by
    obtain ⟨x, N1, N2, g1, g2, g3, g4⟩ := holdF_zoom (k := k) (by simpa using e) h4
    refine ⟨x, N1, M1 ++ N2, by simpa using g1, ?_, g3, fun d' y Mn F' e' hy => ?_⟩
    · rw [h2]
      exact (g2.append_left M1).trans (by rw [← List.append_assoc, ← List.append_assoc]; exact List.perm_append_comm.append_right _)
    · obtain ⟨M', p1, p2⟩ := g4 d' y Mn F' e' hy
      refine ⟨M1 ++ M', ?_, h1, M1, M', rfl, holdD_up e' h3, p2⟩
      exact (p1.append_left M1).trans (by rw [← List.append_assoc, ← List.append_assoc]; exact List.perm_append_comm.append_right _)
  | [], _ :: _, _, _, _, h => h.elim
  | _ :: _, [], _, _, _, h => h.elim
theorem holdF_app : ∀ {ds : Fds} {fs : List (Str × V)} {M : Cells}, HoldF ds fs M F → HoldD d y N F → HoldF (ds ++ [(f, d)]) (fs ++ [(f, y)]) (M ++ N) F
  | [], [], _, h, hd => by
    rw [show _ = [] from h]
    exact ⟨rfl, N, [], (List.append_nil N).symm, hd, rfl⟩
  | dd :: ds, ff :: fs, _, ⟨h1, M1, M2, h2, h3, h4⟩, hd => by
    refine ⟨h1, M1, M2 ++ N, ?_, h3, holdF_app h4 hd⟩
    rw [h2, List.append_assoc]
  | [], _ :: _, _, h, _ => h.elim
  | _ :: _, [], _, h, _ => h.elim
theorem putF_at : ∀ {fs : List (Str × V)} {k : Nat}, fs[k]? = some (f, x) → (fs.map (·.1)).Nodup → putF f y fs = fs.set k (f, y)
  | [], k, e, _ => by simp at e
  | p :: fs, 0, e, n => by
    cases (Option.some.inj e : p = _)
    show (if f = f then _ else _) = _
    rw [if_pos rfl]; rfl
  | (g, z) :: fs, k + 1, e, n => by
    rw [List.map_cons, List.nodup_cons] at n
    have e' : fs[k]? = some (f, x) := by simpa using e
    have hne : g ≠ f := fun h => n.1 (List.mem_map.mpr ⟨(f, x), List.mem_iff_getElem?.mpr ⟨k, e'⟩, h.symm⟩)
    show (if g = f then _ else _) = _
    rw [if_neg hne, putF_at e' n.2]; rfl
theorem putF_no : ∀ {fs : List (Str × V)}, f ∉ fs.map (·.1) → putF f y fs = fs ++ [(f, y)]
  | [], _ => rfl
  | (g, z) :: fs, h => by
    rw [List.map_cons, List.mem_cons, not_or] at h
    show (if g = f then _ else _) = _
    rw [if_neg fun e => h.1 e.symm, putF_no h.2]; rfl
/-- a field is given a value, or made -/
inductive UpdD (f : Str) (d' : FD) (ds : Fds) : Fds → Prop
  | at_ (k : Nat) (d : FD) : ds[k]? = some (f, d) → UpdD f d' ds (ds.set k (f, d'))
  | new : f ∉ ds.map (·.1) → UpdD f d' ds (ds ++ [(f, d')])
theorem UpdD.put {ds' : Fds} (u : UpdD f d' ds ds') (n : (ds.map (·.1)).Nodup) (h : HoldF ds fs N F) (e : Same F F1) (hy : HoldD d' y M F1) : ∃ N' G, (M ++ N).Perm (G ++ N') ∧ HoldF ds' (putF f y fs) N' F1 ∧ (ds'.map (·.1)).Nodup ∧ ds'.length ≤ ds.length + 1 := by
  cases u with
  | at_ k d hk =>
    obtain ⟨x, M1, M2, g1, g2, g3, g4⟩ := holdF_zoom hk h
    obtain ⟨N', p1, p2⟩ := g4 d' y M F1 e hy
    refine ⟨N', M1, ?_, ?_, ?_, by rw [List.length_set]; omega⟩
    · refine (g2.append_left M).trans ?_
      rw [← List.append_assoc]
      refine (List.perm_append_comm.append_right M2).trans ?_
      rw [List.append_assoc]
      exact p1.symm.append_left M1
    · rw [putF_at g1 (by rw [holdF_names h]; exact n)]; exact p2
    · have hm : (ds.set k (f, d')).map (·.1) = ds.map (·.1) := by
        rw [List.map_set]
        apply List.ext_getElem?
        intro j
        by_cases hj : k = j
        · subst hj
          have hl := (List.getElem?_eq_some_iff.mp hk).1
          rw [List.getElem?_set_self (by rw [List.length_map]; exact hl), List.getElem?_map, hk]; rfl
        · rw [List.getElem?_set_ne hj]
      rw [hm]; exact n
  | new hf =>
    refine ⟨N ++ M, [], ?_, ?_, ?_, by rw [List.length_append]; exact Nat.le_refl _⟩
    · exact List.perm_append_comm
    · rw [putF_no (by rw [holdF_names h]; exact hf)]; exact holdF_app (holdF_up e h) hy
    · rw [List.map_append]
      exact List.nodup_append.mpr ⟨n, List.nodup_cons.mpr ⟨fun z => (nomatch z), List.nodup_nil⟩, fun a ha b hb z => hf (by have := List.mem_singleton.mp hb; rw [show f = b from this.symm, ← z]; exact ha)⟩
end
/-! ### the object -/
def objO (C : Addr) (ds : Fds) (a : Addr) (M : Cells) (F : Hp) : Prop := ∃ dx fs N, M = (a, .ins C dx fs) :: (dx, .own a) :: N ∧ HoldF ds fs N F ∧ (ds.map (·.1)).Nodup
/-- looked at as a value -/
def objV (C : Addr) (ds : Fds) : VP := fun v F => ∃ a M, v = .ref a ∧ objO C ds a M F ∧ ∀ p ∈ M, F p.1 = some p.2
section
variable {F F1 F2 H : Hp} {M N L : Cells} {ds : Fds} {C a : Addr} {B : Addr → Hp → Prop}
theorem objO_up (e : Same F F1) (h : objO C ds a M F) : objO C ds a M F1 :=
  let ⟨dx, fs, N, h1, h2, h3⟩ := h
  ⟨dx, fs, N, h1, holdF_up e h2, h3⟩
instance : Mono (objV C ds) := ⟨fun _ _ _ e ⟨a, M, h, h1, h2⟩ => ⟨a, M, h, objO_up e h1, fun p hp => e _ _ (h2 p hp)⟩⟩
end
end Tw

/-! Pg1: objects that change: looked at, written, called. -/
namespace Tw
open PySem PySem.Spec PyProof.Rows L2 SlX StX Rs Ma Sn
variable [Rs.Tabz]
theorem set_id {α : Type} {xs : List α} {i : Nat} {x : α} (h : xs[i]? = some x) : xs.set i x = xs := by
  apply List.ext_getElem?
  intro j
  by_cases hj : i = j
  · subst hj; rw [List.getElem?_set_self (List.getElem?_eq_some_iff.mp h).1, h]
  · rw [List.getElem?_set_ne hj]
section
variable {F F1 F2 H : Hp} {M N L : Cells} {ds : Fds} {C a : Addr} {B : Addr → Hp → Prop}
end
section
variable {ε α β γ δ S S0 S1 : Type} {Z : Wsh ε} {ρ : List (Option VP)} {κ : List Ow} {K : PySem.W.Frag} {te ta : TE} {t : TA} {u : TS} {i : Nat} {C : Addr} {f m : Str} {ds : Fds} {B : Addr → Hp → Prop} {R : α → VP} {Rb : β → VP} {Rd : δ → VP} {mm : Wm ε α} {ml : Wm ε (List α)} {mg : Wm ε γ} {Rs : γ → List VP} {ρ2 : S → List (Option VP)} {κ2 : S → List Ow}
/-! ### looked at -/
/-! ### written -/
end
end Tw

/-! Pg2: objects that change: their methods' promises. -/
namespace Tw
open PySem PySem.Spec PyProof.Rows L2 SlX StX Rs Ma Sn
variable [Rs.Tabz]
section
variable {ε α β γ δ S S0 S1 : Type} {Z : Wsh ε} {ρ : List (Option VP)} {κ : List Ow} {K : PySem.W.Frag} {te ta : TE} {t : TA} {u : TS} {i : Nat} {C : Addr} {f m : Str} {ds : Fds} {B : Addr → Hp → Prop} {R : α → VP} {Rb : β → VP} {Rd : δ → VP} {mm : Wm ε α} {ml : Wm ε (List α)} {mg : Wm ε γ} {Rs : γ → List VP} {ρ2 : S → List (Option VP)} {κ2 : S → List Ow}
end
section
variable {P : Program} {w : World} {K : PySem.W.Frag} {mg : Str → Option Value} {base : Heap} {γ δ S S0 S1 : Type} {C : Addr} {D0 : S0 → Fds} {D1 : S1 → Fds}
end
end Tw

/-! Pg3: methods and properties of classes without slots. -/
namespace Tw
open PySem PySem.Spec PyProof.Rows L2 SlX StX Rs Ma Sn
variable [Rs.Tabz]
section
variable {X : Cx} {e o : Expr} {es : List Expr} {t : TA} {ta : TE} {pos apos : Pos} {f m : Str}
end
section
variable {ε α β γ δ S : Type} {Z : Wsh ε} {ρ : List (Option VP)} {κ : List Ow} {K : PySem.W.Frag} {te ta tb : TE} {C : Addr} {ds : Fds} {R : α → VP} {Ra : α → VP} {Rb : β → VP} {Rd : δ → VP} {ma : Wm ε α} {mb : Wm ε β}
/-- a pair of what may be cut -/
instance {Ra : α → VP} {Rb : β → VP} [Cut Ra] [Cut Rb] : Cut (fP K Ra Rb) := ⟨fun p v F a o h1 h2 h3 ⟨b, vs, ev, hs, hr⟩ => by
  obtain ⟨x, y, rfl, r1, r2⟩ := each2 hr
  exact ⟨b, [x, y], ev, sqT_cut h1 h2 h3 hs, Cut.cut p.1 x F a o h1 h2 h3 r1, Cut.cut p.2 y F a o h1 h2 h3 r2, True.intro⟩⟩
end
end Tw

/-! Pe5: d.setdefault(k, e) of a dict by nested keys of one's own, within an append; keys that are triples. -/
namespace Sn
open PySem PySem.Spec PyProof.Rows L2 PySem.W
variable [Rs.Tabz]
end Sn
namespace Tw
open PySem PySem.Spec PyProof.Rows L2 SlX StX Rs Ma Sn
variable [Rs.Tabz]
instance {α β γ : Type} {d : α → PyData} {e : β → PyData} {f : γ → PyData} : TupD (dP3 d e f) := ⟨fun a => ⟨_, rfl⟩⟩
instance keydP3 {α β γ : Type} {d : α → PyData} {e : β → PyData} {f : γ → PyData} {n m l : Nat} [c : Keyd d n] [c2 : Keyd e m] [c3 : Keyd f l] : Keyd (dP3 d e f) (n + m + l + 1) := ⟨fun p => .tup [c.key p.1, c2.key p.2.1, c3.key p.2.2], fun p => by
  simp only [NestedKey.data, NestedKey.datas, c.ok, c2.ok, c3.ok]
  rfl, fun p => by simp only [calm, calmAll, c.quiet, c2.quiet, c3.quiet]; rfl, fun p => by
  have h1 := c.dep p.1
  have h2 := c2.dep p.2.1
  have h3 := c3.dep p.2.2
  simp only [NestedKey.depth, NestedKey.depthAll]
  omega, fun a b h => by
  obtain ⟨a1, a2, a3⟩ := a
  obtain ⟨b1, b2, b3⟩ := b
  injection h with h
  injection h with h1 h2
  injection h2 with h2 h3
  injection h3 with h3 _
  rw [c.inj a1 b1 h1, c2.inj a2 b2 h2, c3.inj a3 b3 h3]⟩
section
variable {ε α β δ S : Type} [DecidableEq α] {Z : Wsh ε} {ρ : List (Option VP)} {κ : List Ow} {K : PySem.W.Frag} {P : Program} {w : World} {d : α → PyData} {n : Nat} [c : Keyd d n] [t : TupD d] {R : β → VP} {Rd : δ → VP} {u : TS} {i j : Nat} {kvs : List (α × β)} {ρ2 : S → List (Option VP)} {κ2 : S → List Ow} {ta : TA} {ma : Wm ε (α × β)}
end
end Tw

/-! Pf1: what a run is. -/
namespace Wb
open PySem PySem.Spec PyProof.Rows L2 SlX StX Rs Ma Sn Tw
variable [Rs.Tabz]
/-! what they do -/
end Wb

/-! Pe6: name = {k: v for ..}, the name a local. -/
namespace Sn
open PySem PySem.Spec PyProof.Rows L2 PySem.W
section
variable {X : Cx}
end
end Sn

/-! Qh5: zip of two lists. -/
namespace Tw
open PySem PySem.Spec PyProof.Rows L2 SlX StX Rs Ma
variable [Rs.Tabz]
section
variable {ε α β : Type} {Z : Wsh ε} {ρ : List (Option VP)} {κ : List Ow} {K : PySem.W.Frag} {ta tb : TE} {R : α → VP} {Rb : β → VP}
end
end Tw

/-! Pg4: own len, str, bool of classes without slots. -/
namespace Sn
open PySem PySem.Spec PySem.Calls PyProof.Rows PySem.W
section
variable {prog : Program} {w : World} {A : Around} {E : Value → Shared → Prop} {s : Shared} {K : Frag} {x C f : Addr} {ox : Obj} {od : Option Obj}
end
end Sn
namespace Tw
open PySem PySem.Spec PyProof.Rows L2 SlX StX Rs Ma Sn
variable [Rs.Tabz]
section
variable {X : Cx} {CX : CXT} {C g : Addr} {n : Nat} {sp : Sp} {E : XK}
end
section
variable {X : Cx} {k j : Nat} {C : Addr} {sp : Sp} {e : Expr} {es : List Expr} {t : TA} {p pos : Pos}
end
section
variable {ε α β γ δ S : Type} {Z : Wsh ε} {ρ : List (Option VP)} {κ : List Ow} {K : PySem.W.Frag} {te ta tb : TE} {C : Addr}  {ma : Wm ε α} {D : α → Fds} {E : XK}
end
end Tw

/-! Ph0: expressions that change objects of one's own. -/
namespace Tw
open PySem PySem.Spec PyProof.Rows L2 SlX StX Rs Ma Sn
variable [Rs.Tabz]
/-- what a run with other cells behind it leaves -/
def RunX {α : Type} (Z : Wsh ε) (k : Hp → (α → Hp → Prop) → Prop) (F : Hp) (L : Cells) (R : α → Hp → Cells → Prop) (X : ε → Prop) : Prop :=
  ∀ F1 N H, Same F F1 → At F1 (L ++ N) H → WishOk Z F1 N X → ∀ Q : α → Hp → Prop, (∀ v F2 L2 H2, Same F1 F2 → At F2 (L2 ++ N) H2 → R v F2 L2 → Q v H2) → k H Q
section
variable {ε α β γ δ S S0 S1 S2 : Type}
variable {Z : Wsh ε} {ρ : List (Option VP)} {κ : List Ow} {K : PySem.W.Frag} {te ta tb : TE} {tt : TT} {t : TA} {t1 t2 u w' : TS} {i : Nat} {C : Addr} {f m : Str} {ds : Fds} {B : Addr → Hp → Prop} {R Ra : α → VP} {Rb : β → VP} {Rc : γ → VP} {Rd : δ → VP} {mg : Wm ε γ} {Rs : γ → List VP} {κs : S → List Ow} {ρ2 : S2 → List (Option VP)} {κ2 : S2 → List Ow}
end
end Tw

/-! Ph1: things of one's own in any order; several names given at once, some of them things of one's own. -/
namespace Tw
open PySem PySem.Spec PyProof.Rows L2 SlX StX Rs Ma Sn
variable [Rs.Tabz]
section
variable {κ κ' : List Ow} {σ : L2.St} {F : Hp}
end
section
variable {ε α β γ δ S S0 S1 S2 : Type} {Z : Wsh ε} {ρ : List (Option VP)} {κ κ' : List Ow} {K : PySem.W.Frag} {te ta tb : TE} {t : TA} {u : TS} {i j l : Nat} {C : Addr} {R Ra : α → VP} {Rb : β → VP} {Rd : δ → VP} {ma : Wm ε α} {mg : Wm ε γ} {ρ2 : S2 → List (Option VP)} {κ2 : S2 → List Ow}
/-! ### several names at once -/
inductive ItC where
  | v (R : VP)
  | o (p : Addr → HO → Hp → Prop)
  | m (P : Addr → Cells → Hp → Prop)
section
variable {F F1 : Hp} {M L N : Cells} {k : ItC} {x : V} {σ : L2.St}
end
section
variable {Is : γ → List ItC} {mk : γ → Ws ε S2 δ} {ρ' : γ → List (Option VP)} {κ' : γ → List Ow}
end
end
end Tw

/-! Ri0: keyword calls of methods that change objects; lists of what changes objects; l[::-1]; slices as lists of one's own; own str of classes without slots. -/
namespace Rs
open PySem PySem.Spec PyProof.Rows L2
end Rs
namespace Tw
open PySem PySem.Spec PyProof.Rows L2 SlX StX Rs Ma Sn
variable [Rs.Tabz]
/-! ### o.m(k = v, ..) -/
section
variable {X : Cx} {o : Expr} {kws : List Keyword} {ta : TE} {tk : TA} {pos apos : Pos} {m : Str} {ks : List Str}
end
/-! ### str of a class without slots -/
section
variable {ε α : Type} {Z : Wsh ε} {ρ : List (Option VP)} {κ : List Ow} {K : PySem.W.Frag} {ta : TE} {C : Addr} {ma : Wm ε α} {D : α → Fds} {E : XK}
end
/-! ### lists: turned round, cut, of one's own -/
section
variable {ε α β : Type} {Z : Wsh ε} {ρ : List (Option VP)} {κ : List Ow} {K : PySem.W.Frag} {te : TE} {R : α → VP} {ml : Wm ε (List α)}
end
/-! ### expressions that change an object: lists, tests -/
section
variable {ε α β γ δ S S0 : Type} {Z : Wsh ε} {ρ : List (Option VP)} {κ : List Ow} {K : PySem.W.Frag} {te : TE} {tt tu : TT} {t : TA} {i : Nat} {C : Addr} {m : Str} {ds : Fds} {B : Addr → Hp → Prop} {R : α → VP} {Rb : β → VP} {mg : Wm ε γ} {Rs : γ → List VP} {κs : S → List Ow}
end
end Tw

/-! Ri1: dict displays with several keys; two places of a dict by nested keys at once. -/
namespace Sn
open PySem PySem.Spec PyProof.Rows L2 PySem.W
variable [Rs.Tabz]
def storeN (acc es : List Ent) : List Ent := es.foldl (fun acc z => putN acc z.1 z.2.1 z.2.2) acc
/-- {k: v, ..}, the keys tuples -/
def tDispN (K : PySem.W.Frag) (P : Program) (w : World) (trs : List (TE × TE)) : TE := fun σ H Q => ∀ p, H p = none → tPairs trs σ (upd H p (dictN P w [] p)) fun ps H2 => H2 p = some (dictN P w [] p) ∧
  ∃ es : List Ent, ps = es.map (fun z => (V.ref z.2.1, z.2.2)) ∧ es.length ≤ 15 ∧ (∀ z ∈ es, KeyAt K H2 z.1 z.2.1) ∧ Q (.ref p) (upd H2 p (dictN P w (storeN [] es) p))
/-- x[k] = v as a target -/
def rSetN (K : PySem.W.Frag) (P : Program) (w : World) : TSet := fun o i v H Q => ∃ d a zs k, o = .ref d ∧ i = .ref a ∧ H d = some (dictN P w zs d) ∧ (∀ z ∈ zs, KeyAt K H z.1 z.2.1) ∧ KeyAt K H k a ∧ zs.length < 100000 ∧ Q (upd H d (dictN P w (putN zs k a v) d))
section
variable {X : Cx}
theorem set_dictN (K : PySem.W.Frag) (P : Program) (w : World) (hu : X.A.units + 64 < cLine) (hK : X.K = K := by rfl) (hP : X.prog = P := by rfl) (hw : X.w = w := by rfl) : PSet X (rSetN K P w) := by
  subst hK hP hw
  intro pins s σ H o i v ov iv u Q I ro ri rv ⟨d, a, zs, k, eo, ei, hD, hz, hk, hl, q⟩
  subst eo ei
  cases (show ov = Value.ref d from ro)
  cases (show iv = Value.ref a from ri)
  exact dsetI hu I hD hz hk rv hl fun s' I' => ⟨_, I', q⟩
theorem carriesN {pins : List (Addr × Obj)} {σ : L2.St} {H : Hp} {s : Shared} (I : Inv X pins σ H s) : ∀ {es : List Ent} {ws : List (Value × Value)}, VV (es.map fun z => (V.ref z.2.1, z.2.2)) ws → (∀ z ∈ es, KeyAt X.K H z.1 z.2.1) →
    ∃ ps, CarriesH (nestedKind X.prog X.w) s.heap ws ps ∧ Paired EntR es ps
  | [], _, r, _ => by rw [List.map_nil] at r; cases r; exact ⟨[], True.intro, .nil⟩
  | z :: es, _, r, h => by
    rw [List.map_cons] at r
    cases r with
    | @cons a b as bs h1 t =>
      obtain ⟨rs, c, q⟩ := carriesN I t fun z hz => h z (List.mem_cons_of_mem _ hz)
      obtain ⟨b1, b2⟩ := b
      exact ⟨(z.1, z.2.1, b2) :: rs, ⟨h1.1, rfl, key_at I (h z List.mem_cons_self), c⟩, .cons ⟨rfl, rfl, h1.2⟩ q⟩
theorem storeN_rel : ∀ {es : List Ent} {ps : List (NestedKey × Addr × Value)}, Paired EntR es ps → ∀ {zs : List Ent} {ys : List (NestedKey × Addr × Value)}, Paired EntR zs ys → Paired EntR (storeN zs es) (storedAllH ys ps)
  | _, _, .nil, _, _, h => h
  | _, _, .cons (a := z) (b := y) r t, zs, ys, h => by
    obtain ⟨e1, e2, e3⟩ := r
    have : Paired EntR (putN zs z.1 z.2.1 z.2.2) (storedH ys y.1 y.2.1 y.2.2) := by rw [← e1, ← e2]; exact put_rel h e3
    exact storeN_rel t this
theorem storeN_len : ∀ {es zs : List Ent}, (storeN zs es).length ≤ zs.length + es.length
  | [], _ => Nat.le_refl _
  | z :: es, zs => by
    have h1 := storeN_len (es := es) (zs := putN zs z.1 z.2.1 z.2.2)
    have h2 := putN_len (k := z.1) (a := z.2.1) (v := z.2.2) (zs := zs)
    rw [List.length_cons]
    show (storeN (putN zs z.1 z.2.1 z.2.2) es).length ≤ _
    omega
theorem pe_dispN {pos : Pos} {keys : List (Option Expr)} {values : List Expr} {trs : List (TE × TE)} (K : PySem.W.Frag) (P : Program) (w : World) (hu : X.A.units + 64 < cLine) (h : PPs X pos keys values trs) (hall : keys.all (·.isSome) = true) (hl : keys.length = values.length) (h0 : keys ≠ [])
    (h15 : keys.length ≤ 15) (hK : X.K = K := by rfl) (hP : X.prog = P := by rfl) (hw : X.w = w := by rfl) : PE X (.Dict keys values pos) (tDispN K P w trs) := by
  subst hK hP hw
  refine ⟨fun pins s σ H Q I q => ?_⟩
  have hn := I.hok.fresh (Nat.le_refl s.heap.objs.size)
  have I1 := I.laid (a := s.heap.objs.size) (o := dictN X.prog X.w [] s.heap.objs.size) (h' := s.heap.push { cls := .type "dict", data := .dict #[] }) (t' := s.toks) (fun _ _ q => Heap.get?_push_of_some _ q) (Nat.le_refl _) (dictN_new (d0_new I.big))
  have hln := pairTrees_length keys values X.env pos hall hl
  have hp0 : pairTrees keys values X.env pos ≠ [] := fun he => by
    rw [he] at hln
    exact h0 (List.length_eq_zero_iff.mp hln.symm)
  rw [arm_eval_Dict, zip_pairTrees keys values X.env pos hall hl, dictDisplay_pairs _ hp0 (by omega)]
  refine wpAny_bind (wpAny_standAt (wpAny_bind (wpAny_subDictH (knd := nestedKind X.prog X.w) (Q := fun d s' => wpAny (model X.prog X.w) X.A (pure (Value.ref d)) (EP X pins σ Q) X.xe s') (show X.A.units + 8 < cLine by omega) (by omega) ?_)))
  refine thn (h.run pins _ σ _ _ I1 (q _ hn)) fun ws s2 ⟨ps, H2, I2, rel, e, es, ep, lk, hz, q2⟩ => ?_
  subst ep
  obtain ⟨rs, c, rk⟩ := carriesN I2 rel hz
  obtain ⟨q0, _, ys, r0, dd⟩ := dict_at (zs := []) I2 (.inl e) (fun z hz => nomatch hz)
  cases r0
  refine ⟨rs, c, dd, fun h' tk dd' hs => wpAny_pure ⟨.ref s.heap.objs.size, _, ?_, rfl, q2⟩⟩
  have hsz : (storeN [] es).length ≤ 100000 := by
    have := storeN_len (es := es) (zs := [])
    rw [List.length_nil] at this; omega
  obtain ⟨o, es', ep, g1, g2, g3, g4, _, g6⟩ := dd'
  exact d_write I2 (by rw [e]; exact True.intro) hs ⟨o, g1⟩ (dictN_new ⟨q0, hsz, _, storeN_rel rk .nil, o, es', ep, g1, g2, g3, g4, g6⟩)
end
end Sn
namespace Tw
open PySem PySem.Spec PyProof.Rows L2 SlX StX Rs Ma Sn
variable [Rs.Tabz]
/-- the pairs of a display -/
def EachP {α β : Type} (Rk : α → VP) (R : β → VP) : List (α × β) → List (V × V) → Hp → Prop
  | [], [], _ => True
  | x :: xs, p :: ps, F => (Rk x.1 p.1 F ∧ R x.2 p.2 F) ∧ EachP Rk R xs ps F
  | _, _, _ => False
section
variable {ε α β δ S : Type} {Z : Wsh ε} {ρ : List (Option VP)} {κ : List Ow} {K : PySem.W.Frag} {P : Program} {w : World} {tk tv ta tb tx ty : TE} {trs : List (TE × TE)} {u : TS} {i : Nat} {Rk : α → VP} {R : β → VP} {Rd : δ → VP} {mk : Wm ε α} {mv : Wm ε β} {ρ2 : S → List (Option VP)} {κ2 : S → List Ow}
structure TrPs (Z : Wsh ε) (ρ : List (Option VP)) (κ : List Ow) (trs : List (TE × TE)) (m : Wm ε (List (α × β))) (Rk : α → VP) (R : β → VP) : Prop where
  run : ∀ σ F L, SatV ρ σ F → SatC κ σ F L → ∀ Q X, m Q X → ∀ F1 N H, Same F F1 → At F1 (L ++ N) H → WishOk Z F1 N X → ∀ Qk : List (V × V) → Hp → Prop, (∀ ps F2 H2, Same F1 F2 → At F2 (L ++ N) H2 → (∃ xs, Q xs ∧ EachP Rk R xs ps F2) → Qk ps H2) → tPairs trs σ H Qk
theorem tps_nil : TrPs (Z := Z) (ρ := ρ) (κ := κ) [] (pur ([] : List (α × β))) Rk R :=
  ⟨fun σ F L sv sc Q X q F1 N H e A wsh Qk qk => qk [] F1 H (Same.refl _) A ⟨[], q, True.intro⟩⟩
theorem tps_cons [∀ a, Mono (Rk a)] [∀ b, Mono (R b)] {mr : Wm ε (List (α × β))} (hk : TrE Z ρ κ tk mk Rk) (hv : TrE Z ρ κ tv mv R) (hr : TrPs Z ρ κ trs mr Rk R) : TrPs Z ρ κ ((tk, tv) :: trs) (fun Q X => mk (fun a => mv (fun b => mr (fun xs => Q ((a, b) :: xs)) X) X) X) Rk R :=
  ⟨fun σ F L sv sc Q X q F1 N H e A wsh Qk qk => hk.run σ F L sv sc _ X q F1 N H e A wsh _ fun x F2 H2 e2 A2 ⟨a, q1, hx⟩ =>
    hv.run σ F2 L (satV_up (e.trans e2) sv) (satC_up (e.trans e2) sc) _ X q1 F2 N H2 (Same.refl _) A2 (wsh.up e2) _ fun y F3 H3 e3 A3 ⟨b, q2, hy⟩ =>
      hr.run σ F3 L (satV_up (e.trans (e2.trans e3)) sv) (satC_up (e.trans (e2.trans e3)) sc) _ X q2 F3 N H3 (Same.refl _) A3 (wsh.up (e2.trans e3)) _ fun ps F4 H4 e4 A4 ⟨xs, q3, hxs⟩ =>
        qk ((x, y) :: ps) F4 H4 ((e2.trans e3).trans e4) A4 ⟨(a, b) :: xs, q3, ⟨Mono.mono _ _ _ (e3.trans e4) hx, Mono.mono _ _ _ e4 hy⟩, hxs⟩⟩
theorem eachP_len {F : Hp} : ∀ {xs : List (α × β)} {ps : List (V × V)}, EachP Rk R xs ps F → ps.length = xs.length
  | [], [], _ => rfl
  | x :: xs, p :: ps, h => by rw [List.length_cons, List.length_cons, eachP_len h.2]
  | [], _ :: _, h => h.elim
  | _ :: _, [], h => h.elim
variable [DecidableEq α] {d : α → PyData}
theorem eachP_num [c : NumK d] {F : Hp} : ∀ {xs : List (α × β)} {ps : List (V × V)}, EachP (fD K d) R xs ps F → ∃ kvs : List (Key × V), ps = kvs.map (fun kv => (kV kv.1, kv.2)) ∧ RelD d R kvs xs F
  | [], [], _ => ⟨[], rfl, True.intro⟩
  | x :: xs, p :: ps, ⟨⟨h1, h2⟩, h3⟩ => by
    obtain ⟨kvs, e, r⟩ := eachP_num h3
    have e1 := c.val h1
    refine ⟨(c.key x.1, p.2) :: kvs, ?_, ⟨rfl, h2⟩, r⟩
    rw [List.map_cons, ← e]
    exact congrArg (· :: ps) (Prod.ext e1 rfl)
  | [], _ :: _, h => h.elim
  | _ :: _, [], h => h.elim
/-- {k: v, ..} by numbers -/
theorem tm_dispI [c : NumK d] [∀ b, Mono (R b)] {m : Wm ε (List (α × β))} (h : TrPs Z ρ κ trs m (fD K d) R) : TrM Z ρ κ (tDisp trs) (fun Q X => m (fun xs => xs.length ≤ 15 ∧ Q (putsA [] xs)) X) (ownDI d R) :=
  ⟨fun σ F L s cc Q X q F1 N H e A wsh Qk qk p hp => by
    have A1 : At F1 (L ++ ((p, .dK []) :: N)) (upd H p (.dK [])) := (A.cell (o := .dK []) hp).perm List.perm_middle.symm
    refine h.run σ F L s cc _ X q F1 _ _ e A1 wsh.push1 _ fun ps F2 H2 e2 A2 ⟨xs, ⟨hl, q1⟩, hx⟩ => ?_
    have A4 : At F2 ((p, .dK []) :: (L ++ N)) H2 := A2.perm List.perm_middle
    have hps := eachP_len hx
    obtain ⟨kvs, rfl, r⟩ := eachP_num hx
    rw [List.length_map] at hps
    refine ⟨A4.on1, kvs, rfl, by omega, ?_⟩
    obtain ⟨g1, g2⟩ := relD_merge (zs := []) (ps := []) r True.intro List.nodup_nil
    exact qk p _ F2 _ (putsA [] xs) e2 (At.put A4) (fun F' e' => ⟨_, rfl, relD_up e' g1, g2⟩) q1⟩
section
variable {n : Nat} [c : Keyd d n] [t : TupD d]
theorem eachP_key {F : Hp} (hn : n ≤ 8) : ∀ {xs : List (α × β)} {ps : List (V × V)}, EachP (fD K d) R xs ps F → ∃ es : List Ent, ps = es.map (fun z => (V.ref z.2.1, z.2.2)) ∧ EntAll K d R es xs F
  | [], [], _ => ⟨[], rfl, True.intro⟩
  | x :: xs, p :: ps, ⟨⟨h1, h2⟩, h3⟩ => by
    obtain ⟨es, e, r⟩ := eachP_key hn h3
    obtain ⟨kb, e1, hk⟩ := key_of (F1 := F) (L := []) hn h1 (Same.refl F)
    refine ⟨(c.key x.1, kb, p.2) :: es, ?_, ⟨rfl, hk, h2⟩, r⟩
    rw [List.map_cons, ← e]
    exact congrArg (· :: ps) (Prod.ext e1 rfl)
  | [], _ :: _, h => h.elim
  | _ :: _, [], h => h.elim
theorem entAll_store {F : Hp} : ∀ {es : List Ent} {xs : List (α × β)} {zs : List Ent} {ps : List (α × β)}, EntAll K d R es xs F → EntAll K d R zs ps F → (ps.map (·.1)).Nodup → EntAll K d R (storeN zs es) (putsA ps xs) F ∧ ((putsA ps xs).map (·.1)).Nodup
  | [], [], _, _, _, h, n => ⟨h, n⟩
  | z :: es, x :: xs, zs, ps, ⟨⟨h1, h2, h3⟩, h4⟩, h, n => by
    rw [h1] at h2
    have := entAll_store (zs := putN zs (c.key x.1) z.2.1 z.2.2) (ps := putA ps x.1 x.2) h4 (entAll_put h2 h3 h n) (putA_nodup n).1
    rw [← h1] at this
    exact this
  | [], _ :: _, _, _, h, _, _ => h.elim
  | _ :: _, [], _, _, h, _, _ => h.elim
/-- {k: v, ..} by tuples -/
theorem tm_dispP (hn : n ≤ 8 := by decide) [∀ b, Mono (R b)] {m : Wm ε (List (α × β))} (h : TrPs Z ρ κ trs m (fD K d) R) : TrM Z ρ κ (tDispN K P w trs) (fun Q X => m (fun xs => xs.length ≤ 15 ∧ Q (putsA [] xs)) X) (ownDP K P w d R) :=
  ⟨fun σ F L s cc Q X q F1 N H e A wsh Qk qk p hp => by
    have A1 : At F1 (L ++ ((p, dictN P w [] p) :: N)) (upd H p (dictN P w [] p)) := (A.cell (o := dictN P w [] p) hp dictN_notTup dictN_notTbl dictN_ne).perm List.perm_middle.symm
    refine h.run σ F L s cc _ X q F1 _ _ e A1 wsh.push1 _ fun ps F2 H2 e2 A2 ⟨xs, ⟨hl, q1⟩, hx⟩ => ?_
    have A4 : At F2 ((p, dictN P w [] p) :: (L ++ N)) H2 := A2.perm List.perm_middle
    have hps := eachP_len hx
    obtain ⟨es, rfl, r⟩ := eachP_key hn hx
    rw [List.length_map] at hps
    refine ⟨A4.on1, es, rfl, by omega, fun z hz => keyAt_up A4.ex (entAll_keys r z hz), ?_⟩
    obtain ⟨g1, g2⟩ := entAll_store (zs := []) (ps := []) r True.intro List.nodup_nil
    exact qk p _ F2 _ (putsA [] xs) e2 (At.put A4 dictN_notTup dictN_notTbl dictN_ne) (fun F' e' => ⟨_, rfl, entAll_up e' g1, g2⟩) q1⟩
/-- x[a], x[b] = y, z -/
theorem ts_putP2 {kvs : List (α × β)} {ma mb : Wm ε β} {mx my : Wm ε α} {m : β → β → α → α → Ws ε S δ} (hn : n ≤ 8 := by decide) [∀ b, Mono (R b)] (ha : TrE Z ρ (.one i (ownDP K P w d R kvs) :: κ) ta ma R) (hb : TrE Z ρ (.one i (ownDP K P w d R kvs) :: κ) tb mb R)
    (hx : TrE Z ρ (.one i (ownDP K P w d R kvs) :: κ) tx mx (fD K d)) (hy : ∀ a x, TrE Z ρ (.one i (ownDP K P w d R (putA kvs x a)) :: κ) ty my (fD K d)) (k : ∀ a b x y, TrS Z ρ (.one i (ownDP K P w d R (putA (putA kvs x a) y b)) :: κ) u (m a b x y) ρ2 κ2 Rd) :
    TrS Z ρ (.one i (ownDP K P w d R kvs) :: κ) (tSeq (tAsg (tTup (tCons ta (tCons tb tNil))) (gTup K 2 (gCons (gSub (tVar i) tx (rSetN K P w)) (gCons (gSub (tVar i) ty (rSetN K P w)) gNil)))) u)
      (fun Nx Rt X => kvs.length < 90000 ∧ ma (fun a => mb (fun b => mx (fun x => my (fun y => m a b x y Nx Rt X) X) X) X) X) ρ2 κ2 Rd :=
  ⟨fun σ F L sv sc Nx Rt X ⟨hz, q⟩ F1 N H e A wsh D nx rt => by
    obtain ⟨a, o, L', hL, h1, h2, h3⟩ := sc
    obtain ⟨zs, ho, hr, hnd⟩ := h2 F (Same.refl _)
    subst hL ho
    have hl := entAll_len hr
    refine ha.run σ F ((a, dictN P w zs a) :: L') sv ⟨a, _, L', rfl, h1, h2, h3⟩ _ X q F1 N H e A wsh _ fun v F2 H2 e2 A2 ⟨b1, q1, hb1⟩ => ?_
    have e12 := e.trans e2
    refine hb.run σ F2 ((a, dictN P w zs a) :: L') (satV_up e12 sv) ⟨a, _, L', rfl, h1, fun F' e' => h2 F' (e12.trans e'), satC_up e12 h3⟩ _ X q1 F2 N H2 (Same.refl _) A2 (wsh.up e2) _ fun v2 F3 H3 e3 A3 ⟨b2, q2, hb2⟩ => ?_
    have e13 := e12.trans e3
    refine ⟨len_ok (show 2 ≤ 100000 by decide), fun p hp => ?_⟩
    have s4 := same_new (o := HO.tup [v, v2]) (A3.free hp)
    have A4 : At (upd F3 p (.tup [v, v2])) _ _ := A3.new hp
    have e14 := e13.trans s4
    refine ⟨p, [v, v2], rfl, .inl (.inl (A4.ex _ _ upd_same)), rfl, v, [v2], rfl, .ref a, h1, ?_⟩
    refine hx.run σ (upd F3 p (.tup [v, v2])) ((a, dictN P w zs a) :: L') (satV_up e14 sv) ⟨a, _, L', rfl, h1, fun F' e' => h2 F' (e14.trans e'), satC_up e14 h3⟩ _ X q2 _ N _ (Same.refl _) A4 (wsh.up (e2.trans (e3.trans s4))) _ fun y F5 H5 e5 A5 ⟨x, q3, hxk⟩ => ?_
    have e15 := e14.trans e5
    obtain ⟨kb, rfl, hkk⟩ := key_of (F1 := F5) (L := L') hn hxk (Same.refl F5)
    refine ⟨a, kb, zs, c.key x, rfl, rfl, A5.on1, fun z hz' => keyAt_up (e15.trans A5.ex) (entAll_keys hr z hz'), keyAt_up A5.ex hkk, by omega, v2, [], rfl, .ref a, h1, ?_⟩
    have hr5 := entAll_put (a := x) (x := kb) (v := v) hkk (Mono.mono _ _ _ ((e3.trans s4).trans e5) hb1) (entAll_up e15 hr) hnd
    have n5 := (putA_nodup (a := x) (b := b1) hnd).1
    have A5' := At.put (u := dictN P w (putN zs (c.key x) kb v) a) A5 dictN_notTup dictN_notTbl dictN_ne
    refine (hy b1 x).run σ F5 ((a, dictN P w (putN zs (c.key x) kb v) a) :: L') (satV_up e15 sv) ⟨a, _, L', rfl, h1, fun F' e' => ⟨_, rfl, entAll_up e' hr5, n5⟩, satC_up e15 h3⟩ _ X q3 F5 N _ (Same.refl _) A5' (wsh.up ((e2.trans (e3.trans s4)).trans e5)) _ fun y2 F6 H6 e6 A6 ⟨x2, q4, hy2⟩ => ?_
    have e16 := e15.trans e6
    obtain ⟨kb2, rfl, hkk2⟩ := key_of (F1 := F6) (L := L') hn hy2 (Same.refl F6)
    have hr6 := entAll_put (a := x2) (x := kb2) (v := v2) hkk2 (Mono.mono _ _ _ ((s4.trans e5).trans e6) hb2) (entAll_up e6 hr5) n5
    have hl5 := putN_len (k := c.key x) (a := kb) (v := v) (zs := zs)
    refine ⟨a, kb2, putN zs (c.key x) kb v, c.key x2, rfl, rfl, A6.on1, fun z hz' => keyAt_up (e6.trans A6.ex) (entAll_keys hr5 z hz'), keyAt_up A6.ex hkk2, by omega, rfl, ?_⟩
    exact (k b1 b2 x x2).run σ F6 ((a, dictN P w (putN (putN zs (c.key x) kb v) (c.key x2) kb2 v2) a) :: L') (satV_up e16 sv) ⟨a, _, L', rfl, h1, fun F' e' => ⟨_, rfl, entAll_up e' hr6, (putA_nodup n5).1⟩, satC_up e16 h3⟩ Nx Rt X q4 F6 N _ (Same.refl _) (At.put A6 dictN_notTup dictN_notTbl dictN_ne) (wsh.up (((e2.trans (e3.trans s4)).trans e5).trans e6)) D
      (fun σ4 F7 L4 H7 e7 A7 n => nx σ4 F7 L4 H7 ((((e2.trans (e3.trans s4)).trans e5).trans e6).trans e7) A7 n) fun v F7 H7 e7 A7 n => rt v F7 H7 ((((e2.trans (e3.trans s4)).trans e5).trans e6).trans e7) A7 n⟩
end
end
end Tw

/-! Ri2: the head's facts on methods with a keyword-only parameter. -/
namespace Tw
open PySem PySem.Spec PyProof.Rows L2 SlX StX Rs Ma
variable [Rs.Tabz]
end Tw

/-! Ri3: a value is given a name: the goals behind it hold no copy of it. -/
namespace Tw
open PySem PySem.Spec PyProof.Rows L2 SlX StX Rs Ma
variable [Rs.Tabz]
variable {ε : Type} {α S : Type} {Z : Wsh ε} {ρ : List (Option VP)} {κ : List Ow} {te : TE} {R : α → VP}
end Tw

/-! Rj0: methods that change objects and may raise; such calls in a lambda handed to a def that tells errors by words. -/
namespace Tw
open PySem PySem.Spec PyProof.Rows L2 SlX StX Rs Ma Sn LmR
variable [Rs.Tabz]
section
variable {X : Cx} {e o : Expr} {es : List Expr} {t : TA} {ta : TE} {pos apos : Pos} {f m : Str} {E : XK}
end
section
variable {α β γ δ S S0 S1 : Type} {ρ : List (Option VP)} {κ κ' : List Ow} {K : PySem.W.Frag} {Y : Wx} {t : TA} {te : TE} {mg : Wm Ex γ} {Rs : γ → List VP} {Rb : β → VP} {Rd : δ → VP} {R : α → VP} {W : WX} {n i : Nat} {ρ2 : S → List (Option VP)} {κ2 : S → List Ow} {C : Addr} {m : Str} {ds : Fds} {B : Addr → Hp → Prop}
end
end Tw

/-! Rj1: heads: methods that may raise; a def with an object among its arguments; a method that gives a new object. -/
namespace Tw
open PySem PySem.Spec PyProof.Rows L2 SlX StX Rs Ma Sn LmR
variable [Rs.Tabz]
section
variable {P : Program} {w : World} {K : PySem.W.Frag} {mg : Str → Option Value} {base : Heap} {α γ δ S S0 S1 S2 : Type} {C : Addr} {D0 : S0 → Fds} {D1 : S1 → Fds} {Y : Wx}
/-! ### a def with an object as its second argument -/
section
variable {ε β : Type} {Z : Wsh ε} {ρ : List (Option VP)} {κ : List Ow} {t0 : TE} {t : TA} {ml : Wm ε α} {mr : Wm ε γ} {R0 : α → VP} {Rs : γ → List VP} {Rb : β → VP} {i : Nat} {B : Addr → Hp → Prop} {ds : Fds}
end
end
end Tw

/-! Rj2: calls by keyword and by default of methods that may raise; a choice between two expressions that change an object; a method that gives a new object. -/
namespace Tw
open PySem PySem.Spec PyProof.Rows L2 SlX StX Rs Ma Sn LmR
variable [Rs.Tabz]
section
variable {X : Cx} {o : Expr} {kws : List Keyword} {ta : TE} {tk : TA} {pos apos : Pos} {m : Str} {ks : List Str} {E : XK} {dv : V}
end
section
variable {ε α β γ δ S S0 S1 S2 : Type} {ρ : List (Option VP)} {κ : List Ow} {K : PySem.W.Frag} {Y : Wx} {t : TA} {te ta tb : TE} {tt : TT} {mg : Wm Ex γ} {Rs : γ → List VP} {Rb : β → VP} {n i : Nat} {C : Addr} {m : Str} {ds : Fds} {B : Addr → Hp → Prop}
variable {Z : Wsh ε} {κs : S → List Ow} {R : α → VP} {mm : Wm ε Bool} {m1 m2 : Wm ε (S × α)}
end
end Tw

/-! Rj3: a method that gives a new object. -/
namespace Tw
open PySem PySem.Spec PyProof.Rows L2 SlX StX Rs Ma Sn LmR
variable [Rs.Tabz]
section
variable {ε α β γ δ S S0 S1 S2 : Type} {Z : Wsh ε} {ρ : List (Option VP)} {κ : List Ow} {t : TA} {u : TS} {i j : Nat} {C : Addr} {m : Str} {ds ds2 : Fds} {B : Addr → Hp → Prop} {Rd : δ → VP} {mg : Wm ε γ} {Rs : γ → List VP} {ρ2 : S → List (Option VP)} {κ2 : S → List Ow}
end
section
variable {P : Program} {w : World} {K : PySem.W.Frag} {mg : Str → Option Value} {base : Heap} {γ S S0 S1 S2 : Type} {C : Addr} {D0 : S0 → Fds} {D1 : S1 → Fds} {D2 : S2 → Fds}
end
end Tw

/-! Rj4: data that are known to be numbers; what a call in a lambda gives, as any data. -/
namespace Tw
open PySem PySem.Spec PyProof.Rows L2 SlX StX Rs Ma Sn LmR
variable [Rs.Tabz]
section
variable {ε α β δ S S2 : Type} {Z : Wsh ε} {ρ : List (Option VP)} {κ : List Ow} {K : PySem.W.Frag} {te : TE} {n i : Nat} {ds : Fds} {C : Addr} {Y : Wx} {d : β → PyData} {κs : S → List Ow} {ρ2 : S2 → List (Option VP)} {κ2 : S2 → List Ow} {R : α → VP} {R' : β → VP}
end
end Tw

/-! Rj5: == of an object and data; [e] + xs[1:] of a list of unlike items. -/
namespace Tw
open PySem PySem.Spec PyProof.Rows L2 SlX StX Rs Ma Sn
variable [Rs.Tabz]
def notNames : List String := ["NoneType", "bool", "int", "str", "list", "tuple", "dict"]
/-- no data are of the class C -/
structure NoD (K : PySem.W.Frag) (C : Addr) : Prop where
  kit : ∀ T ∈ notNames, PySem.W.kitOne K (.type T) (.ref C) = some false
  nf : ∀ T ∈ notNames, PySem.W.notFirst K C (.type T) = true
def noDB (K : PySem.W.Frag) (C : Addr) : Bool := (notNames.all fun T => decide (PySem.W.kitOne K (.type T) (.ref C) = some false)) && notNames.all fun T => PySem.W.notFirst K C (.type T)
theorem noDB_ok {K : PySem.W.Frag} {C : Addr} (h : noDB K C = true) : NoD K C := by
  unfold noDB at h
  rw [Bool.and_eq_true] at h
  exact ⟨fun T m => of_decide_eq_true (List.all_eq_true.mp h.1 T m), fun T m => List.all_eq_true.mp h.2 T m⟩
theorem nm_data (d : PyData) : tyName d ∈ notNames := by
  cases d <;> simp [tyName, notNames]
section
variable {X : Cx} {k j : Nat} {C : Addr} {sp : Sp}
end
section
variable {ε α β γ : Type} {Z : Wsh ε} {ρ : List (Option VP)} {κ : List Ow} {K : PySem.W.Frag} {C : Addr} {E : XK} {D : α → Fds} {d : β → PyData} {ta tb : TE} {ma : Wm ε Bool}
/-- data are no such object -/
theorem c_isiObjD (I : NoD K C) : Cb ε (fun xs H Q => rIsi K xs H Q ∨ rIsiSl K (.ref C) xs H Q) (fun p : β × Unit => [fD K d p.1, Eqv (.ref C)]) (fun _ => pur false) (fD K dB) := .of fun g vs F L hv Q X q1 => by
  obtain ⟨v, u, rfl, h1, h2⟩ := each2 hv
  cases h2
  exact ⟨false, q1, fun F2 N H e2 A Qk qk => .inl ⟨v, .ref C, _, .ref C, false, rfl, .own C, ty_dt (dp_up A.ex (Mono.mono (R := fD K d g.1) _ _ _ e2 h1)), I.kit _ (nm_data _), qk _ F2 H (Same.refl _) A (.bl false)⟩⟩
/-- a and .., where a is false -/
theorem tr_andF (ha : TrE Z ρ κ ta ma (fD K dB)) : TrE Z ρ κ (tAndV ta tb) (fun Q X => ma (fun a => a = false ∧ Q false) X) (fD K dB) :=
  ⟨inferInstance, fun σ F L s c Q X q => rw_bind (k := ta σ) (ha.run σ F L s c _ X q) fun x F1 e1 ⟨a, ⟨q0, q1⟩, hx⟩ => by
    cases hx
    subst q0
    intro F4 N H e4 A wsh Qk qk
    exact ⟨false, rfl, iteF (qk _ F4 H (Same.refl _) A ⟨false, q1, .bl false⟩)⟩⟩
variable {Rs Rt : γ → List VP} {Rh : γ → VP} {R0 : α → VP} {mg : Wm ε γ} {mh : Wm ε α} {te tq : TE} {tl th : TO}
end
end Tw

/-! Rj6: x.f.pop() of an object of one's own; comprehensions whose items change an object. -/
namespace Tw
open PySem PySem.Spec PyProof.Rows L2 SlX StX Rs Ma Sn
variable [Rs.Tabz]
section
variable {ε α β γ δ S S2 : Type} {Z : Wsh ε} {ρ : List (Option VP)} {κ : List Ow} {K : PySem.W.Frag} {te : TE} {t u : TS} {i : Nat} {C : Addr} {f : Str} {ds : Fds} {B : Addr → Hp → Prop} {R : α → VP} {Rd : δ → VP} {κs : S → List Ow} {wi : TI} {g : TG}
end
end Tw

/-! Rj7: a method with one keyword-only parameter that has a default; `and` of expressions that change an object, return of one; an object made within an expression; an object's address told. -/
namespace Tw
open PySem PySem.Spec PyProof.Rows L2 SlX StX Rs Ma Sn LmR
variable [Rs.Tabz]
section
variable {ε α β γ δ S S1 S2 : Type} {Z : Wsh ε} {ρ : List (Option VP)} {κ : List Ow} {K : PySem.W.Frag} {te ta tb : TE} {t : TA} {u : TS} {i : Nat} {C : Addr} {f : Str} {ds : Fds} {B : Addr → Hp → Prop} {R : α → VP} {Rd : δ → VP} {κs : S → List Ow} {mg : Wm ε γ} {Rs : γ → List VP} {ρ2 : S2 → List (Option VP)} {κ2 : S2 → List Ow}
end
/-! ### objects of other classes under == -/
end Tw

/-! Rj8: == of an object with a dict and one with slots, of another class. -/
namespace Tw
open PySem PySem.Spec PyProof.Rows L2 SlX StX Rs Ma Sn LmR
variable [Rs.Tabz]
section
variable {X : Cx} {k j : Nat} {C : Addr} {sp : Sp}
end
section
variable {ε α β : Type} {K : PySem.W.Frag} {C C' : Addr} {E : XK} {D : α → Fds} {Rb : β → VP} [∀ b, Mono (Rb b)]
end
end Tw

/-! Sr0: a def with one keyword-only parameter that has a default, called by f(e, k = v) or by f(e). -/
namespace Tw
open PySem PySem.Spec PyProof.Rows L2 SlX StX Rs Ma Sn
variable [Rs.Tabz]
section
variable {X : Cx} {f : Str} {e : Expr} {es : List Expr} {kws : List Keyword} {t tk : TA} {p pos : Pos} {ks : List Str} {dv : V}
end
section
variable {ε α β δ : Type} {Z : Wsh ε} {ρ : List (Option VP)} {κ : List Ow} {K : PySem.W.Frag} {t tk : TA} {R1 : α → VP} {R2 : β → VP} {Rd : δ → VP} {ma : Wm ε α} {mb : Wm ε β} {spec : α × β → (δ → Prop) → Prop} {E : XK}
end
end Tw

/-! Sr2: f(e, k = v) that may raise; a promise with exceptions used where none can be. -/
namespace Tw
open PySem PySem.Spec PyProof.Rows L2 SlX StX Rs Ma Sn
variable [Rs.Tabz]
section
variable {X : Cx} {f : Str} {e : Expr} {es : List Expr} {kws : List Keyword} {t tk : TA} {p pos : Pos} {ks : List Str} {W : WX}
end
section
variable {α β γ δ : Type} {ρ : List (Option VP)} {κ : List Ow} {Y : Wx} {t tk : TA} {R1 : α → VP} {R2 : β → VP} {Rd : δ → VP} {ma : Wm Ex α} {mb : Wm Ex β} {W : WX} {n : Nat} {spec : α × β → (δ → Prop) → (Ex → Prop) → Prop}
end
section
variable {ε δ : Type} {Z : Wsh ε} {ρ : List (Option VP)} {κ : List Ow} {K : PySem.W.Frag} {te : TE} {R : δ → VP} [hR : ∀ d, Mono (R d)]
end
section
variable {ε α : Type} {Z : Wsh ε} {ρ : List (Option VP)} {κ : List Ow} {te : TE} {X : Wx} {m : Wm ε Wv}
end
/-! any([..]) -/
theorem r_any {t : TA} {σ : L2.St} {F : Hp} {L : Cells} {K : PySem.W.Frag} {bs : List Bool} (h : Run (t σ) F L (Each [Ls K (bs.map fun b => Dt K (.bool b))])) : Run (tCB (rAny K) t σ) F L (Dt K (.bool (bs.any id))) := r_cb h fun vs F1 e1 hv => by
  obtain ⟨v, rfl, a, ws, rfl, hs, hr⟩ := each1 hv
  rw [each_bls hr] at hs
  exact fun F2 N H e A Q q => ⟨a, bs, rfl, sqL_up (e.trans A.ex) hs, q _ F2 H (Same.refl _) A (.bl _)⟩
/-! statements that are never reached -/
end Tw

/-! Nb0: an object whose only slot is a list of dicts of one's own: what is seen is numbered (Numbering). -/
namespace Tw
open PySem PySem.Spec PyProof.Rows L2 SlX StX Rs Ma Sn
variable [Rs.Tabz]
section
variable {K : PySem.W.Frag} {P : Program} {w : World} {F F' : Hp} {C a : Addr} {M : Cells}
end
/-! ### made -/
def isR (r : Addr) : VP := fun v _ => v = .ref r
instance {r : Addr} : Mono (isR r) := ⟨fun _ _ _ _ h => h⟩
end Tw

/-! Mp: equal views behind many rounds of one web. -/
namespace Wb
open Rs Ma
variable [Rs.Tabz]
end Wb

/-! Mq: the first round in which views are unlike, with rounds of one web behind. -/
namespace Wb
open Rs Ma
variable [Rs.Tabz]
end Wb

/-! Mr: equal views by rounds; what is known; other numbers, other pools. -/
namespace Wb
open Rs Ma Tw
variable [Rs.Tabz]
/-! ### what is known -/
/-! ### rounds in front -/
/-! ### other pools -/
section
variable {n : Nat} {ns : List Nat} (inj : ∀ a b, a < n → b < n → pi ns a = pi ns b → a = b) (lt : ∀ a, a < n → pi ns a < n) (sur : ∀ z, z < n → ∃ a, a < n ∧ pi ns a = z)
include inj lt sur
end
end Wb

/-! Nc0: the numbers of words: equal where views are equal. -/
namespace Sn
open PySem PySem.Spec PyProof.Rows L2 SlX StX Rs Ma Tw Wb
variable [Rs.Tabz]
abbrev Nums := List (List Nat × List Nat)
def wordsL (m : Nat) : Nat → List (List Nat)
  | 0 => [[]]
  | r + 1 => (wordsL m r).flatMap fun u => (List.range m).map fun i => u ++ [i]
/-! ### words -/
theorem words_len {m : Nat} : ∀ {r : Nat} {u : List Nat}, u ∈ wordsL m r → u.length = r ∧ ∀ x ∈ u, x < m
  | 0, u, h => by
    cases List.mem_singleton.mp h
    exact ⟨rfl, fun x hx => nomatch hx⟩
  | r + 1, u, h => by
    obtain ⟨v, hv, h⟩ := List.mem_flatMap.mp h
    obtain ⟨i, hi, rfl⟩ := List.mem_map.mp h
    obtain ⟨h1, h2⟩ := words_len hv
    refine ⟨by rw [List.length_append, h1]; rfl, fun x hx => ?_⟩
    rcases List.mem_append.mp hx with hx | hx
    · exact h2 x hx
    · rw [List.mem_singleton.mp hx]; exact List.mem_range.mp hi
/-! ### tables -/
/-! ### one round more -/
structure NumOk (p : List Rows) (r : Nat) (ns : Nums) : Prop where
  keys : ns.map (·.1) = wordsL p.length r
  rows : ∀ x ∈ ns, x.2.length = psize p
  eq : ∀ x ∈ ns, ∀ y ∈ ns, ∀ h, h < psize p → (x.2.getD h 0 = y.2.getD h 0 ↔ h ∈ eqInL p x.1 y.1)
theorem NumOk.word {p : List Rows} {r : Nat} {ns : Nums} (h : NumOk p r ns) {x : List Nat × List Nat} (hx : x ∈ ns) : x.1.length = r ∧ ∀ i ∈ x.1, i < p.length := words_len (by rw [← h.keys]; exact List.mem_map.mpr ⟨x, hx, rfl⟩)
end Sn

/-! Nd0: a crowd being made: words by what is seen. -/
namespace Tw
open PySem PySem.Spec PyProof.Rows L2 SlX StX Rs Ma Sn Wb
variable [Rs.Tabz]
abbrev PNk := Nat × Nat
abbrev dPN : PNk → PyData := dP dN dN
abbrev Grp := List (PNk × List (List Nat))
def addWord (kvs : Grp) (key : PNk) (word : List Nat) : Grp := putA kvs key ((getA kvs key).getD [] ++ [word])
def groupRow (kvs : Grp) (x : List Nat × List Nat) : Grp := (enumL x.2).foldl (fun kvs key => addWord kvs key x.1) kvs
def groupL (ns : Nums) : Grp := ns.foldl groupRow []
def isRef (r : Addr) : VP := fun v _ => v = .ref r
instance {r : Addr} : Mono (isRef r) := ⟨fun _ _ _ _ h => h⟩
section
variable {K : PySem.W.Frag} {P : Program} {w : World} {F F' : Hp} {C a0 dx d a : Addr} {M : Cells} {vn : V}
end
section
variable {α δ S : Type} {ρ : List (Option VP)} {K : PySem.W.Frag} {P : Program} {w : World} {u : TS} {C a0 dx d : Addr} {vn : V} {ns : Nums} {kvs : Grp} {Rd : δ → VP} {ρ2 : S → List (Option VP)} {κ2 : S → List Ow}
end
/-! ### the whole making -/
def crowdP (C : Addr) (K : PySem.W.Frag) (P : Program) (w : World) (ns : Nums) : VP := Ob C [0, 1] [fDKZ K P w (dT dN) (fD K (dT dN)) ns, fDK K P w dPN (fLn (fD K (dT dN))) (groupL ns)]
end Tw

/-! Nd1: Crowd.__init__. -/
namespace Tw
open PySem PySem.Spec PyProof.Rows L2 SlX StX Rs Ma Sn Wb
variable [Rs.Tabz]
end Tw
namespace Wb
open PySem PySem.Spec PyProof.Rows L2 SlX StX Rs Ma Sn Tw
variable [Rs.Tabz]
section
variable {K : PySem.W.Frag} {P : Program} {w : World} {C_Crowd : Addr}
instance {a : Nums} : Mono (crowdP C_Crowd K P w a) := inferInstanceAs (Mono (Ob C_Crowd [0, 1] [fDKZ K P w (dT dN) (fD K (dT dN)) a, fDK K P w dPN (fLn (fD K (dT dN))) (groupL a)]))
end
end Wb

/-! Nd2: several names at once by way of a tuple, things of one's own among them. -/
namespace Tw
open PySem PySem.Spec PyProof.Rows L2 SlX StX Rs Ma Sn
variable [Rs.Tabz]
instance {K : PySem.W.Frag} {P : Program} {w : World} {α β : Type} [DecidableEq α] {d : α → PyData} {n : Nat} [Keyd d n] {R : β → VP} : NotFrz (fun kvs : List (α × β) => ownDP K P w d R kvs) := ⟨fun g a o F ⟨zs, h, _⟩ o' u z => by rw [h] at z; nomatch z⟩
section
variable {ε γ δ S2 : Type} {Z : Wsh ε} {ρ : List (Option VP)} {κ : List Ow} {K : PySem.W.Frag} {t : TA} {u : TS} {i j l : Nat} {mg : Wm ε γ} {Rd : δ → VP} {ρ2 : S2 → List (Option VP)} {κ2 : S2 → List Ow} {Is : γ → List ItC} {mk : γ → Ws ε S2 δ} {ρ' : γ → List (Option VP)} {κ' : γ → List Ow}
end
end Tw

/-! Ni0: x *= e. -/
namespace Tw
open PySem PySem.Spec PyProof.Rows L2 SlX StX Rs Ma Sn
variable [Rs.Tabz]
end Tw

/-! Ss0: own dicts by comprehensions of two fors; x += e. -/
namespace Tw
open PySem PySem.Spec PyProof.Rows L2 SlX StX Rs Ma Sn
variable [Rs.Tabz]
section
variable {ε α β γ δ η : Type} {Z : Wsh ε} {ρ : List (Option VP)} {κ : List Ow} {K : PySem.W.Frag} {P : Program} {w : World} {tk tv : TE} {tt tt1 : TT} {wi wi1 : L2.TI} {g g1 : TG} {n : Nat} {d : α → PyData} [DecidableEq α] {Rb : β → VP}
end
instance {α β : Type} {K : PySem.W.Frag} {c : α → PyData} {d : β → PyData} : NoNon (fD K (dP c d)) := ⟨fun a v F h e => by
  have h : Dp K F v (dP c d a) := h
  subst e
  cases h⟩
end Tw

/-! Ss1: x = {..: .. for .. for ..}, the dict locked. -/
namespace Sn
open PySem PySem.Spec PyProof.Rows L2 SlX StX Rs Ma Tw
variable [Rs.Tabz]
section
variable {X : Cx}
end
end Sn

/-! Ss2: ranges as values; numbers that are not in them. -/
namespace Tw
open PySem PySem.Spec PyProof.Rows L2 SlX StX Rs Ma Sn
variable [Rs.Tabz]
/-- the numbers below n, as a value -/
def fRg (n : Nat) : VP := fun v F => ∃ a, v = .ref a ∧ F a = some (.rng 0 (n : Int))
instance {n : Nat} : Mono (fRg n) := ⟨fun _ _ _ e ⟨a, h1, h2⟩ => ⟨a, h1, e _ _ h2⟩⟩
end Tw

/-! Ss3: dict(list(d.items())), keys that are tuples. -/
namespace Sn
open PySem PySem.Spec PyProof.Rows L2 SlX StX Rs Ma Tw
variable [Rs.Tabz]
end Sn
namespace Tw
open PySem PySem.Spec PyProof.Rows L2 SlX StX Rs Ma Sn
variable [Rs.Tabz]
end Tw

/-! Ng0: sorted of a dict by nested keys. -/
namespace Tw
open PySem PySem.Spec PyProof.Rows L2 SlX StX Rs Ma Sn
variable [Rs.Tabz]
section
variable {X : Cx}
variable {e : Expr} {es : List Expr} {t : TA} {p pos : Pos}
end
end Tw

/-! Ng1: sorted of a list of rows of rows. -/
namespace Tw
open PySem PySem.Spec PyProof.Rows L2 SlX StX Rs Ma Sn
variable [Rs.Tabz]
section
variable {α : Type} {K : PySem.W.Frag} {d : α → PyData}
theorem with_dat {F : Hp} : ∀ {xs : List α} {us : List V}, Each (xs.map fun x => Dt K (d x)) us F → ∃ ps : List (V × α), us = ps.map (·.1) ∧ xs = ps.map (·.2) ∧ ∀ p ∈ ps, Dp K F p.1 (d p.2)
  | [], [], _ => ⟨[], rfl, rfl, fun p hp => nomatch hp⟩
  | x :: xs, u :: us, h => by
    obtain ⟨ps, e1, e2, e3⟩ := with_dat (xs := xs) h.2
    refine ⟨(u, x) :: ps, by rw [e1]; rfl, by rw [e2]; rfl, fun p hp => ?_⟩
    rcases List.mem_cons.mp hp with e | hp
    · rw [e]; exact h.1
    · exact e3 p hp
  | [], _ :: _, h => h.elim
  | _ :: _, [], h => h.elim
noncomputable def sortD (d : α → PyData) (xs : List α) : List α := xs.mergeSort (PySem.W.dataLe false d)
theorem c_sortedDat {ε : Type} (alk : ∀ x y, PySem.W.alike (d x) (d y) = true) (dep : ∀ x, (d x).depth ≤ 8) : Cb ε (rSortedDt K) (fun xs => [fD K (dL d) xs]) (fun xs Q X => (∀ x ∈ xs, ∃ y r, d x = .tuple (y :: r)) ∧ Q (sortD d xs)) (fD K (dL d)) := ⟨fun xs vs F L hv Q X ⟨q0, q1⟩ => fun F2 N H e A Qk qk => by
  obtain ⟨v, rfl, hx⟩ := each1 hv
  have h' : Dt K (.list (xs.map d)) v F := hx
  obtain ⟨a, us, rfl, hs, hr⟩ := ls_dt.mpr h'
  rw [List.map_map] at hr
  obtain ⟨ps, e1, e2, e3⟩ := with_dat (d := d) hr
  subst e1 e2
  refine ⟨a, ps.map fun p => (p.1, d p.2), rfl, ?_, ?_, ?_, ?_, ?_, fun q hq => ?_⟩
  · rw [List.map_map]; exact .inl (sqL_up (e.trans A.ex) hs)
  · intro p hp
    obtain ⟨p0, hp0, rfl⟩ := List.mem_map.mp hp
    exact dp_up (e.trans A.ex) (e3 p0 hp0)
  · rw [List.map_map]
    exact PySem.W.AllAlike.of fun p q => alk p.2 q.2
  · refine .inl fun d' hd => ?_
    rw [List.map_map] at hd
    obtain ⟨p0, hp0, rfl⟩ := List.mem_map.mp hd
    exact q0 p0.2 (List.mem_map.mpr ⟨p0, hp0, rfl⟩)
  · intro p hp
    obtain ⟨p0, hp0, rfl⟩ := List.mem_map.mp hp
    exact dep p0.2
  · have hms : (ps.map fun p => (p.1, d p.2)).mergeSort (PySem.W.dataLe false (·.2)) = (ps.mergeSort (PySem.W.dataLe false fun p => d p.2)).map fun p => (p.1, d p.2) := by
      rw [List.map_mergeSort]
      intro p hp q hq; rfl
    rw [hms, List.map_map]
    have s1 := same_new (o := HO.lst ((ps.mergeSort (PySem.W.dataLe false fun p => d p.2)).map fun p => p.1)) (A.free hq)
    refine qk _ (upd F2 q _) _ s1 (A.new hq) ⟨_, q1, ?_⟩
    have hsort : sortD d (ps.map (·.2)) = (ps.mergeSort (PySem.W.dataLe false fun p => d p.2)).map (·.2) := by
      unfold sortD
      rw [List.map_mergeSort]
      intro p hp q hq; rfl
    rw [hsort]
    refine ls_dt.mp ⟨q, _, rfl, .inl (.inl upd_same), ?_⟩
    rw [List.map_map, List.map_map]
    have all : ∀ l : List (V × α), (∀ m ∈ l, m ∈ ps) → Each (l.map fun m => Dt K (d m.2)) (l.map fun m => m.1) (upd F2 q (.lst ((ps.mergeSort (PySem.W.dataLe false fun p => d p.2)).map fun p => p.1))) := by
      intro l
      induction l with
      | nil => intro _; exact True.intro
      | cons m l ih => intro hmm; exact ⟨dp_up (e.trans s1) (e3 m (hmm m List.mem_cons_self)), ih fun y hy => hmm y (List.mem_cons_of_mem _ hy)⟩
    exact all _ fun m hm => (List.mergeSort_perm _ _).mem_iff.mp hm⟩
end
/-! the order is one of data: whatever order they come in, they are sorted alike -/
end Tw

/-! Su0: min of a list of numbers, min of alike data: of a list, of two. -/
namespace Tw
open PySem PySem.Spec PyProof.Rows L2 SlX StX Rs Ma PySem.SeqAt
section
variable {prog : Program} {w : World} {A : Around} {E : Value → Shared → Prop} {s : Shared}
end
end Tw

/-! Ph2: two sets of ints that hold the same are not told apart. -/
namespace Sn
open PySem PySem.Spec PySem.Calls PyProof.Rows PySem.W L2
section
variable {P : Program} {w : World} {A : Around} {E : Value → Shared → Prop} {s : Shared} {a b : Addr} {S S' : Int → Bool} {n m : Nat}
end
end Sn

/-! Qh3: != of two sets of ints that hold the same; lists of optional numbers that are all there. -/
namespace Tw
open PySem PySem.Spec PyProof.Rows L2 SlX StX Rs Ma Sn
variable [Rs.Tabz]
section
variable {X : Cx}
end
section
variable {ε α : Type} {Z : Wsh ε} {ρ : List (Option VP)} {κ : List Ow} {K : PySem.W.Frag} {w : World} {te : TE}
end
end Tw

/-! Su1: a set of ints less another; a set of ints beside the empty set. -/
namespace Sn
open PySem PySem.Spec PySem.Calls PyProof.Rows PySem.W L2
section
variable {P : Program} {w : World} {A : Around} {E : Value → Shared → Prop} {s : Shared} {a b : Addr} {S S' : Int → Bool} {n m : Nat}
end
end Sn

/-! Su2: min of numbers and of rows; a set less another, == set(); x, d[k] = a, b. -/
namespace Tw
open PySem PySem.Spec PyProof.Rows L2 SlX StX Rs Ma Sn
/-! ### min -/
section
variable {X : Cx}
variable {e : Expr} {es : List Expr} {t : TA} {p pos : Pos} {j : Nat}
end
section
variable {ε : Type} {K : PySem.W.Frag} {w : World} [Rs.Tabz]
/-! ### sets -/
def fSet0 (w : World) : Unit → VP := fun _ v F => ∃ b, v = .ref b ∧ F b = some (SetO w b (fun _ => false) 0)
instance {w : World} {u : Unit} : Mono (fSet0 w u) := ⟨fun _ _ _ e ⟨b, h, h1⟩ => ⟨b, h, e _ _ h1⟩⟩
end
section
variable {ε α β δ S : Type} [DecidableEq α] {Z : Wsh ε} {ρ : List (Option VP)} {κ : List Ow} {K : PySem.W.Frag} {P : Program} {w : World} {d : α → PyData} {n : Nat} [c : Keyd d n] [t : TupD d] {R : β → VP} {γ : Type} {Ra : γ → VP} {kvs : List (α × β)} {i j : Nat} {ta tb tk : TE} {u : TS} {ma : Wm ε γ} {mb : Wm ε β} {mk : γ → Wm ε α} {Rd : δ → VP} {ρ2 : S → List (Option VP)} {κ2 : S → List Ow}
end
end Tw

/-! Su3: dict(xs) of pairs whose keys are tuples; set(). -/
namespace Sn
open PySem PySem.Spec PyProof.Rows L2 SlX StX Rs Ma Tw
variable [Rs.Tabz]
def rDictPN (K : PySem.W.Frag) (P : Program) (w : World) : List V → Hp → VK → Prop := fun xs H Q => ∃ (a : Addr) (ps : List Addr) (zs : List Ent), xs = [.ref a] ∧ SqL K H a (ps.map V.ref) ∧ Paired (fun p z => SqT K H p [.ref z.2.1, z.2.2]) ps zs ∧ (∀ z ∈ zs, KeyAt K H z.1 z.2.1) ∧ (zs.map (·.1)).Nodup ∧ zs.length ≤ 100000 ∧
  ∀ p, H p = none → Q (.ref p) (upd H p (dictN P w zs p))
section
variable {X : Cx}
theorem pairs_ofN {pins : List (Addr × Obj)} {σ : L2.St} {H : Hp} {s : Shared} (I : Inv X pins σ H s) : ∀ {ps : List Addr} {zs : List Ent}, Paired (fun p z => SqT X.K H p [.ref z.2.1, z.2.2]) ps zs → (∀ z ∈ zs, KeyAt X.K H z.1 z.2.1) →
    ∃ ys : List (NestedKey × Addr × Value), Paired EntR zs ys ∧ ys.length = ps.length ∧ ys.map (·.1) = zs.map (·.1) ∧ (∀ y ∈ ys, (nestedKind X.prog X.w).is s.heap y.1 y.2.1) ∧ ∀ (j : Nat) (y : NestedKey × Addr × Value), ys[j]? = some y → ∃ b, ps[j]? = some b ∧ s.heap.IsTuple b #[.ref y.2.1, y.2.2]
  | _, _, .nil, _ => ⟨[], .nil, rfl, rfl, (fun y hy => nomatch hy), fun j q e => by simp at e⟩
  | _, _, .cons (a := p) (b := z) h t, hz => by
    obtain ⟨ys, r, hl, hm, hi, hp⟩ := pairs_ofN I t fun z hz' => hz z (List.mem_cons_of_mem _ hz')
    obtain ⟨its, rv, ht, _⟩ := I.tuple h
    obtain ⟨u, y, ei, ru, ry⟩ := vals2 rv
    subst ei
    obtain rfl : u = Value.ref z.2.1 := ru
    refine ⟨(z.1, z.2.1, y) :: ys, .cons ⟨rfl, rfl, ry⟩ r, by rw [List.length_cons, List.length_cons, hl], by rw [List.map_cons, List.map_cons, hm], fun y' hy' => ?_, fun j q e => ?_⟩
    · rcases List.mem_cons.mp hy' with e | hy'
      · rw [e]; exact key_at I (hz z List.mem_cons_self)
      · exact hi y' hy'
    · cases j with
      | zero =>
        have e' : (z.1, z.2.1, y) = q := Option.some.inj e
        subst e'
        exact ⟨p, rfl, ht⟩
      | succ j =>
        obtain ⟨b, e1, e2⟩ := hp j q (by simpa using e)
        exact ⟨b, by simpa using e1, e2⟩
theorem cr_dictPN (hc : X.calm = true) (hu : X.A.units + 64 < cLine) : CallR X (.type "dict") (rDictPN X.K X.prog X.w) := by
  intro pins s σ H xs us Q I r h
  obtain ⟨a, ps, zs, rfl, hs, hp, hz, hnd, hlen, q⟩ := h
  rw [Vals.ref1 r]
  obtain ⟨its, rv, pl, hzl⟩ := I.list hs
  have ei := refs_at rv
  subst ei
  rw [List.length_map] at hzl
  obtain ⟨ys, rel, hl, hm, his, hpr⟩ := pairs_ofN I hp hz
  obtain ⟨o, n, ho, hco, hd, hdat⟩ := pl
  have PA := PairArg.list (prog := X.prog) (w := X.w) a (ps.map Value.ref).toArray (fun j => ps.getD j 0) (ys.map fun y => (Value.ref y.2.1, y.2.2))
  refine call_dict_pairsH (knd := nestedKind X.prog X.w) (ps := ys) (s := s) PA (I.ok.hd hc) (by show X.A.units + 1 + 1 + 8 < cLine; omega) ⟨⟨o, n, ho, hco, hd, hdat⟩, ?_, fun j k v hj => ?_⟩ ⟨by rw [List.length_map], fun i key v hi => ?_⟩ (fun h' hk' x hx => ?_) (by rw [List.length_map, hl]; exact hzl) (fun h3 tk3 hD3 hk3 => ?_)
  · rw [List.size_toArray, List.length_map, List.length_map, hl]
  · rw [List.getElem?_map] at hj
    cases e : ys[j]? with
    | none => rw [e] at hj; cases hj
    | some y =>
      rw [e] at hj
      have hj : (Value.ref y.2.1, y.2.2) = (k, v) := Option.some.inj hj
      cases hj
      obtain ⟨b, e1, e2⟩ := hpr j y e
      have eb : ps.getD j 0 = b := by rw [List.getD_eq_getElem?_getD, e1]; rfl
      dsimp only
      rw [eb]
      exact ⟨by rw [List.getElem?_toArray, List.getElem?_map, e1]; rfl, .inl e2⟩
  · have hi : (ys.map fun y => (Value.ref y.2.1, y.2.2))[i]? = some (key, v) := hi
    rw [List.getElem?_map] at hi
    cases e : ys[i]? with
    | none => rw [e] at hi; cases hi
    | some y =>
      rw [e] at hi
      have hi : (Value.ref y.2.1, y.2.2) = (key, v) := Option.some.inj hi
      cases hi
      exact ⟨y.1, y.2.1, rfl, rfl⟩
  · exact nestedKind_stays.stays (fun b o vs n e _ => hk' b o (Nat.ne_of_lt (Heap.lt_size e)) (by simp) e) (his x hx)
  · have keep : ∀ b o, s.heap.get? b = some o → h3.get? b = some o := fun b o e => hk3 b o (by simp) e
    have hge : s.heap.objs.size ≤ s.heap.objs.size := Nat.le_refl _
    rw [storedAllH_nil_of_nodup ys (by rw [hm]; exact hnd)] at hD3
    obtain ⟨o, es3, ep3, g1, g2, g3, g4, _, g6⟩ := hD3
    have ns : (s.heap.objs.size == sysModules) = false := beq_eq_false_iff_ne.mpr (Ne.symm (Nat.ne_of_lt (Nat.lt_of_lt_of_le I.big hge)))
    exact ⟨.ref s.heap.objs.size, upd H s.heap.objs.size (dictN X.prog X.w zs s.heap.objs.size), I.laid (t' := tk3) keep hge (dictN_new ⟨ns, hlen, ys, rel, o, es3, ep3, g1, g2, g3, g4, g6⟩), rfl, q _ (I.hok.fresh hge)⟩
variable {e : Expr} {es : List Expr} {t : TA} {p pos : Pos} {j : Nat}
theorem p_dictPN (hc : X.calm = true) (hr : Room j X.A) (B : Bf X.mg) (ha : PA X (e :: es) t) (hg : Gl X "dict" := by rfl) (he : starEach (e :: es) X.env = (false, eval e X.env) :: starEach es X.env := by rfl) (hpl : (backTo pos (starEach es X.env)).any (·.1) = false := by rfl) :
    PE X (.Call (.Name "dict" p) (e :: es) [] pos) (tCB (rDictPN X.K X.prog X.w) t) := pe_callTy (cr_dictPN hc hr.units) hg B.dict boot_dict ha (by decide) (by decide) he hpl
end
end Sn
namespace Tw
open PySem PySem.Spec PyProof.Rows L2 SlX StX Rs Ma Sn
variable [Rs.Tabz]
section
variable {ε α β : Type} [DecidableEq α] {Z : Wsh ε} {ρ : List (Option VP)} {κ : List Ow} {K : PySem.W.Frag} {P : Program} {w : World} {te : TE} {d : α → PyData} {n : Nat} [c : Keyd d n] [t : TupD d] {R : β → VP}
theorem pairs_atN (hn : n ≤ 8) {F : Hp} [∀ b, Mono (R b)] : ∀ {xs : List (α × β)} {vs : List V}, Each (xs.map (fP K (fD K d) R)) vs F → ∃ ps zs, vs = ps.map V.ref ∧ (∀ F', Same F F' → Paired (fun p z => SqT K F' p [.ref z.2.1, z.2.2]) ps zs) ∧ EntAll K d R zs xs F
  | [], [], _ => ⟨[], [], rfl, fun _ _ => .nil, True.intro⟩
  | x :: xs, v :: vs, h => by
    obtain ⟨ps, zs, e1, h1, h2⟩ := pairs_atN hn (xs := xs) h.2
    obtain ⟨q, ws, rfl, hs, hw⟩ := h.1
    obtain ⟨k, y, rfl, hk, hy⟩ := each2 hw
    have hk : Dp K F k (d x.1) := hk
    obtain ⟨b, rfl⟩ := tupD_ref hk
    exact ⟨q :: ps, (c.key x.1, b, y) :: zs, by rw [e1]; rfl, fun F' e => .cons (sqT_up e hs) (h1 F' e), ⟨rfl, ⟨by rw [c.ok]; exact hk, Nat.le_trans (c.dep x.1) hn⟩, hy⟩, h2⟩
  | [], _ :: _, h => h.elim
  | _ :: _, [], h => h.elim
theorem nodup_key {xs : List α} (h : xs.Nodup) : (xs.map c.key).Nodup := (List.pairwise_map).mpr (h.imp fun {a b} ne e => ne (c.inj _ _ e))
theorem tm_dictPN (hn : n ≤ 8 := by decide) [∀ b, Mono (R b)] {ml : Wm ε (List (α × β))} (h : TrE Z ρ κ te ml (fLn (fP K (fD K d) R))) : TrM Z ρ κ (tCB (rDictPN K P w) (tCons te tNil)) (fun Q X => ml (fun xs => (xs.map (·.1)).Nodup ∧ xs.length ≤ 100000 ∧ Q xs) X) (ownDP K P w d R) :=
  ⟨fun σ F L s cc Q X q F1 N H e A wsh Qk qk => h.run σ F L s cc _ X q F1 N H e A wsh _ fun v F2 H2 e2 A2 ⟨xs, ⟨q0, q1, q2⟩, r⟩ => by
    obtain ⟨a, vs, rfl, hl, hv⟩ := r
    obtain ⟨ps, zs, rfl, h1, h2⟩ := pairs_atN hn hv
    refine ⟨a, ps, zs, rfl, .inl (.inl (A2.ex _ _ hl)), h1 _ A2.ex, fun z hz => keyAt_up A2.ex (entAll_keys h2 z hz), by rw [entAll_fst h2]; exact nodup_key q0, by rw [entAll_len h2]; exact q1, fun p hp => ?_⟩
    exact qk p _ F2 _ xs e2 (A2.cell hp dictN_notTup dictN_notTbl dictN_ne) (fun F' e' => ⟨zs, rfl, entAll_up e' h2, q0⟩) q2⟩
end
end Tw

/-! Su4: any statement ahead of a break. -/
namespace Tw
open PySem PySem.Spec PyProof.Rows L2 SlX StX Rs Ma Sn
variable [Rs.Tabz]
section
variable {ε δ S S1 : Type} {Z : Wsh ε} {ρ : List (Option VP)} {κ : List Ow} {t u : TS} {Rd : δ → VP} {ρ2 : S → List (Option VP)} {κ2 : S → List Ow} {ρ1 : S1 → List (Option VP)} {κ1 : S1 → List Ow}
end
end Tw

/-! Sv0: xs.remove(x); sorted of lists of numbers; four names at once. -/
namespace Tw
open PySem PySem.Spec PyProof.Rows L2 SlX StX Rs Ma Sn
variable [Rs.Tabz]
section
variable {ε δ S2 : Type} {Z : Wsh ε} {ρ : List (Option VP)} {κ : List Ow} {K : PySem.W.Frag} {te : TE} {u : TS} {i : Nat} {Rd : δ → VP} {ρ2 : S2 → List (Option VP)} {κ2 : S2 → List Ow}
end
section
variable {ε γ δ S2 : Type} {Z : Wsh ε} {ρ : List (Option VP)} {κ : List Ow} {K : PySem.W.Frag} {t : TA} {u : TS} {i j l l2 : Nat} {mg : Wm ε γ} {Rd : δ → VP} {ρ2 : S2 → List (Option VP)} {κ2 : S2 → List Ow} {Is : γ → List ItC} {mk : γ → Ws ε S2 δ} {ρ' : γ → List (Option VP)} {κ' : γ → List Ow}
end
/-! ### sorted of lists of numbers -/
end Tw

/-! Sv1: list(d) of a dict whose keys are tuples; list(xs) of data. -/
namespace Sn
open PySem PySem.Spec PyProof.Rows L2 SlX StX Rs Ma Tw
variable [Rs.Tabz]
def rListDK (K : PySem.W.Frag) (P : Program) (w : World) : List V → Hp → VK → Prop := fun xs H Q => ∃ (d : Addr) (zs : List Ent), xs = [.ref d] ∧ Rd H d (dictN P w zs d) ∧ (∀ z ∈ zs, KeyAt K H z.1 z.2.1) ∧ ∀ p, H p = none → Q (.ref p) (upd H p (.lst (zs.map fun z => V.ref z.2.1)))
section
variable {X : Cx}
theorem cr_listDK (hc : X.calm = true) : CallR X (.type "list") (rListDK X.K X.prog X.w) := by
  intro pins s σ H xs us Q I r h
  obtain ⟨d, zs, rfl, hD, hz, q⟩ := h
  rw [Vals.ref1 r]
  obtain ⟨hsys, hlen, ys, rel, dd⟩ := dict_at I hD hz
  obtain ⟨es, ep, hraw, hsz, ent⟩ := dd.raw
  have hyl : ys.length ≤ sizeLine := by rw [← rel.length, sizeLine_eq]; omega
  refine PySem.W.kdl_call (PySem.KdlSrc.rawDict (prog := X.prog) (w := X.w) (es := es) (ep := ep) hsys) (I.ok.hd hc) hraw (by rw [hsz]; exact hyl) fun h' tk acc c keep hS items => ?_
  have hzy : zs.map (fun z => z.2.1) = ys.map (fun y => y.2.1) := by
    have : ∀ {zs : List Ent} {ys : List (NestedKey × Addr × Value)}, Paired EntR zs ys → zs.map (fun z => z.2.1) = ys.map (fun y => y.2.1) := by
      intro zs ys hp
      induction hp with
      | nil => rfl
      | cons r _ ih => rw [List.map_cons, List.map_cons, ih, r.2.1]
    exact this rel
  have e1 : acc.toList = (zs.map fun z => z.2.1).map Value.ref := by
    rw [hzy]
    apply List.ext_getElem?
    intro j
    rw [List.getElem?_map, List.getElem?_map, Array.getElem?_toList]
    cases e : acc[j]? with
    | some v =>
      obtain ⟨hi, ev⟩ := items.2 j v e
      obtain ⟨y, hy, ek, _, _⟩ := ent j hi
      rw [hy, ev, ek]; rfl
    | none =>
      have : acc.size ≤ j := Array.getElem?_eq_none_iff.mp e
      rw [items.1, hsz] at this
      rw [List.getElem?_eq_none (by omega)]; rfl
  have vals : ∀ l : List Addr, Vals (l.map V.ref) (l.map Value.ref) := fun l => by
    induction l with
    | nil => exact .nil
    | cons a l ih => exact .cons rfl ih
  have hl : ((zs.map fun z => V.ref z.2.1)).length ≤ sizeLine := by rw [List.length_map, rel.length]; exact hyl
  have em : (zs.map fun z => V.ref z.2.1) = (zs.map fun z => z.2.1).map V.ref := by rw [List.map_map]; rfl
  refine ⟨.ref s.heap.objs.size, upd H s.heap.objs.size (.lst (zs.map fun z => V.ref z.2.1)), I.laid (t' := tk) keep (Nat.le_refl _) ⟨hl, acc.toList, c, by rw [em, e1]; exact vals _, by rw [Array.toArray_toList]; exact hS⟩, rfl, q _ (I.hok.fresh (Nat.le_refl _))⟩
variable {e : Expr} {es : List Expr} {t : TA} {p pos : Pos} {j : Nat}
theorem p_listDK (hc : X.calm = true) (B : Bf X.mg) (ha : PA X (e :: es) t) (hg : Gl X "list" := by rfl) (he : starEach (e :: es) X.env = (false, eval e X.env) :: starEach es X.env := by rfl) (hpl : (backTo pos (starEach es X.env)).any (·.1) = false := by rfl) :
    PE X (.Call (.Name "list" p) (e :: es) [] pos) (tCB (rListDK X.K X.prog X.w) t) := pe_callTy (cr_listDK hc) hg B.list PyProof.Rows.boot_list ha (by decide) (by decide) he hpl
end
end Sn
namespace Tw
open PySem PySem.Spec PyProof.Rows L2 SlX StX Rs Ma Sn
variable [Rs.Tabz]
section
variable {ε α β : Type} [DecidableEq α] {Z : Wsh ε} {ρ : List (Option VP)} {κ : List Ow} {K : PySem.W.Frag} {P : Program} {w : World} {te : TE} {d : α → PyData} {n : Nat} [c : Keyd d n] {R : β → VP}
theorem entAll_refs {F : Hp} : ∀ {zs : List Ent} {ps : List (α × β)}, EntAll K d R zs ps F → Each (ps.map fun p => Dt K (d p.1)) (zs.map fun z => V.ref z.2.1) F
  | [], [], _ => True.intro
  | z :: zs, p :: ps, h => ⟨by
    have := h.1.2.1.1
    rw [h.1.1, c.ok] at this
    exact this, entAll_refs h.2⟩
  | [], _ :: _, h => h.elim
  | _ :: _, [], h => h.elim
theorem c_listDK [∀ b, Mono (R b)] : Cb ε (rListDK K P w) (fun kvs : List (α × β) => [fDK K P w d R kvs]) (fun kvs => pur (kvs.map (·.1))) (fD K (dL d)) := .of fun kvs vs F L hv Q X q => by
  obtain ⟨v, rfl, hx⟩ := each1 hv
  obtain ⟨D, zs, ev, hD, he, hnd⟩ := hx
  refine ⟨_, q, fun F1 N H e A Qk qk => ⟨D, zs, by rw [ev], rd_up (e.trans A.ex) hD, fun z hz => keyAt_up (e.trans A.ex) (entAll_keys he z hz), fun p hp => qk _ (upd F1 p _) _ (same_new (A.free hp)) (A.new hp) ?_⟩⟩
  refine ls_dt.mp ⟨p, _, rfl, .inl (.inl upd_same), ?_⟩
  rw [List.map_map, List.map_map]
  exact entAll_refs (entAll_up (e.trans (same_new (A.free hp))) he)
end
section
variable {ε α : Type} {Z : Wsh ε} {ρ : List (Option VP)} {κ : List Ow} {K : PySem.W.Frag} {te : TE} {d : α → PyData} {ml : Wm ε (List α)}
end
end Tw

/-! Sv2: lists read out of a dict of one's own; new lists made while things of one's own are looked at. -/
namespace Tw
open PySem PySem.Spec PyProof.Rows L2 SlX StX Rs Ma Sn
variable [Rs.Tabz]
section
variable {K : PySem.W.Frag} {F : Hp} {a : Addr} {o : HO}
theorem sqL_cutN (h1 : F a = some o) (h2 : ∀ xs, o ≠ .lst xs) (h3 : ∀ o' u, o ≠ .frz o' u) {b : Addr} {xs : List V} (h : SqL K F b xs) : SqL K (cutF F a) b xs := by
  rcases h with (h | ⟨u, h⟩) | h
  · refine .inl (.inl ?_)
    have : b ≠ a := fun z => by
      rw [z, h1] at h
      exact h2 _ (Option.some.inj h)
    show (if b = a then none else F b) = _
    rw [if_neg this, h]
  · refine .inl (.inr ⟨u, ?_⟩)
    have : b ≠ a := fun z => by
      rw [z, h1] at h
      exact h3 _ _ (Option.some.inj h)
    show (if b = a then none else F b) = _
    rw [if_neg this, h]
  · exact .inr h
mutual
theorem dp_cutN (h1 : F a = some o) (h2 : ∀ xs, o ≠ .tup xs) (hl : ∀ xs, o ≠ .lst xs) (h3 : ∀ o' u, o ≠ .frz o' u) : ∀ (d : PyData) (v : V), Dp K F v d → Dp K (cutF F a) v d
  | .none, _, h => by cases h; exact .non
  | .bool b, _, h => by cases h; exact .bl b
  | .int i, _, h => by cases h; exact .int i
  | .str x, _, h => by cases h; exact .str x
  | .list ds, _, h => by
    cases h with
    | lst hs ha => exact .lst (sqL_cutN h1 hl h3 hs) (dps_cutN h1 h2 hl h3 ds _ ha)
  | .dict _, _, h => by cases h
  | .tuple ds, _, h => by
    cases h with
    | tup hs ha => exact .tup (sqT_cut h1 h2 h3 hs) (dps_cutN h1 h2 hl h3 ds _ ha)
theorem dps_cutN (h1 : F a = some o) (h2 : ∀ xs, o ≠ .tup xs) (hl : ∀ xs, o ≠ .lst xs) (h3 : ∀ o' u, o ≠ .frz o' u) : ∀ (ds : List PyData) (vs : List V), DpAll K F vs ds → DpAll K (cutF F a) vs ds
  | [], _, h => by cases h; exact .nil
  | d :: ds, _, h => by
    cases h with
    | cons x1 x2 => exact .cons (dp_cutN h1 h2 hl h3 d _ x1) (dps_cutN h1 h2 hl h3 ds _ x2)
end
end
/-- what is told of such values does not lean on dicts -/
class CutN {δ : Type} (R : δ → VP) : Prop where
  cut : ∀ d v F a o, F a = some o → (∀ xs, o ≠ .tup xs) → (∀ xs, o ≠ .lst xs) → (∀ o' u, o ≠ .frz o' u) → R d v F → R d v (cutF F a)
instance {K : PySem.W.Frag} {α : Type} {d : α → PyData} : CutN (fD K d) := ⟨fun x v F a o h1 h2 hl h3 r => dp_cutN h1 h2 hl h3 (d x) v r⟩
theorem each_cutN {α : Type} {R : α → VP} [CutN R] {F : Hp} {a : Addr} {o : HO} (h1 : F a = some o) (h2 : ∀ xs, o ≠ .tup xs) (hl : ∀ xs, o ≠ .lst xs) (h3 : ∀ o' u, o ≠ .frz o' u) : ∀ {xs : List α} {vs : List V}, Each (xs.map R) vs F → Each (xs.map R) vs (cutF F a)
  | [], [], h => h
  | x :: xs, v :: vs, h => ⟨CutN.cut x v F a o h1 h2 hl h3 h.1, each_cutN h1 h2 hl h3 h.2⟩
  | [], _ :: _, h => h.elim
  | _ :: _, [], h => h.elim
instance {α : Type} {R : α → VP} [CutN R] : CutN (fLn R) := ⟨fun xs v F a o h1 h2 hl h3 ⟨b, vs, e, hb, r⟩ => by
  have : b ≠ a := fun z => by
    rw [z, h1] at hb
    exact hl _ (Option.some.inj hb)
  exact ⟨b, vs, e, by show (if b = a then none else F b) = _; rw [if_neg this, hb], each_cutN h1 h2 hl h3 r⟩⟩
class NotLst {γ : Type} (ow : γ → Addr → HO → Hp → Prop) : Prop where
  no : ∀ g a o F, ow g a o F → ∀ xs, o ≠ .lst xs
instance {α β : Type} [DecidableEq α] {d : α → PyData} [NumK d] {R : β → VP} : NotLst (ownDI d R) := ⟨fun g a o F ⟨zs, h, _⟩ u z => by rw [h] at z; cases z⟩
instance {K : PySem.W.Frag} {P : Program} {w : World} {α β : Type} [DecidableEq α] {d : α → PyData} {n : Nat} [Keyd d n] {R : β → VP} : NotLst (fun kvs : List (α × β) => ownDP K P w d R kvs) := ⟨fun g a o F ⟨zs, h, _⟩ u z => by rw [h] at z; nomatch z⟩
section
variable {ε β γ δ : Type} {Z : Wsh ε} {ρ : List (Option VP)} {κ : List Ow} {te : TE} {i : Nat} {Rd : δ → VP} {R2 : β → VP} {ow : γ → Addr → HO → Hp → Prop} {fam : γ → VP} {g : γ}
end
end Tw

/-! Nf0: words by what is seen; ways through words that share a view. -/
namespace Sn
open PySem PySem.Spec PyProof.Rows L2 SlX StX Rs Ma Tw Wb
variable [Rs.Tabz]
/-! ### groups -/
def grp (ns : Nums) (k : PNk) : List (List Nat) := (getA (groupL ns) k).getD []
/-! ### ways -/
def AdjN (ns : Nums) (u v : List Nat) : Prop := ∃ x ∈ ns, ∃ y ∈ ns, x.1 = u ∧ y.1 = v ∧ ∃ h, h < x.2.length ∧ h < y.2.length ∧ x.2.getD h 0 = y.2.getD h 0
inductive ChainN (ns : Nums) (u : List Nat) : List Nat → List (List Nat) → Prop
  | one : ChainN ns u u [u]
  | snoc {v w : List Nat} {c : List (List Nat)} (h : ChainN ns u v c) (a : AdjN ns v w) : ChainN ns u w (c ++ [w])
abbrev Ways := List (List Nat × List (List Nat))
abbrev Met := List (PNk × Bool)
structure WOk (ns : Nums) (u : List Nat) (W : Ways) : Prop where
  nd : (W.map (·.1)).Nodup
  st : u ∈ W.map (·.1)
  ch : ∀ e ∈ W, ChainN ns u e.1 e.2 ∧ e.2.length ≤ W.length
  wd : ∀ v ∈ W.map (·.1), v ∈ ns.map (·.1)
/-! ### a round of the search -/
def AllMet (ns : Nums) (met : Met) (v : List Nat) : Prop := ∀ x ∈ ns, x.1 = v → ∀ h, h < x.2.length → (h, x.2.getD h 0) ∈ met.map (·.1)
structure TI (ns : Nums) (u : List Nat) (W0 : Ways) (cnt : Nat) (todo : List (List Nat)) (s : Ways × Met × List (List Nat)) : Prop where
  ok : WOk ns u s.1
  sub : ∀ v ∈ W0.map (·.1), v ∈ s.1.map (·.1)
  lat : ∀ v ∈ s.2.2, v ∈ s.1.map (·.1)
  len : s.1.length = W0.length + s.2.2.length
  met : ∀ k ∈ s.2.1.map (·.1), ∀ v ∈ grp ns k, v ∈ s.1.map (·.1)
  cnt : s.2.1.length ≤ cnt
  done : ∀ v ∈ s.1.map (·.1), v ∈ s.2.2 ∨ v ∈ todo ∨ AllMet ns s.2.1 v
end Sn

/-! Nf1: the search for ways, whole. -/
namespace Sn
open PySem PySem.Spec PyProof.Rows L2 SlX StX Rs Ma Tw Wb
variable [Rs.Tabz]
end Sn

/-! Nh0: lots: words that lead to each other through words that share a view. -/
namespace Sn
open PySem PySem.Spec PyProof.Rows L2 SlX StX Rs Ma Tw Wb
variable [Rs.Tabz]
open Classical in
/-! ### all lots -/
end Sn

/-! Nj0: sorted of tuples of rows (of rows); d.get(k, None). -/
namespace Tw
open PySem PySem.Spec PyProof.Rows L2 SlX StX Rs Ma Sn
variable [Rs.Tabz]
section
variable {α : Type} {K : PySem.W.Frag} {d : α → PyData}
end
/-! d.get(k, None) -/
section
variable {ε α β : Type} [DecidableEq α] {Z : Wsh ε} {ρ : List (Option VP)} {κ : List Ow} {K : PySem.W.Frag} {P : Program} {w : World} {d : α → PyData} {n : Nat} [c : Keyd d n] [t : TupD d] {R : β → VP} {td te : TE}
end
end Tw

/-! Sw0: sorted of lists as new lists (items of any kind that are data), of lists of one's own too. -/
namespace Tw
open PySem PySem.Spec PyProof.Rows L2 SlX StX Rs Ma Sn
variable [Rs.Tabz]
section
variable {ε α : Type} {K : PySem.W.Frag} {R : α → VP} {d : α → PyData}
end
section
variable {ε α : Type} {Z : Wsh ε} {ρ : List (Option VP)} {κ : List Ow} {K : PySem.W.Frag} {i : Nat} {xs : List (List Nat)} {ns : List Nat}
end
end Tw

/-! Sw1: new lists ahead of several things of one's own; keys in dicts within comprehensions. -/
namespace Tw
open PySem PySem.Spec PyProof.Rows L2 SlX StX Rs Ma Sn
variable [Rs.Tabz]
section
variable {ε α : Type} {Z : Wsh ε} {ρ : List (Option VP)} {κ κ' : List Ow} {te : TE} {ml : Wm ε (List α)} {R : α → VP}
end
end Tw
namespace Sn
open PySem PySem.Spec PyProof.Rows L2 SlX StX Rs Ma
variable [Rs.Tabz]
end Sn

/-! Sx0: a method that returns what another method of the same object answers, which changes it too; bool of a truth. -/
namespace Tw
open PySem PySem.Spec PyProof.Rows L2 SlX StX Rs Ma Sn
variable [Rs.Tabz]
section
variable {ε α S S1 : Type} {Z : Wsh ε} {ρ : List (Option VP)} {κ : List Ow} {te : TE} {i : Nat} {C : Addr} {ds : Fds} {R : α → VP} {ρ2 : S → List (Option VP)} {κ2 : S → List Ow}
end
section
variable {X : Cx} {e : Expr} {es : List Expr} {t : TA} {p pos : Pos}
end
end Tw

/-! Sx1: defs that change an object and a cell (a dict) that are handed to them, or such a cell alone. -/
namespace Tw
open PySem PySem.Spec PyProof.Rows L2 SlX StX Rs Ma Sn LmR
variable [Rs.Tabz]
instance {α : Type} {R : α → VP} : NoNon (fLn R) := ⟨fun a v F ⟨p, vs, e, _⟩ z => by subst e; cases z⟩
/-- it is just this address -/
def aR (a : Addr) : Unit → VP := fun _ v _ => v = .ref a
instance {a : Addr} {x : Unit} : Mono (aR a x) := ⟨fun _ _ _ _ h => h⟩
/-- a cell of one's own, at an address that is told -/
def pinD {T : Type} (B : Addr → Hp → Prop) (O : T → Addr → HO → Hp → Prop) : T → Addr → HO → Hp → Prop := fun t a o F => B a F ∧ O t a o F
class OkO {T : Type} (O : T → Addr → HO → Hp → Prop) : Prop where
  ok : ∀ t a o F, O t a o F → OkC o
instance {T : Type} {B : Addr → Hp → Prop} {O : T → Addr → HO → Hp → Prop} [c : OkO O] : OkO (pinD B O) := ⟨fun t a o F h => c.ok t a o F h.2⟩
instance {K : PySem.W.Frag} {P : Program} {w : World} {α β : Type} [DecidableEq α] {d : α → PyData} {n : Nat} [Keyd d n] {R : β → VP} : OkO (fun kvs : List (α × β) => ownDP K P w d R kvs) := ⟨fun t a o F ⟨zs, h, _⟩ => by
  subst h
  exact ⟨dictN_notTup, dictN_notTbl, dictN_ne, fun o' u z => nomatch z⟩⟩
instance {T : Type} {B : Addr → Hp → Prop} {O : T → Addr → HO → Hp → Prop} {fam : T → VP} [b : Bor O fam] : Bor (pinD B O) fam := ⟨b.mono, fun g a o F h q => b.bor g a o F h fun F' e => (q F' e).2⟩
instance {T : Type} {B : Addr → Hp → Prop} {O : T → Addr → HO → Hp → Prop} [c : NotFrz O] : NotFrz (pinD B O) := ⟨fun g a o F h => c.no g a o F h.2⟩
section
variable {ε α β γ δ S S2 T : Type} {Z : Wsh ε} {ρ : List (Option VP)} {κ κr : List Ow} {K : PySem.W.Frag} {te : TE} {t : TA} {u : TS} {i j : Nat} {C : Addr} {ds : Fds} {B Bo : Addr → Hp → Prop} {R : α → VP} {Rb : β → VP} {D : S → Fds} {O mk : T → Addr → HO → Hp → Prop} {κs : S → List Ow} {mg : Wm ε γ} {ρ2 : S2 → List (Option VP)} {κ2 : S2 → List Ow}
end
/-! ### heads -/
section
variable {P : Program} {w : World} {K : PySem.W.Frag} {mg : Str → Option Value} {base : Heap} {γ δ S T : Type} {C : Addr} {D : S → Fds} {O : T → Addr → HO → Hp → Prop}
end
end Tw

/-! Sx2: classes whose constructor may raise; errors of calls that would change an object, told by words; what changes an object, put behind a list. -/
namespace Tw
open PySem PySem.Spec PyProof.Rows L2 SlX StX Rs Ma Sn LmR
variable [Rs.Tabz]
section
variable {X : Cx} {e : Expr} {es : List Expr} {t : TA} {p pos : Pos} {x : Str} {E : XK}
end
section
variable {ε α β γ δ S S1 S2 : Type} {Z : Wsh ε} {ρ : List (Option VP)} {κ : List Ow} {K : PySem.W.Frag} {te : TE} {t : TA} {u : TS} {i j n : Nat} {C : Addr} {ds : Fds} {R : α → VP} {Rb : β → VP} {Rs : γ → List VP} {Y : Wx} {κs : S → List Ow} {ρ2 : S2 → List (Option VP)} {κ2 : S2 → List Ow}
end
section
variable {P : Program} {w : World} {K : PySem.W.Frag} {mg : Str → Option Value} {base : Heap} {γ S0 S1 : Type} {C : Addr} {D0 : S0 → Fds} {D1 : S1 → Fds} {Y : Wx}
end
end Tw

/-! Sx3: a list of one's own whose items change something. -/
namespace Tw
open PySem PySem.Spec PyProof.Rows L2 SlX StX Rs Ma Sn LmR
variable [Rs.Tabz]
section
variable {ε α β γ δ S S1 S2 : Type} {Z : Wsh ε} {ρ : List (Option VP)} {κ : List Ow} {K : PySem.W.Frag} {te : TE} {t : TA} {u : TS} {R : α → VP} {Rd : δ → VP} {κs : S → List Ow} {ρ2 : S2 → List (Option VP)} {κ2 : S2 → List Ow}
end
section
variable {ε β S : Type} {Z : Wsh ε} {ρ : List (Option VP)} {Rb : β → VP} {Y : Wx} {i n : Nat} {C : Addr} {ds : Fds}
end
end Tw

/-! Sx4: an expression with two meanings; constructors that raise. -/
namespace Tw
open PySem PySem.Spec PyProof.Rows L2 SlX StX Rs Ma Sn LmR
variable [Rs.Tabz]
section
variable {ε α β γ δ S S1 S2 : Type} {Z : Wsh ε} {ρ : List (Option VP)} {κ : List Ow} {K : PySem.W.Frag} {te te2 : TE} {t : TA} {u : TS} {R : α → VP} {C : Addr} {Y : Wx} {n : Nat} {Rs : γ → List VP}
end
end Tw

/-! Sx5: tuples of values of many kinds, told item by item (Wv.tp). -/
namespace Tw
open PySem PySem.Spec PyProof.Rows L2 SlX StX Rs Ma Sn LmR
variable [Rs.Tabz]
/-- the items of a tuple that is told -/
def Wv.items : Wv → Option (List Wv)
  | .dat (.tuple ds) => some (ds.map .dat)
  | .tp ws => some ws
  | _ => none
section
variable {ε α β γ δ S : Type} {Z : Wsh ε} {ρ : List (Option VP)} {κ : List Ow} {X : Wx} {te : TE}
end
end Tw

/-! Sx6: sets of whole numbers that may be below 0, sorted. -/
namespace Tw
open PySem PySem.Spec PyProof.Rows L2 SlX StX Rs Ma Sn LmR
variable [Rs.Tabz]
def fSetI (w : World) : List Int → VP := fun xs => Rs.St w xs
instance {w : World} {xs : List Int} : Mono (fSetI w xs) := inferInstanceAs (Mono (Rs.St w xs))
section
variable {ε : Type} {K : PySem.W.Frag} {w : World}
end
end Tw

/-! Sx7: l.count(x), the items data. -/
namespace Tw
open PySem PySem.Spec PyProof.Rows L2 SlX StX Rs Ma Sn LmR
section
variable {X : Cx}
end
variable [Rs.Tabz]
section
variable {ε α : Type} {Z : Wsh ε} {ρ : List (Option VP)} {κ : List Ow} {K : PySem.W.Frag} {te tx : TE}
end
end Tw

/-! Sx8: a tuple of any things, so many times. -/
namespace Tw
open PySem PySem.Spec PyProof.Rows L2 SlX StX Rs Ma Sn LmR
variable [Rs.Tabz]
section
variable {ε α : Type} {K : PySem.W.Frag} {R : α → VP}
end
end Tw

/-! Sx9: a constructor that raises, within try. -/
namespace Tw
open PySem PySem.Spec PyProof.Rows L2 SlX StX Rs Ma Sn LmR
variable [Rs.Tabz]
section
variable {X : Cx} {e : Expr} {es : List Expr} {t : TA} {p pos : Pos} {x : Str} {W : WX}
end
section
variable {α γ S1 : Type} {ρ : List (Option VP)} {κ : List Ow} {K : PySem.W.Frag} {t : TA} {R : α → VP} {C : Addr} {Y : Wx} {n : Nat} {Rs : γ → List VP} {W : WX}
end
end Tw

/-! Sx10: != of lists whose items are alike, by their own ==. -/
namespace NeG
open PySem PySem.SeqAt GQ
open AutoSeq1 (wpAny_loadPart')
open MeetsSeq MeetsSeq2 MeetsSeq3 SeqRoads2
section
variable {prog : Program} {w : World} {A : Around} {R : Result → Shared → Prop}
end
section
variable {prog : Program} {w : World} {A : Around} {E : Value → Shared → Prop} {s : Shared}
end
end NeG
namespace Tw
open PySem PySem.Spec PyProof.Rows L2 SlX StX Rs Ma Sn
section
variable {X : Cx} {α : Type} {Ra : α → VP} {C : Addr} {k : Nat}
end
section
variable {ε α : Type} {K : PySem.W.Frag} {Ra : α → VP}
end
end Tw

/-! Sx11: an object with slots != a value of many kinds. -/
namespace Tw
open PySem PySem.Spec PyProof.Rows L2 SlX StX Rs Ma Sn
variable [Rs.Tabz]
section
variable {X : Cx} {k j : Nat} {C : Addr} {sp : Sp}
end
section
variable {ε α : Type} {K : PySem.W.Frag} {C : Addr} {E : XK} {R : α → VP} {Y : Wx}
end
end Tw

/-! Sx12: a list of anything == []. -/
namespace Tw
open PySem PySem.Spec PyProof.Rows L2 SlX StX Rs Ma Sn Wb
variable [Rs.Tabz]
section
variable {ε α β : Type} {K : PySem.W.Frag} {R : α → VP} {Rb : β → VP}
end
end Tw

/-! Nl0: x[-1:] of a tuple. -/
namespace Tw
open PySem PySem.Spec PyProof.Rows L2 SlX StX Rs Ma
variable [Rs.Tabz]
section
variable {ε α : Type} {Z : Wsh ε} {ρ : List (Option VP)} {κ : List Ow} {K : PySem.W.Frag} {te tx : TE} {R : α → V → Hp → Prop} {ml : Wm ε (List α)} {mx : Wm ε Int}
end
end Tw

/-! Sy3: a law's def that gives what the call gives, or None for its error. -/
namespace Tw
open PySem PySem.Spec PyProof.Rows L2 SlX StX Rs Ma Sn Wb LmR
variable [Rs.Tabz]
section
variable {X : Cx} {Y : Wx}
open LamX in
end
section
variable {ε β : Type} {Z : Wsh ε} {ρ : List (Option VP)} {κ : List Ow} {Y : Wx} {n : Nat} {Rb : β → VP} {t : XK → TE} {mb : Wm Ex β} {P : Addr} {q : Str} {C : Addr}
end
section
variable {ε α : Type} {Z : Wsh ε} {ρ : List (Option VP)} {κ : List Ow} {te : TE} {K : PySem.W.Frag} {R : α → VP}
end
section
variable {ε α : Type} {Z : Wsh ε} {ρ : List (Option VP)} {κ : List Ow} {K : PySem.W.Frag} {te tx : TE} {R : α → V → Hp → Prop} {ml : Wm ε (List α)} {mx : Wm ε Int}
end
end Tw

/-! Sy4: a tuple of two, as a pair. -/
namespace Tw
open PySem PySem.Spec PyProof.Rows L2 SlX StX Rs Ma Sn Wb
variable [Rs.Tabz]
section
variable {ε α : Type} {Z : Wsh ε} {ρ : List (Option VP)} {κ : List Ow} {te : TE} {K : PySem.W.Frag} {R : α → VP}
end
end Tw

/-! Sy5: own dicts by numbers, by comprehensions of two fors. -/
namespace Sn
open PySem PySem.Spec PyProof.Rows L2 SlX StX Rs Ma
variable [Rs.Tabz]
section
variable {X : Cx}
end
end Sn
namespace Tw
open PySem PySem.Spec PyProof.Rows L2 SlX StX Rs Ma Sn
variable [Rs.Tabz]
section
variable {ε α β γ δ η : Type} {Z : Wsh ε} {ρ : List (Option VP)} {κ : List Ow} {K : PySem.W.Frag} {P : Program} {w : World} {tk tv : TE} {tt tt1 : TT} {wi wi1 : L2.TI} {g g1 : TG} {n : Nat} {d : α → PyData} [DecidableEq α] {Rb : β → VP}
end
end Tw

/-! Hk0: keys of programs have different hashes. -/
namespace Tw
open PySem
/-- different numbers, by their last digits -/
def distB : Nat → List Nat → Bool
  | 0, _ => false
  | _ + 1, [] => true
  | _ + 1, [_] => true
  | k + 1, xs => distB k ((xs.filter fun x => Nat.beq (x % 2) 0).map fun x => x / 2) && distB k ((xs.filter fun x => Nat.beq (x % 2) 1).map fun x => x / 2)
theorem nd_split {p : Nat → Bool} : ∀ {xs : List Nat}, (xs.filter p).Nodup → (xs.filter fun x => !p x).Nodup → xs.Nodup
  | [], _, _ => List.nodup_nil
  | x :: xs, h1, h2 => by
    rw [List.filter_cons] at h1 h2
    cases hp : p x with
    | true =>
      rw [hp] at h1 h2
      rw [if_pos rfl] at h1
      rw [if_neg (by decide)] at h2
      obtain ⟨a, b⟩ := List.nodup_cons.mp h1
      exact List.nodup_cons.mpr ⟨fun z => a (List.mem_filter.mpr ⟨z, hp⟩), nd_split b h2⟩
    | false =>
      rw [hp] at h1 h2
      rw [if_neg (by decide)] at h1
      rw [if_pos (by rfl)] at h2
      obtain ⟨a, b⟩ := List.nodup_cons.mp h2
      exact List.nodup_cons.mpr ⟨fun z => a (List.mem_filter.mpr ⟨z, by rw [hp]; rfl⟩), nd_split h1 b⟩
theorem nd_half {xs : List Nat} (h : (xs.map fun x => x / 2).Nodup) : xs.Nodup := List.Pairwise.of_map (fun x => x / 2) (fun a b (n : a / 2 ≠ b / 2) e => n (by rw [e])) h
theorem distB_nd : ∀ {k : Nat} {xs : List Nat}, distB k xs = true → xs.Nodup
  | 0, _, h => by cases h
  | _ + 1, [], _ => List.nodup_nil
  | _ + 1, [x], _ => List.nodup_cons.mpr ⟨(fun z => nomatch z), List.nodup_nil⟩
  | k + 1, a :: b :: t, h => by
    have h : (distB k (((a :: b :: t).filter fun x => Nat.beq (x % 2) 0).map fun x => x / 2) && distB k (((a :: b :: t).filter fun x => Nat.beq (x % 2) 1).map fun x => x / 2)) = true := h
    generalize a :: b :: t = xs at h ⊢
    rw [Bool.and_eq_true] at h
    refine nd_split (p := fun x => Nat.beq (x % 2) 0) (nd_half (distB_nd h.1)) ?_
    have e : (xs.filter fun x => !Nat.beq (x % 2) 0) = xs.filter fun x => Nat.beq (x % 2) 1 := List.filter_congr fun x _ => by
      have : x % 2 = 0 ∨ x % 2 = 1 := by omega
      rcases this with e | e <;> rw [e] <;> rfl
    rw [e]
    exact nd_half (distB_nd h.2)
/-- what stands for a place in a row: nothing, or a state -/
def hO : Option Nat → Int
  | none => reduceHash 0xFCA86420
  | some k => hashInt (k : Int)
def hRow (r : List (Option Nat)) : Int := reduceHash (Builtin.Tuple.tupleHashOf (r.map hO))
def hKey (p : Nat × List (Option Nat)) : Int := reduceHash (Builtin.Tuple.tupleHashOf [hashInt (p.1 : Int), hRow p.2])
def rowsOf (s : Nat) : Nat → List (List (Option Nat))
  | 0 => [[]]
  | k + 1 => (rowsOf s k).flatMap fun r => (none :: (List.range s).map some).map fun x => x :: r
def keysOf (s n : Nat) : List (Nat × List (Option Nat)) := (rowsOf s n).flatMap fun r => ((List.range s).filter fun k => decide (some k ∈ r)).map fun k => (k, r)
def hN (i : Int) : Nat := (i + 2 ^ 63).toNat
/-! the same by the kernel, for so many houses -/
theorem keys1 : distB 64 ((keysOf 6 1).map fun p => hN (hKey p)) = true := by decide +kernel
theorem keys2 : distB 64 ((keysOf 6 2).map fun p => hN (hKey p)) = true := by decide +kernel
theorem keys3 : distB 64 ((keysOf 6 3).map fun p => hN (hKey p)) = true := by decide +kernel
theorem keys4 : distB 64 ((keysOf 6 4).map fun p => hN (hKey p)) = true := by decide +kernel
theorem inj_map {α β : Type} {f : α → β} : ∀ {l : List α}, (l.map f).Nodup → ∀ a ∈ l, ∀ b ∈ l, f a = f b → a = b
  | [], _, a, h, _, _, _ => by cases h
  | x :: l, n, a, ha, b, hb, e => by
    rw [List.map_cons] at n
    obtain ⟨n1, n2⟩ := List.nodup_cons.mp n
    rcases List.mem_cons.mp ha with h1 | h1 <;> rcases List.mem_cons.mp hb with h2 | h2
    · rw [h1, h2]
    · exact absurd (List.mem_map.mpr ⟨b, h2, by rw [← e, h1]⟩) n1
    · exact absurd (List.mem_map.mpr ⟨a, h1, by rw [e, h2]⟩) n1
    · exact inj_map n2 a h1 b h2 e
theorem mem_rows {s : Nat} : ∀ {r : List (Option Nat)} {n : Nat}, r.length = n → (∀ x ∈ r, ∀ k, x = some k → k < s) → r ∈ rowsOf s n
  | [], _, rfl, _ => List.mem_singleton.mpr rfl
  | x :: r, _, rfl, h => by
    show x :: r ∈ (rowsOf s r.length).flatMap _
    refine List.mem_flatMap.mpr ⟨r, mem_rows rfl fun y hy => h y (List.mem_cons_of_mem _ hy), List.mem_map.mpr ⟨x, ?_, rfl⟩⟩
    cases x with
    | none => exact List.mem_cons_self
    | some k => exact List.mem_cons_of_mem _ (List.mem_map.mpr ⟨k, List.mem_range.mpr (h _ List.mem_cons_self k rfl), rfl⟩)
/-- a key of a program for so many houses with so many states -/
def KeyOk (s n : Nat) (p : Nat × List (Option Nat)) : Prop := p.1 < s ∧ p.2.length = n ∧ some p.1 ∈ p.2 ∧ ∀ x ∈ p.2, ∀ k, x = some k → k < s
theorem mem_keys {s n : Nat} {p : Nat × List (Option Nat)} (h : KeyOk s n p) : p ∈ keysOf s n := by
  obtain ⟨h1, h2, h3, h4⟩ := h
  exact List.mem_flatMap.mpr ⟨p.2, mem_rows h2 h4, List.mem_map.mpr ⟨p.1, List.mem_filter.mpr ⟨List.mem_range.mpr h1, decide_eq_true h3⟩, rfl⟩⟩
/-- different keys, different hashes: at most 4 houses, at most 6 states -/
theorem key_apart {n : Nat} (hn : n ≤ 4) {p q : Nat × List (Option Nat)} (hp : KeyOk 6 n p) (hq : KeyOk 6 n q) (e : hKey p = hKey q) : p = q := by
  have go : ∀ m, distB 64 ((keysOf 6 m).map fun p => hN (hKey p)) = true → n = m → p = q := fun m h em => by
    subst em
    exact inj_map (distB_nd h) p (mem_keys hp) q (mem_keys hq) (by rw [e])
  have h0 : n = 0 ∨ n = 1 ∨ n = 2 ∨ n = 3 ∨ n = 4 := by omega
  rcases h0 with h | h | h | h | h
  · obtain ⟨_, h2, h3, _⟩ := hp
    rw [h] at h2
    rw [List.length_eq_zero_iff.mp h2] at h3
    cases h3
  · exact go 1 keys1 h
  · exact go 2 keys2 h
  · exact go 3 keys3 h
  · exact go 4 keys4 h
theorem keys_nd {n : Nat} (hn : n ≤ 4) : ∀ {ks : List (Nat × List (Option Nat))}, ks.Nodup → (∀ p ∈ ks, KeyOk 6 n p) → (ks.map hKey).Nodup
  | [], _, _ => List.nodup_nil
  | p :: ks, nd, h => by
    obtain ⟨n1, n2⟩ := List.nodup_cons.mp nd
    rw [List.map_cons]
    refine List.nodup_cons.mpr ⟨fun z => ?_, keys_nd hn n2 fun q hq => h q (List.mem_cons_of_mem _ hq)⟩
    obtain ⟨q, hq, e⟩ := List.mem_map.mp z
    exact n1 (by rw [key_apart hn (h p List.mem_cons_self) (h q (List.mem_cons_of_mem _ hq)) e.symm]; exact hq)
/-- the hash of a key, as the model's -/
def kO : Option Nat → NestedKey
  | none => .none
  | some k => .num (k : Int)
theorem hashes_row {w : World} : ∀ {r : List (Option Nat)}, NestedKey.hashes w (r.map kO) = r.map hO
  | [] => by simp only [List.map_nil, NestedKey.hashes]
  | x :: r => by
    simp only [List.map_cons, NestedKey.hashes, hashes_row (r := r)]
    cases x <;> simp only [kO, NestedKey.hash, hO]
theorem hash_key {w : World} {p : Nat × List (Option Nat)} : NestedKey.hash w (.tup [.num (p.1 : Int), .tup (p.2.map kO)]) = hKey p := by
  simp only [NestedKey.hash, NestedKey.hashes, hashes_row, hKey, hRow]
end Tw

/-! Sz0: dict(d) of a dict whose keys are tuples. -/
namespace Sn
open PySem PySem.Spec PyProof.Rows L2 SlX StX Rs Ma
variable [Rs.Tabz]
theorem call_dictH {prog : Program} {w : World} {K : Type} [DecidableEq K] {A : Around} {s : Shared} {E : Value → Shared → Prop} {knd : HeapKind prog w K} {o : Addr} {xs : List (K × Addr × Value)} {Q : Value → Shared → Prop} (hoS : (o == sysModules) = false) (hu : knd.room A.in1.in1) (ho : s.heap.DictOfH knd o xs) (hsz : xs.length ≤ sizeLine)
    (hty : ∀ x ∈ xs, s.TypeIs (.ref x.2.1) "tuple") (hap : (xs.map fun x => knd.hash x.1).Nodup)
    (hst : ∀ h', (∀ b o, s.heap.get? b = some o → h'.get? b = some o) → ∀ x ∈ xs, knd.is h' x.1 x.2.1)
    (h : ∀ h', h'.DictOfH knd s.heap.objs.size xs → Heap.SameBut s.heap.objs.size (s.heap.push { cls := .type "dict", data := .dict #[] }) h' → Q (.ref s.heap.objs.size) { s with heap := h' }) :
    wpAny (model prog w) A (call (.type "dict") [.ref o]) Q E s := by
  refine callType_codes (Q₁ := fun obj s₁ => obj = .ref s.heap.objs.size ∧ s₁ = { s with heap := s.heap.push { cls := .type "dict", data := .dict #[] } }) F.kt_called_dict (F.kt_typeCall_dict_1 _) F.entry_dict_init (kt_code_dict_new _ ⟨rfl, rfl⟩) ?_
  rintro obj s₁ ⟨rfl, rfl⟩
  have hnew : (s.heap.push { cls := .type "dict", data := .dict #[] }).DictOfH knd s.heap.objs.size [] := Heap.DictOfH.new s.heap
  have ho' : (s.heap.push { cls := .type "dict", data := .dict #[] }).DictOfH knd o xs := by
    obtain ⟨o1, es, ep, g1, g2, g3, g4, g5, g6⟩ := id ho
    exact ⟨o1, es, ep, Heap.get?_push_of_some _ g1, g2, g3, g4, hst _ fun b o e => Heap.get?_push_of_some _ e, g6⟩
  have hn : (xs.map (·.1)).Nodup := let ⟨_, _, _, _, _, _, _, _, hn⟩ := ho; hn
  have hdo : s.heap.objs.size ≠ o := by
    obtain ⟨_, _, _, hg, _⟩ := ho
    exact fun e => absurd (Heap.lt_size hg) (by rw [e]; exact Nat.lt_irrefl _)
  refine ⟨hnew.typeIs, F.args_dict_init_2 _ _, ?_⟩
  unfold Builtin.«dict.__init__»
  refine wpAny_bind ?_
  unfold Builtin.Dict.selfAndRest
  refine wpAny_bind (wpAny_notOrdered_dict hnew.typeIs ?_)
  show wpAny _ _ (pure (s.heap.objs.size, [Value.ref o])) _ _ _
  refine wpAny_pure ?_
  refine updateFrom_dictH .none hu hdo hoS hnew ho' (.inr ⟨fun x hx => ?_, hap⟩) (by simpa using hsz) fun h' h1 _ h2 => ?_
  · obtain ⟨ob, e1, e2⟩ := hty x hx
    exact ⟨ob, Heap.get?_push_of_some _ e1, e2⟩
  · rw [storedAllH_nil_of_nodup xs hn] at h1
    exact ⟨rfl, h h' h1 h2⟩
def rDictCP (K : PySem.W.Frag) (P : Program) (w : World) : List V → Hp → VK → Prop := fun xs H Q => ∃ (d : Addr) (zs : List Ent), xs = [.ref d] ∧ Rd H d (dictN P w zs d) ∧ (∀ z ∈ zs, KeyAt K H z.1 z.2.1) ∧ (∀ z ∈ zs, ∃ ks, z.1 = .tup ks) ∧ (zs.map fun z => z.1.hash w).Nodup ∧ ∀ p, H p = none → Q (.ref p) (upd H p (dictN P w zs p))
section
variable {X : Cx}
theorem cr_dictCP (hu : X.A.units + 64 < cLine) : CallR X (.type "dict") (rDictCP X.K X.prog X.w) := by
  intro pins s σ H xs us Q I r h
  obtain ⟨d, zs, rfl, hD, hz, ht, hh, q⟩ := h
  rw [Vals.ref1 r]
  obtain ⟨hsys, hlen, ys, rel, dd⟩ := dict_at I hD hz
  have hm : ys.map (·.1) = zs.map (·.1) := by
    have : ∀ {zs : List Ent} {ys : List (NestedKey × Addr × Value)}, Paired EntR zs ys → ys.map (·.1) = zs.map (·.1) := by
      intro zs ys hp
      induction hp with
      | nil => rfl
      | cons r _ ih => rw [List.map_cons, List.map_cons, ih, r.1]
    exact this rel
  have his : ∀ y ∈ ys, (nestedKind X.prog X.w).is s.heap y.1 y.2.1 := let ⟨_, _, _, _, _, _, _, g, _⟩ := dd; g
  have hn : (ys.map (·.1)).Nodup := let ⟨_, _, _, _, _, _, _, _, g⟩ := dd; g
  refine call_dictH (knd := nestedKind X.prog X.w) hsys (by show X.A.units + 1 + 1 + 8 < cLine; omega) dd (by rw [← rel.length, sizeLine_eq]; omega) (fun y hy => ?_) ?_ (fun h' hk y hy => nestedKind_stays.stays (fun b o vs n e _ => hk b o e) (his y hy)) fun h' h1 h2 => ?_
  · have hk : y.1 ∈ zs.map (·.1) := by rw [← hm]; exact List.mem_map.mpr ⟨y, hy, rfl⟩
    obtain ⟨z, hz1, hz2⟩ := List.mem_map.mp hk
    obtain ⟨ks, e⟩ := ht z hz1
    have n := (his y hy).1
    rw [← hz2, e] at n
    cases n with
    | tup g1 g2 g3 _ => exact ⟨_, g1, g2⟩
  · have e : ys.map (fun x => (nestedKind X.prog X.w).hash x.1) = zs.map fun z => z.1.hash X.w := by
      have := congrArg (List.map fun k : NestedKey => k.hash X.w) hm
      rw [List.map_map, List.map_map] at this
      exact this
    rw [e]
    exact hh
  · have keep : ∀ b o, s.heap.get? b = some o → h'.get? b = some o := fun b o e => (h2.2 b (Nat.ne_of_lt (Heap.lt_size e))).trans (Heap.get?_push_of_some _ e)
    have hge : s.heap.objs.size ≤ s.heap.objs.size := Nat.le_refl _
    obtain ⟨o, es3, ep3, g1, g2, g3, g4, _, g6⟩ := h1
    have ns : (s.heap.objs.size == sysModules) = false := beq_eq_false_iff_ne.mpr (Ne.symm (Nat.ne_of_lt (Nat.lt_of_lt_of_le I.big hge)))
    exact ⟨.ref s.heap.objs.size, upd H s.heap.objs.size (dictN X.prog X.w zs s.heap.objs.size), I.laid (t' := s.toks) keep hge (dictN_new ⟨ns, hlen, ys, rel, o, es3, ep3, g1, g2, g3, g4, g6⟩), rfl, q _ (I.hok.fresh hge)⟩
variable {e : Expr} {es : List Expr} {t : TA} {p pos : Pos} {j : Nat}
theorem p_dictCP (hr : Room j X.A) (B : Bf X.mg) (ha : PA X (e :: es) t) (hg : Gl X "dict" := by rfl) (he : starEach (e :: es) X.env = (false, eval e X.env) :: starEach es X.env := by rfl) (hpl : (backTo pos (starEach es X.env)).any (·.1) = false := by rfl) :
    PE X (.Call (.Name "dict" p) (e :: es) [] pos) (tCB (rDictCP X.K X.prog X.w) t) := pe_callTy (cr_dictCP hr.units) hg B.dict boot_dict ha (by decide) (by decide) he hpl
def rDictDI : List V → Hp → VK → Prop := fun xs H Q => ∃ (a : Addr) (kvs : List (Key × V)), xs = [.ref a] ∧ Rd H a (.dK kvs) ∧ ∀ p, H p = none → Q (.ref p) (upd H p (.dK kvs))
theorem p_dictDI (B : Bf X.mg) (ha : PA X (e :: es) t) (hg : Gl X "dict" := by rfl) (he : starEach (e :: es) X.env = (false, eval e X.env) :: starEach es X.env := by rfl) (hpl : (backTo pos (starEach es X.env)).any (·.1) = false := by rfl) :
    PE X (.Call (.Name "dict" p) (e :: es) [] pos) (tCB rDictDI t) := pe_callTy (show CallR X (.type "dict") rDictDI from call_dictD) hg B.dict boot_dict ha (by decide) (by decide) he hpl
end
end Sn
namespace Tw
open PySem PySem.Spec PyProof.Rows L2 SlX StX Rs Ma Sn
variable [Rs.Tabz]
section
variable {ε α β : Type} [DecidableEq α] {Z : Wsh ε} {ρ : List (Option VP)} {κ : List Ow} {K : PySem.W.Frag} {P : Program} {w : World} {te : TE} {d : α → PyData} {n : Nat} [c : Keyd d n] {R : β → VP}
/-- dict(d), a new dict of one's own: keys are tuples, their hashes differ -/
theorem tm_dictCP [∀ b, Mono (R b)] (hk : ∀ a : α, ∃ ks, c.key a = .tup ks) {ml : Wm ε (List (α × β))} (h : TrE Z ρ κ te ml (fDK K P w d R)) : TrM Z ρ κ (tCB (rDictCP K P w) (tCons te tNil)) (fun Q X => ml (fun kvs => (kvs.map fun p => (c.key p.1).hash w).Nodup ∧ Q kvs) X) (fun kvs => ownDP K P w d R kvs) :=
  ⟨fun σ F L s cc Q X q F1 N H e A wsh Qk qk => h.run σ F L s cc _ X q F1 N H e A wsh _ fun v F2 H2 e2 A2 ⟨kvs, ⟨q0, q1⟩, r⟩ => by
    obtain ⟨D, zs, rfl, hD, he, hnd⟩ := r
    have ek : zs.map (·.1) = kvs.map fun p => c.key p.1 := by rw [entAll_fst he, List.map_map]; rfl
    refine ⟨D, zs, rfl, rd_up A2.ex hD, fun z hz => keyAt_up A2.ex (entAll_keys he z hz), fun z hz => ?_, ?_, fun p hp => ?_⟩
    · have m : z.1 ∈ kvs.map fun p => c.key p.1 := by rw [← ek]; exact List.mem_map.mpr ⟨z, hz, rfl⟩
      obtain ⟨p, _, e⟩ := List.mem_map.mp m
      rw [← e]; exact hk p.1
    · have := congrArg (List.map fun k : NestedKey => k.hash w) ek
      rw [List.map_map, List.map_map] at this
      have e : zs.map (fun z => z.1.hash w) = kvs.map fun p => (c.key p.1).hash w := this
      rw [e]; exact q0
    · exact qk p _ F2 _ kvs e2 (A2.cell hp dictN_notTup dictN_notTbl dictN_ne) (fun F' e' => ⟨zs, rfl, entAll_up e' he, hnd⟩) q1⟩
/-- dict(d), keys numbers: a new dict of one's own -/
theorem tm_dictDI {ε α β : Type} [DecidableEq α] {Z : Wsh ε} {ρ : List (Option VP)} {κ : List Ow} {te : TE} {d : α → PyData} [c : NumK d] {R : β → VP} [∀ b, Mono (R b)] {ml : Wm ε (List (α × β))} (h : TrE Z ρ κ te ml (fDI d R)) : TrM Z ρ κ (tCB rDictDI (tCons te tNil)) ml (fun kvs => ownDI d R kvs) :=
  ⟨fun σ F L s cc Q X q F1 N H e A wsh Qk qk => h.run σ F L s cc _ X q F1 N H e A wsh _ fun v F2 H2 e2 A2 ⟨kvs, q1, r⟩ => by
    obtain ⟨D, zs, rfl, hD, he, hnd⟩ := r
    exact ⟨D, zs, rfl, rd_up A2.ex hD, fun p hp => qk p _ F2 _ kvs e2 (A2.cell hp) (fun F' e' => ⟨zs, rfl, relD_up e' he, hnd⟩) q1⟩⟩
end
end Tw

/-! Sz1: {**d, k: v}, keys that are tuples. -/
namespace Sn
open PySem PySem.Spec PyProof.Rows L2 SlX StX Rs Ma
section
variable {prog : Program} {w : World} {K : Type} [DecidableEq K] {A : Around} {s : Shared} {E : Value → Shared → Prop} {knd : HeapKind prog w K}
end
end Sn
namespace Sn
open PySem PySem.Spec PyProof.Rows L2 SlX StX Rs Ma
section
variable {prog : Program} {w : World} {A : Around} {s : Shared} {E : Value → Shared → Prop}
end
end Sn
namespace Sn
open PySem PySem.Spec PyProof.Rows L2 SlX StX Rs Ma
variable [Rs.Tabz]
section
variable {X : Cx}
end
end Sn
namespace Tw
open PySem PySem.Spec PyProof.Rows L2 SlX StX Rs Ma Sn
variable [Rs.Tabz]
section
variable {ε α β : Type} [DecidableEq α] {Z : Wsh ε} {ρ : List (Option VP)} {κ : List Ow} {K : PySem.W.Frag} {P : Program} {w : World} {td tk tv : TE} {d : α → PyData} {n : Nat} [c : Keyd d n] [t : TupD d] {R : β → VP}
end
end Tw

/-! Sz2: x = {k: v for ..}, keys that are tuples. -/
namespace Sn
open PySem PySem.Spec PyProof.Rows L2 SlX StX Rs Ma
variable [Rs.Tabz]
section
variable {X : Cx}
end
end Sn
namespace Sn
open PySem PySem.Spec PyProof.Rows L2 SlX StX Rs Ma
variable [Rs.Tabz]
end Sn
namespace Tw
open PySem PySem.Spec PyProof.Rows L2 SlX StX Rs Ma Sn
variable [Rs.Tabz]
section
variable {ε S δ : Type} {Z : Wsh ε} {ρ : List (Option VP)} {κ : List Ow} {Rd : δ → VP} {ρ2 : S → List (Option VP)} {κ2 : S → List Ow} {u : TS}
end
end Tw

/-! Sz3: [a, b] == [] of unlike things; an expression that is never asked. -/
namespace Tw
open PySem PySem.Spec PyProof.Rows L2 SlX StX Rs Ma Sn Wb
variable [Rs.Tabz]
section
variable {ε α β γ : Type} {K : PySem.W.Frag} {Ra : α → VP} {Rb : β → VP} {Rc : γ → VP} {Z : Wsh ε} {ρ : List (Option VP)} {κ : List Ow} {te : TE}
end
section
variable {ε α β : Type} [DecidableEq α] {K : PySem.W.Frag} {P : Program} {w : World} {d : α → PyData} {n : Nat} [c : Keyd d n] {R : β → VP}
/-- list(d), a new list -/
theorem c_listDKl [∀ b, Mono (R b)] : Cb ε (rListDK K P w) (fun kvs : List (α × β) => [fDK K P w d R kvs]) (fun kvs => pur (kvs.map (·.1))) (fLn (fD K d)) := .of fun kvs vs F L hv Q X q => by
  obtain ⟨v, rfl, hx⟩ := each1 hv
  obtain ⟨D, zs, ev, hD, he, hnd⟩ := hx
  refine ⟨_, q, fun F1 N H e A Qk qk => ⟨D, zs, by rw [ev], rd_up (e.trans A.ex) hD, fun z hz => keyAt_up (e.trans A.ex) (entAll_keys he z hz), fun p hp => qk _ (upd F1 p _) _ (same_new (A.free hp)) (A.new hp) ?_⟩⟩
  refine ⟨p, _, rfl, upd_same, ?_⟩
  rw [List.map_map]
  exact entAll_refs (entAll_up (e.trans (same_new (A.free hp))) he)
end
section
variable {δ S S1 : Type} {ρ : List (Option VP)} {κ : List Ow} {K : PySem.W.Frag} {Rd : δ → VP} {n : Nat} {ρ1 : S1 → List (Option VP)} {κ1 : S1 → List Ow} {ρ2 : S → List (Option VP)} {κ2 : S → List Ow}
end
end Tw

/-! Sz4: methods that may raise, inside a try whose handler still knows the slots. -/
namespace Tw
open PySem PySem.Spec PyProof.Rows L2 SlX StX Rs Ma Sn LmR
variable [Rs.Tabz]
section
variable {X : Cx} {o e : Expr} {es : List Expr} {m : Str} {pos apos : Pos} {ta : TE} {t : TA} {W : WX}
end
section
variable {α γ δ S S1 : Type} {ρ : List (Option VP)} {κ : List Ow} {K : PySem.W.Frag} {Y : Wx} {ta : TE} {t : TA} {ma : Wm Ex α} {mg : Wm Ex γ} {Ra : α → VP} {Rs : γ → List VP} {Rd : δ → VP} {W : WX} {ρ1 : S1 → List (Option VP)} {κ1 : S1 → List Ow} {ρ2 : S → List (Option VP)} {κ2 : S → List Ow}
end
end Tw

/-! Sz5: dict(xs) of pairs whose keys may be alike; list(d.items()); keys that are tuples. -/
namespace Sn
open PySem PySem.Spec PyProof.Rows L2 SlX StX Rs Ma Tw
variable [Rs.Tabz]
def tItemsL (K : PySem.W.Frag) (P : Program) (w : World) (te : TE) : TE := fun σ H Q => te σ H fun x H1 => ∃ d zs, x = .ref d ∧ Rd H1 d (dictN P w zs d) ∧ (∀ z ∈ zs, KeyAt K H1 z.1 z.2.1) ∧
  ∀ (S : Addr) (as : List Addr) (H2 : Hp), H1 S = none → as.length = zs.length → (∀ b o, upd H1 S (.lst (as.map V.ref)) b = some o → H2 b = some o) → (∀ (j : Nat) (a : Addr), as[j]? = some a → ∃ z, zs[j]? = some z ∧ H1 a = none ∧ a ≠ S ∧ H2 a = some (.tup [.ref z.2.1, z.2.2])) → Q (.ref S) H2
section
variable {X : Cx}
variable {e : Expr} {es : List Expr} {t : TA} {p pos : Pos} {j : Nat}
end
theorem paired_get {α β : Type} {R : α → β → Prop} : ∀ {xs : List α} {ys : List β}, Paired R xs ys → ∀ {i : Nat} {x : α}, xs[i]? = some x → ∃ y, ys[i]? = some y ∧ R x y
  | _, _, .nil, _, _, h => by cases h
  | _, _, .cons (a := a) (b := b) r t, i, x, h => by
    cases i with
    | zero => cases h; exact ⟨b, rfl, r⟩
    | succ i => exact paired_get t (by simpa using h)
theorem p_itemsL {X : Cx} {e : Expr} {te : TE} {p2 apos cpos pos2 : Pos} (K : PySem.W.Frag) (P : Program) (w : World) (hc : X.calm = true) (B : Bf X.mg) (he : PE X e te) (hg2 : Gl X "list" := by rfl)
    (hbase : attributeBase e "items" X.env (eval e X.env) = eval e X.env := by rfl) (hline : (apos.endLine == cpos.line) = true := by rfl)
    (hs2 : starEach [Expr.Call (.Attribute e "items" apos) [] [] cpos] X.env = [(false, eval (Expr.Call (.Attribute e "items" apos) [] [] cpos) X.env)] := by rfl) (hK : X.K = K := by rfl) (hP : X.prog = P := by rfl) (hw : X.w = w := by rfl) :
    PE X (.Call (.Name "list" p2) [.Call (.Attribute e "items" apos) [] [] cpos] [] pos2) (tItemsL K P w te) := by
  subst hK hP hw
  refine ⟨fun pins s σ H Q I h => ?_⟩
  refine wpAny_Call_Name_kw (ld_blt I hg2 B.list boot_list ?_ (by decide) (by decide))
  refine PyProof.Rows.callWith_type1 ?_ (by rw [hs2]; rfl) (by rfl)
  rw [hs2]
  show wpAny _ _ (spliced [(false, eval (Expr.Call (.Attribute e "items" apos) [] [] cpos) X.env)]) _ _ s
  refine Calls.spliced_cons ?_
  refine wpAny_Call_method (T := "dict") (id := "dict.items") hbase rfl hline F.plainAttrs_dict F.slot_dict_items F.type_dict_items (thn (he.run pins s σ H _ I h) fun u s1 ⟨x, H1, I1, rx, d, zs, ex, hD, hz, q⟩ => ?_)
  subst ex
  obtain rfl : u = Value.ref d := rx
  obtain ⟨hsys, hlen, ys, rel, dd⟩ := dict_at I1 hD hz
  obtain ⟨es, ep, hraw, hsz, ent⟩ := dd.raw
  refine ⟨hraw.typeIs, fun b eb => by cases eb; obtain ⟨o, ho, hx, _⟩ := hraw; exact ⟨o, ho, hx.2.1⟩, ?_⟩
  show wpAny _ _ (callWith cpos (.builtin "dict.items") [.ref d] [] []) _ X.xe s1
  refine method_meetsIn F.slot_dict_items F.entry_dict_items rfl (PySem.evalArgs_none ⟨rfl, hraw.typeIs, F.args_dict_items_1 _, _, meets_dict_items_raw d hsys, ⟨es, ep, hraw⟩, ?_⟩)
  refine wpAny_pure ?_
  have hh : X.A.handled = none := I1.ok.hd hc
  have hyl : ys.length ≤ sizeLine := by rw [← rel.length, sizeLine_eq]; omega
  have k1 : ∀ b o, s1.heap.get? b = some o → (s1.heap.push { cls := .type "dict_items", data := .fields #[.ref d] }).get? b = some o := fun b o e => Heap.get?_push_of_some _ e
  refine PySem.W.dil_call (es := es) (ep := ep) (d := d) hh ⟨_, Heap.get?_push_size _ rfl, rfl, rfl⟩ (hraw.at fun o e => k1 _ _ e) (by rw [hsz]; exact hyl) (fun h2 tk2 acc c as hk hS hl hG hacc => ?_)
  have k2 : ∀ b o, s1.heap.get? b = some o → h2.get? b = some o := fun b o e => hk b o (k1 b o e)
  have hsa : as.length = zs.length := by rw [hl, hsz, ← rel.length]
  obtain ⟨S, hS'⟩ : ∃ S, S = (s1.heap.push { cls := .type "dict_items", data := .fields #[.ref d] }).objs.size := ⟨_, rfl⟩
  rw [← hS'] at hS hG ⊢
  have hge : s1.heap.objs.size ≤ S := by
    rw [hS']
    show s1.heap.objs.size ≤ (s1.heap.objs.push _).size
    rw [Array.size_push]
    exact Nat.le_succ _
  have eb : Vals (as.map V.ref) acc.toList := by rw [hacc]; exact vals_refs _
  have I2 : Inv X pins σ (upd H1 S (.lst (as.map V.ref))) { s1 with heap := h2, toks := tk2 } := I1.laid (t' := tk2) (o := .lst (as.map V.ref)) k2 hge ⟨by rw [List.length_map, hsa, rel.length]; exact hyl, acc.toList, c, eb, by rw [Array.toArray_toList]; exact hS⟩
  have nd : as.Nodup := hG.rise.imp fun h => Nat.ne_of_lt h
  obtain ⟨H2, I3, g, qq⟩ := L2.DX.takeT (P := fun a vs => ∃ (j : Nat) (z : Ent), as[j]? = some a ∧ zs[j]? = some z ∧ vs = [.ref z.2.1, z.2.2]) I1 as _ I2 nd fun a ha => by
    obtain ⟨j, hj⟩ := List.mem_iff_getElem?.mp ha
    obtain ⟨hjs, hobj⟩ := hG.pairs j a hj
    have hlt := hG.above a ha
    obtain ⟨y, hy, ek, ev, _⟩ := ent j hjs
    obtain ⟨z, hz1, hr⟩ : ∃ z, zs[j]? = some z ∧ EntR z y := by
      have hjz : j < zs.length := by rw [← hsa]; exact (List.getElem?_eq_some_iff.mp hj).1
      obtain ⟨y', hy', r⟩ := paired_get rel (List.getElem?_eq_getElem hjz)
      rw [hy] at hy'
      cases hy'
      exact ⟨_, List.getElem?_eq_getElem hjz, r⟩
    obtain ⟨r1, r2, r3⟩ := hr
    have hga : s1.heap.objs.size ≤ a := Nat.le_trans hge (Nat.le_of_lt hlt)
    refine ⟨hga, by rw [upd_ne (Nat.ne_of_gt hlt)]; exact I1.hok.fresh hga, [.ref z.2.1, z.2.2], ⟨j, z, hj, hz1, rfl⟩, fun H2 => ⟨by simp [sizeLine_eq], [.ref y.2.1, y.2.2], .cons (by rw [r2]; rfl) (.cons r3 .nil), ⟨_, by rw [hobj, ek, ev], rfl, 0, rfl⟩⟩⟩
  refine ⟨.ref S, H2, I3, rfl, q S as H2 (I1.hok.fresh hge) hsa g fun j a hj => ?_⟩
  obtain ⟨vs, ⟨j', z, e1, e2, e4⟩, hH⟩ := qq a (List.mem_of_getElem? hj)
  subst e4
  have hjj : j = j' := (List.getElem?_inj (List.getElem?_eq_some_iff.mp hj).1 nd).mp (hj.trans e1.symm)
  subst hjj
  have hlt := hG.above a (List.mem_of_getElem? hj)
  exact ⟨z, e2, I1.hok.fresh (Nat.le_trans hge (Nat.le_of_lt hlt)), Nat.ne_of_gt hlt, hH⟩
end Sn
namespace Tw
open PySem PySem.Spec PyProof.Rows L2 SlX StX Rs Ma Sn
variable [Rs.Tabz]
section
variable {ε α β : Type} [DecidableEq α] {Z : Wsh ε} {ρ : List (Option VP)} {κ : List Ow} {K : PySem.W.Frag} {P : Program} {w : World} {te : TE} {d : α → PyData} {n : Nat} [c : Keyd d n] [t : TupD d] {R : β → VP}
end
section
variable {ε α β : Type} {Z : Wsh ε} {ρ : List (Option VP)} {κ : List Ow} {K : PySem.W.Frag} {P : Program} {w : World} {te : TE} [DecidableEq α] {d : α → PyData} {n : Nat} [c : Keyd d n] {R : β → VP}
theorem tr_itemsL [∀ b, Mono (R b)] {m : Wm ε (List (α × β))} (h : TrE Z ρ κ te m (fDKZ K P w d R)) : TrE Z ρ κ (tItemsL K P w te) m (fLn (fP K (fD K d) R)) :=
  ⟨inferInstance, fun σ F L s cc Q X q F1 N H e A wsh Qk qk => h.run σ F L s cc _ X q F1 N H e A wsh _ fun v F2 H2 e2 A2 ⟨kvs, q1, D, o, zs, ev, hD, hent, hnd⟩ => by
    refine ⟨D, zs, ev, .inr ⟨o, A2.ex _ _ hD⟩, fun z hz => keyAt_up A2.ex (entAll_keys hent z hz), fun S as H3 hS hal kp hp => ?_⟩
    have hS3 : H3 S = some (.lst (as.map V.ref)) := kp _ _ upd_same
    have hat : ∀ c ∈ as, H2 c = none ∧ c ≠ S ∧ ∃ o, H3 c = some o := fun c hc => by
      obtain ⟨j, hj⟩ := List.mem_iff_getElem?.mp hc
      obtain ⟨z, _, h1, h2, h3⟩ := hp j c hj
      exact ⟨h1, h2, _, h3⟩
    have same : Same F2 (grow F2 S as H3) := fun c o ec => by
      unfold grow
      have hc := A2.ex c o ec
      rw [if_neg (fun z => by rw [z, hS] at hc; cases hc), if_neg (fun z => by rw [(hat c z).1] at hc; cases hc)]
      exact ec
    have k23 : ∀ c o, H2 c = some o → H3 c = some o := fun c o ec => kp c o (by rw [upd_ne (fun z => by rw [z, hS] at ec; cases ec)]; exact ec)
    have A3 : At (grow F2 S as H3) (L ++ N) H3 := by
      refine ⟨fun c o ec => ?_, fun p hm => k23 _ _ (A2.on p hm), fun p hm => ?_, A2.nd, A2.nt, A2.nb, A2.nc, (show TabT F2 H3 from fun P hP => (A2.tb P hP).imp fun ps h => ⟨k23 _ _ h.1, h.2⟩).same same, fun P hP => by
        unfold grow
        rw [if_neg (A2.notT hP (.inl hS)), if_neg (fun z => by
          obtain ⟨ps, e, _⟩ := A2.tb P hP
          rw [(hat P z).1] at e; cases e)]
        exact A2.ft P hP⟩
      · unfold grow at ec
        split at ec
        · exact ec
        · split at ec
          · exact ec
          · exact k23 _ _ (A2.ex _ _ ec)
      · have h1 := A2.on p hm
        unfold grow
        rw [if_neg (fun z => by rw [z, hS] at h1; cases h1), if_neg (fun z => by rw [(hat _ z).1] at h1; cases h1)]
        exact A2.off p hm
    refine qk _ _ H3 (e2.trans same) A3 ⟨kvs, q1, S, as.map V.ref, rfl, by unfold grow; rw [if_pos rfl]; exact hS3, ?_⟩
    have el := entAll_len hent
    have step : ∀ (m : Nat) (bs : List Addr), (∀ (j : Nat) (c : Addr), bs[j]? = some c → as[m + j]? = some c) → bs.length + m = zs.length → ∀ (zs' : List Ent) (ks : List (α × β)), zs' = zs.drop m → EntAll K d R zs' ks F2 → Each (ks.map (fP K (fD K d) R)) (bs.map V.ref) (grow F2 S as H3) := by
      intro m bs
      induction bs generalizing m with
      | nil =>
        intro _ hlen zs' ks e1 e2
        rw [List.drop_eq_nil_of_le (by simp at hlen; omega)] at e1
        subst e1
        cases ks with
        | nil => exact True.intro
        | cons _ _ => exact e2.elim
      | cons cc bs ih =>
        intro hb hlen zs' ks e1 e2
        simp only [List.length_cons] at hlen
        have hx : m < zs.length := by omega
        rw [List.drop_eq_getElem_cons hx] at e1
        subst e1
        cases ks with
        | nil => exact e2.elim
        | cons k ks =>
          have hc : as[m]? = some cc := by
            have := hb 0 cc rfl
            rwa [Nat.add_zero] at this
          obtain ⟨z, h1, h3, h4, h5⟩ := hp m cc hc
          rw [List.getElem?_eq_getElem hx] at h1
          cases h1
          obtain ⟨⟨g1, g2, g3⟩, g4⟩ := e2
          refine ⟨⟨cc, [.ref zs[m].2.1, zs[m].2.2], rfl, .inl (.inl (by unfold grow; rw [if_neg h4, if_pos (List.mem_of_getElem? hc)]; exact h5)), ?_, Mono.go g3 same, True.intro⟩, ih (m + 1) (fun j d hj => by have := hb (j + 1) d (by rw [List.getElem?_cons_succ]; exact hj); rwa [show m + 1 + j = m + (j + 1) from by omega]) (by omega) _ ks rfl g4⟩
          have := (keyAt_up same g2).1
          rw [g1, c.ok] at this
          exact this
    exact step 0 as (fun j c hj => by rwa [Nat.zero_add]) (by omega) zs kvs rfl hent⟩
end
end Tw

/-! Qh0: == of dicts whose keys are objects. -/
namespace QH
open PySem PySem.Spec PyProof.Rows PySem.W
section
variable {prog : Program} {w : World} {K : Type} [DecidableEq K] {knd : HeapKind prog w K} {A : Around} {E : Value → Shared → Prop} {s : Shared}
inductive Hits {K : Type} [DecidableEq K] (A : Around) (s : Shared) (kb : List (K × Addr × Value)) : List (K × Addr × Value) → Bool → Prop
  | nil : Hits A s kb [] true
  | miss {p : K × Addr × Value} {r : List (K × Addr × Value)} : atKey kb p.1 = none → Hits A s kb (p :: r) false
  | hit {p : K × Addr × Value} {q : Addr × Value} {r : List (K × Addr × Value)} {e b : Bool} : atKey kb p.1 = some q → SeqAt.EqAt A s p.2.2 q.2 e → Hits A s kb r b → Hits A s kb (p :: r) (e && b)
theorem Hits.inv {kb : List (K × Addr × Value)} {p : K × Addr × Value} {r : List (K × Addr × Value)} {b : Bool} (h : Hits A s kb (p :: r) b) :
    (atKey kb p.1 = none ∧ b = false) ∨ ∃ q e b', atKey kb p.1 = some q ∧ SeqAt.EqAt A s p.2.2 q.2 e ∧ Hits A s kb r b' ∧ b = (e && b') := by
  cases h with
  | miss hn => exact .inl ⟨hn, rfl⟩
  | hit hy he hr => exact .inr ⟨_, _, _, hy, he, hr, rfl⟩
theorem samePairs {nm : String} {a b : Addr} {ka kb : List (K × Addr × Value)} {r : Bool} {Q : Bool → Shared → Prop} (hu : knd.room A) (ha : (a == sysModules) = false) (hb : (b == sysModules) = false)
    (da : s.heap.DictOfH knd a ka) (db : s.heap.DictOfH knd b kb) (hits : ka.length = kb.length → Hits A s kb ka r) (h : Q (ka.length == kb.length && r) s) :
    wpAny (model prog w) A (Builtin.Dict.samePairs nm a b) Q E s := by
  obtain ⟨oa, es, ep, hoa, _, hda, hea, hia, hna⟩ := da
  obtain ⟨ob, es', ep', hob, _, hdb, heb, hib, hnb⟩ := db
  have hla : ka.length = es.size := (size_of_entries hea).symm
  have hlb : kb.length = es'.size := (size_of_entries heb).symm
  rw [hla, hlb] at h
  unfold Builtin.Dict.samePairs Builtin.Dict.showsAll
  rw [if_neg (show ¬ (a == sysModules) = true by rw [ha]; exact Bool.false_ne_true), if_neg (show ¬ (b == sysModules) = true by rw [hb]; exact Bool.false_ne_true)]
  refine wpAny_bind (wpAny_pure (wpAny_bind (wpAny_pure ?_)))
  refine wpAny_bind (wpAny_dictEntries hoa hda ?_)
  dsimp only
  refine wpAny_bind (wpAny_dictEntries hob hdb ?_)
  by_cases hsz : es.size = es'.size
  case neg =>
    rw [if_pos (by simpa using hsz)]
    have hbf : (es.size == es'.size) = false := by simpa using hsz
    rw [hbf, Bool.false_and] at h
    exact wpAny_bind (wpAny_rule (wpAny_pure h))
  case pos =>
    have h' : Q r s := by simpa [hsz] using h
    have hits' := hits (by rw [hla, hlb]; exact hsz)
    rw [if_neg (by rw [hsz]; simp)]
    refine wpAny_bind (wpAny_dictEpoch hoa hda ?_)
    refine wpAny_bind ?_
    rw [Std.Legacy.Range.forIn_eq_forIn_range']
    simp only [Std.Legacy.Range.size, Nat.sub_zero, Nat.add_sub_cancel, Nat.div_one]
    refine wpAny_forIn_list _
      (fun rest q s' => s' = s ∧ q = (none, ()) ∧ ∃ i, rest = List.range' i (es.size - i) ∧ i ≤ es.size ∧ Hits A s kb (ka.drop i) r)
      _ ?_ ?_ _ _ ⟨rfl, rfl, 0, by simp, Nat.zero_le _, hits'⟩
    · rintro x rest q s' ⟨rfl, rfl, i, hr, hi, hpre⟩
      have hlt : i < es.size := by
        rcases Nat.lt_or_ge i es.size with h | h
        · exact h
        · rw [Nat.sub_eq_zero_of_le h] at hr; simp at hr
      obtain ⟨rfl, hrest⟩ : x = i ∧ rest = List.range' (i + 1) (es.size - (i + 1)) := by
        have e : es.size - i = (es.size - (i + 1)) + 1 := by omega
        rw [e, List.range'_succ] at hr
        injection hr with h1 h2
        exact ⟨h1, h2⟩
      refine wpAny_bind (wpAny_dictEntries hoa hda ?_)
      have hlt' : x < ka.length := by rw [hla]; exact hlt
      have hent : es[x]? = some (entryOfKey knd ka[x]) := by rw [entry_at hea x, List.getElem?_eq_getElem hlt']; rfl
      rw [hent]
      have hdrop : ka.drop x = ka[x] :: ka.drop (x + 1) := List.drop_eq_getElem_cons hlt'
      have hmem : ka[x] ∈ ka := List.getElem_mem hlt'
      generalize ka[x] = p at hent hdrop hmem
      rw [hdrop] at hpre
      dsimp only [entryOfKey]
      refine wpAny_bind (wpAny_holding ?_)
      refine wpAny_bind (wpAny_dictFind_heap hu (hia p hmem) hob hdb heb hib hnb ?_ ?_)
      · intro hno
        rcases hpre.inv with ⟨_, er⟩ | ⟨y, _, _, hy, _⟩
        · rw [er] at h'
          refine wpAny_pure ?_
          show wpAny _ _ (if (!false) = true then _ else _) _ _ _
          rw [if_pos (by decide)]
          exact wpAny_pure (wpAny_pure h')
        · rw [atKey_none_of_get hno] at hy; exact nomatch hy
      · intro j q hj
        have hv' : atKey kb p.1 = some q := atKey_of_get hnb hj
        have hjl : j < kb.length := (List.getElem?_eq_some_iff.mp hj).1
        have hent' : es'[j]? = some (entryOfKey knd (p.1, q)) := by rw [entry_at heb j, hj]; rfl
        refine wpAny_bind (wpAny_dictEntries hob hdb ?_)
        rw [hent']
        rcases hpre.inv with ⟨hn, _⟩ | ⟨y, e, b', hy, he, hrr, er⟩
        · rw [hv'] at hn; exact nomatch hn
        · have ey : q = y := Option.some.inj (hv'.symm.trans hy)
          rw [← ey] at he
          refine wpAny_holding (he prog w _ _ ?_)
          cases e with
          | false =>
            rw [er, Bool.false_and] at h'
            show wpAny _ _ (if (!false) = true then _ else _) _ _ _
            rw [if_pos (by decide)]
            exact wpAny_pure (wpAny_pure h')
          | true =>
            rw [Bool.true_and] at er
            rw [← er] at hrr
            show wpAny _ _ (if (!true) = true then _ else _) _ _ _
            rw [if_neg (by decide)]
            refine wpAny_bind (wpAny_dictEpoch hoa hda ?_)
            rw [if_neg (by simp)]
            exact wpAny_pure ⟨rfl, rfl, x + 1, hrest, hlt, hrr⟩
    · rintro q s' ⟨rfl, rfl, i, hr, hi, hpre⟩
      have hin : i = es.size := by
        rcases Nat.lt_or_ge i es.size with h | h
        · have e : es.size - i = (es.size - (i + 1)) + 1 := by omega
          rw [e, List.range'_succ] at hr; exact nomatch hr
        · exact Nat.le_antisymm hi h
      refine wpAny_pure ?_
      rw [hin, ← hla, List.drop_length] at hpre
      cases hpre
      exact h'
theorem dict_eq {a b : Addr} {ka kb : List (K × Addr × Value)} {r : Bool} {Q : Value → Shared → Prop} (ha : (a == sysModules) = false) (hb : (b == sysModules) = false)
    (da : s.heap.DictOfH knd a ka) (db : s.heap.DictOfH knd b kb) (hu : A.units < cLine) (hk : knd.room A.in1) (hits : ka.length = kb.length → Hits A.in1 s kb ka r) (h : Q (.bool (ka.length == kb.length && r)) s) :
    wpAny (model prog w) A (richCompare .Eq (.ref a) (.ref b)) Q E s := by
  refine wpAny_richCompare_same_room (op := .Eq) da.typeIs db.typeIs PySem.F.slot_dict_eq (wpAny_call_entry PySem.F.slot_dict_eq da.typeIs PySem.F.entry_dict_eq ?_ (PySem.F.args_dict_eq_2 _ _)) hu
  show wpAny _ _ (Builtin.Dict.dictSlotArgs "__eq__" ⟨[.ref a, .ref b], []⟩ >>= _) _ _ s
  refine wpAny_bind ?_
  unfold Builtin.Dict.dictSlotArgs
  refine wpAny_bind (wpAny_notOrdered_dict da.typeIs ?_)
  show wpAny _ _ (pure (Value.ref a, Value.ref b)) _ _ s
  refine wpAny_pure ?_
  refine wpAny_bind (wpAny_isInstance (T := "dict") db.typeIs PySem.F.sub_dict_dict ?_)
  simp only [Bool.not_true, Bool.false_eq_true, if_false]
  refine wpAny_bind (wpAny_pure (wpAny_bind (wpAny_pure ?_)))
  refine wpAny_bind (samePairs hk ha hb da db hits ?_)
  refine wpAny_pure ⟨_, rfl, ?_, ?_⟩
  · exact fun x => nomatch x
  · simpa using h
end
end QH

/-! Qh1: == and != of dicts from keys of any kind to numbers. -/
namespace Sn
open PySem PySem.Spec PyProof.Rows L2 SlX StX Rs Ma
variable [Rs.Tabz]
/-- the values at equal keys are these numbers -/
def HitN (zs' : List Ent) : List Ent → Bool → Prop
  | [], r => r = true
  | z :: zs, r => (atN zs' z.1 = none ∧ r = false) ∨ ∃ a m n b, atN zs' z.1 = some (a, V.int m) ∧ z.2.2 = V.int n ∧ HitN zs' zs b ∧ r = ((n == m) && b)
def rEqDN (K : PySem.W.Frag) (P : Program) (w : World) (neg : Bool) : R2 := fun x y H Q => ∃ D D' zs zs' r, x = .ref D ∧ y = .ref D' ∧ Rd H D (dictN P w zs D) ∧ Rd H D' (dictN P w zs' D') ∧ (∀ z ∈ zs, KeyAt K H z.1 z.2.1) ∧ (∀ z ∈ zs', KeyAt K H z.1 z.2.1) ∧ HitN zs' zs r ∧ Q (.bl (neg != (zs.length == zs'.length && r))) H
def HitK (zs' : List (Key × V)) : List (Key × V) → Bool → Prop
  | [], r => r = true
  | z :: zs, r => (valV zs' z.1 = none ∧ r = false) ∨ ∃ m n b, valV zs' z.1 = some (V.int m) ∧ z.2 = V.int n ∧ HitK zs' zs b ∧ r = ((n == m) && b)
def rEqDI (neg : Bool) : R2 := fun x y H Q => ∃ D D' zs zs' r, x = .ref D ∧ y = .ref D' ∧ Rd H D (.dK zs) ∧ Rd H D' (.dK zs') ∧ HitK zs' zs r ∧ Q (.bl (neg != (zs.length == zs'.length && r))) H
theorem hits_n {A : Around} {s : Shared} {zs' : List Ent} {ys' : List (NestedKey × Addr × Value)} (rel' : Paired EntR zs' ys') : ∀ {zs : List Ent} {ys : List (NestedKey × Addr × Value)} {r : Bool}, Paired EntR zs ys → HitN zs' zs r → QH.Hits A s ys' ys r
  | _, _, r, .nil, h => by cases (show r = true from h); exact .nil
  | z :: zs, y :: ys, r, .cons q t, h => by
    obtain ⟨e1, e2, e3⟩ := q
    rcases h with ⟨hn, rfl⟩ | ⟨a, m, n, b, hv, hz, hr, rfl⟩
    · refine .miss ?_
      rw [← e1]
      rcases atN_rel rel' z.1 with ⟨_, g⟩ | ⟨a, v, u, g, _⟩
      · exact g
      · rw [g] at hn; cases hn
    · rcases atN_rel rel' z.1 with ⟨g, _⟩ | ⟨a', v, u, g, g2, g3⟩
      · rw [g] at hv; cases hv
      · rw [g] at hv
        cases hv
        rw [hz] at e3
        obtain ⟨t1, ht1⟩ := (show ∃ t, y.2.2 = .int n t from e3)
        obtain ⟨t2, ht2⟩ := (show ∃ t, u = .int m t from g3)
        refine .hit (q := (a, u)) (by rw [← e1]; exact g2) ?_ (hits_n rel' t hr)
        rw [ht1, ht2]
        exact SeqAt.EqAt.int_int n t1 m t2
theorem hits_k {A : Around} {s : Shared} {zs' : List (Key × V)} {vs' : List (Key × Value)} (rel' : KV zs' vs') : ∀ {zs : List (Key × V)} {vs : List (Key × Value)} {r : Bool}, KV zs vs → HitK zs' zs r → PySem.W.KeqHits A s vs' vs r
  | _, _, r, .nil, h => by cases (show r = true from h); exact .nil
  | z :: zs, y :: ys, r, .cons q t, h => by
    obtain ⟨k, yv⟩ := y
    obtain ⟨e1, e3⟩ := q
    have hval := KV.val rel' z.1
    rcases h with ⟨hn, rfl⟩ | ⟨m, n, b, hv, hz, hr, rfl⟩
    · refine .miss ?_
      rw [hn] at hval
      rw [← show z.1 = k from e1]
      cases e : valueAt vs' z.1 with
      | none => rfl
      | some u => rw [e] at hval; exact (show False from hval).elim
    · rw [hv] at hval
      cases e : valueAt vs' z.1 with
      | none => rw [e] at hval; exact (show False from hval).elim
      | some u =>
        rw [e] at hval
        rw [hz] at e3
        obtain ⟨t1, ht1⟩ := (show ∃ t, yv = .int n t from e3)
        obtain ⟨t2, ht2⟩ := (show ∃ t, u = .int m t from hval)
        refine .hit (y := u) (by rw [← show z.1 = k from e1]; exact e) ?_ (hits_k rel' t hr)
        rw [ht1, ht2]
        exact SeqAt.EqAt.int_int n t1 m t2
section
variable {X : Cx}
theorem op_eqDN (hu : X.A.units + 64 < cLine) : OpR X (compareOp .Eq) (rEqDN X.K X.prog X.w false) := by
  intro pins s σ H x y v u Q I rx ry ⟨D, D', zs, zs', r, ex, ey, hD, hD', hz, hz', hit, q⟩
  subst ex ey
  obtain rfl : v = Value.ref D := rx
  obtain rfl : u = Value.ref D' := ry
  obtain ⟨q0, _, ys, rel, dd⟩ := dict_at I hD hz
  obtain ⟨q0', _, ys', rel', dd'⟩ := dict_at I hD' hz'
  refine QH.dict_eq (r := r) q0 q0' dd dd' (by omega) (show X.A.in1.units + 8 < cLine by rw [Around.in1_units]; omega) (fun _ => hits_n rel' rel hit) ?_
  rw [← rel.length, ← rel'.length]
  exact ⟨.bl _, H, I, rfl, by simpa using q⟩
theorem op_eqDI (hu : X.A.units + 64 < cLine) : OpR X (compareOp .Eq) (rEqDI false) := by
  intro pins s σ H x y v u Q I rx ry ⟨D, D', zs, zs', r, ex, ey, hD, hD', hit, q⟩
  subst ex ey
  obtain rfl : v = Value.ref D := rx
  obtain rfl : u = Value.ref D' := ry
  obtain ⟨_, lo, vs, rel, dd⟩ := dk_rd I.hok hD
  obtain ⟨_, lo', vs', rel', dd'⟩ := dk_rd I.hok hD'
  refine PySem.W.keq_eq (r := r) lo lo' dd dd' (by omega) (fun _ => hits_k rel' rel hit) ?_
  rw [← rel.length, ← rel'.length]
  exact ⟨.bl _, H, I, rfl, by simpa using q⟩
end
theorem op_eqDNK {X : Cx} (K : PySem.W.Frag) (P : Program) (w : World) (hu : X.A.units + 64 < cLine) (hK : X.K = K := by rfl) (hP : X.prog = P := by rfl) (hw : X.w = w := by rfl) : OpR X (compareOp .Eq) (rEqDN K P w false) := by subst hK; subst hP; subst hw; exact op_eqDN hu
end Sn
namespace Tw
open PySem PySem.Spec PyProof.Rows L2 SlX StX Rs Ma Sn
variable [Rs.Tabz]
/-- two dicts, as mappings -/
def eqA {α : Type} [DecidableEq α] (ps qs : List (α × Nat)) : Bool := ps.length == qs.length && ps.all fun p => decide (getA qs p.1 = some p.2)
section
variable {ε α : Type} [DecidableEq α] {K : PySem.W.Frag} {P : Program} {w : World} {d : α → PyData} {F F' : Hp}
theorem hitN_of {n : Nat} [c : Keyd d n] {zs' : List Ent} {qs : List (α × Nat)} (he' : EntAll K d (fD K dN) zs' qs F) : ∀ {zs : List Ent} {ps : List (α × Nat)}, EntAll K d (fD K dN) zs ps F → HitN zs' zs (ps.all fun p => decide (getA qs p.1 = some p.2))
  | [], [], _ => rfl
  | z :: zs, p :: ps, ⟨⟨h1, h2, h3⟩, h4⟩ => by
    have hz : z.2.2 = V.int ((p.2 : Nat) : Int) := by
      have : Dp K F z.2.2 (.int ((p.2 : Nat) : Int)) := h3
      generalize z.2.2 = y at this
      cases this
      rfl
    rcases entAll_get he' p.1 with ⟨e1, e2⟩ | ⟨b, x, v, e1, e2, hr⟩
    · exact .inl ⟨by rw [h1]; exact e2, by rw [List.all_cons, e1]; rfl⟩
    · have hv : v = V.int ((b : Nat) : Int) := by
        have : Dp K F v (.int ((b : Nat) : Int)) := hr
        cases this
        rfl
      refine .inr ⟨x, ((b : Nat) : Int), _, _, by rw [h1, e2, hv], hz, hitN_of he' h4, ?_⟩
      rw [List.all_cons, e1]
      congr 1
      rw [Bool.eq_iff_iff, beq_iff_eq, decide_eq_true_eq]
      exact ⟨fun h => by cases h; rfl, fun h => by rw [Int.ofNat.inj h]⟩
  | [], _ :: _, h => h.elim
  | _ :: _, [], h => h.elim
theorem hitK_of [c : NumK d] {zs' : List (Key × V)} {qs : List (α × Nat)} (he' : RelD d (fD K dN) zs' qs F) : ∀ {zs : List (Key × V)} {ps : List (α × Nat)}, RelD d (fD K dN) zs ps F → HitK zs' zs (ps.all fun p => decide (getA qs p.1 = some p.2))
  | [], [], _ => rfl
  | z :: zs, p :: ps, ⟨⟨h1, h3⟩, h4⟩ => by
    have hz : z.2 = V.int ((p.2 : Nat) : Int) := by
      have : Dp K F z.2 (.int ((p.2 : Nat) : Int)) := h3
      generalize z.2 = y at this
      cases this
      rfl
    rcases relD_get he' p.1 with ⟨e1, e2⟩ | ⟨b, v, e1, e2, hr⟩
    · exact .inl ⟨by rw [h1]; exact e2, by rw [List.all_cons, e1]; rfl⟩
    · have hv : v = V.int ((b : Nat) : Int) := by
        have : Dp K F v (.int ((b : Nat) : Int)) := hr
        cases this
        rfl
      refine .inr ⟨((b : Nat) : Int), _, _, by rw [h1, e2, hv], hz, hitK_of he' h4, ?_⟩
      rw [List.all_cons, e1]
      congr 1
      rw [Bool.eq_iff_iff, beq_iff_eq, decide_eq_true_eq]
      exact ⟨fun h => by cases h; rfl, fun h => by rw [Int.ofNat.inj h]⟩
  | [], _ :: _, h => h.elim
  | _ :: _, [], h => h.elim
theorem o_eqDN {n : Nat} [c : Keyd d n] : Op2 ε (rEqDN K P w false) (fDK K P w d (fD K dN)) (fDK K P w d (fD K dN)) (fun a b => pur (eqA a b)) (fD K dB) := op_pur fun a b x y F L ⟨D, zs, ex, hD, he, _⟩ ⟨D', zs', ey, hD', he', _⟩ => fun F1 N H e A Qk qk => by
  refine ⟨D, D', zs, zs', _, ex, ey, rd_up (e.trans A.ex) hD, rd_up (e.trans A.ex) hD', fun z hz => keyAt_up (e.trans A.ex) (entAll_keys he z hz), fun z hz => keyAt_up (e.trans A.ex) (entAll_keys he' z hz), hitN_of he' he, qk _ F1 H (Same.refl _) A ?_⟩
  rw [entAll_len he, entAll_len he', Bool.false_bne]
  exact .bl _
theorem o_eqDI [c : NumK d] : Op2 ε (rEqDI false) (fDI d (fD K dN)) (fDI d (fD K dN)) (fun a b => pur (eqA a b)) (fD K dB) := op_pur fun a b x y F L ⟨D, zs, ex, hD, he, _⟩ ⟨D', zs', ey, hD', he', _⟩ => fun F1 N H e A Qk qk => by
  refine ⟨D, D', zs, zs', _, ex, ey, rd_up (e.trans A.ex) hD, rd_up (e.trans A.ex) hD', hitK_of he' he, qk _ F1 H (Same.refl _) A ?_⟩
  rw [relD_len he, relD_len he', Bool.false_bne]
  exact .bl _
end
section
variable {α : Type} [DecidableEq α]
theorem eqA_iff {ps qs : List (α × Nat)} : eqA ps qs = true ↔ ps.length = qs.length ∧ ∀ p ∈ ps, getA qs p.1 = some p.2 := by
  unfold eqA
  rw [Bool.and_eq_true, beq_iff_eq, List.all_eq_true]
  exact ⟨fun ⟨a, b⟩ => ⟨a, fun p hp => of_decide_eq_true (b p hp)⟩, fun ⟨a, b⟩ => ⟨a, fun p hp => decide_eq_true (b p hp)⟩⟩
end
end Tw

/-! Sz6: == and != of lists of unlike things: numbers, data, dicts. -/
namespace NeP
open PySem PySem.SeqAt GQ
open AutoSeq1 (wpAny_loadPart')
open MeetsSeq MeetsSeq2 MeetsSeq3 SeqRoads2
def EqP (prog : Program) (w : World) (A : Around) (s : Shared) (y x : Value) (b : Bool) : Prop := ∀ (E : Value → Shared → Prop) (Q : Bool → Shared → Prop), Q b s → wpAny (model prog w) A (eqBool y x) Q E s
section
variable {prog : Program} {w : World} {A : Around} {R : Result → Shared → Prop}
theorem ne_loopP (l b : Addr) (items items2 : Array Value) (n n2 : Nat) (hsz : items.size = items2.size) (e : Nat → Bool) (s0 : Shared) (hl0 : s0.heap.get? l = some { cls := .type "list", data := .seq items n }) (hb0 : s0.heap.get? b = some { cls := .type "list", data := .seq items2 n2 })
    (he : ∀ j (h1 : j < items.size) (h2 : j < items2.size), EqP prog w A.in1 s0 items[j] items2[j] (e j)) (k : Nat) :
    ∀ i : Nat, items.size - i = k → R (.ok (.ret (.bool (!((List.range items.size).drop i).all e)))) s0 →
      wpAny (model prog w) A.in1 (Builtin.«list.__eq__.loop» ⟨[.ref l, .ref b, rawInt i, rawInt 3], []⟩) (FinOf prog w A R) (fun e s' => R (.error e) s') s0 := by
  induction k with
  | zero =>
    intro i hk h
    obtain ⟨hp, g, d, tk, os⟩ := s0
    have hl := hl0
    have hb := hb0
    wp_walk using wpAny_loadPart' hl, wpAny_loadPart' hb
    have hi1 : items[((i : Nat) : Int).toNat]? = none := by simp; omega
    have hi2 : items2[((i : Nat) : Int).toNat]? = none := by simp; omega
    have hd : (List.range items.size).drop i = [] := by simp; omega
    rw [hd] at h
    rw [hi1, hi2]
    wp_walk using wpAny_loadPart' hl, wpAny_loadPart' hb
    show R (.ok (.ret (.bool (items.size != items2.size)))) _
    rw [hsz]
    simpa using h
  | succ k ih =>
    intro i hk h
    obtain ⟨hp, g, d, tk, os⟩ := s0
    have hl := hl0
    have hb := hb0
    wp_walk using wpAny_loadPart' hl, wpAny_loadPart' hb
    have hlt : i < items.size := by omega
    have hlt2 : i < items2.size := by omega
    have hi1 : items[((i : Nat) : Int).toNat]? = some items[i] := by simp [hlt]
    have hi2 : items2[((i : Nat) : Int).toNat]? = some items2[i] := by simp [hlt2]
    have hd : (List.range items.size).drop i = i :: (List.range items.size).drop (i + 1) := by simp [List.drop_eq_getElem_cons, hlt]
    have hc : ((i : Int) + 1) = ((i + 1 : Nat) : Int) := by omega
    rw [hd, List.all_cons] at h
    rw [hi1, hi2]
    refine wpAny_bind (he i hlt hlt2 _ _ ?_)
    cases hb' : e i with
    | true =>
      rw [hb'] at h
      wp_walk
      rw [hc]
      exact ⟨plainId_quiet plain_eq_loop _, codeAny_builtin entry_eq_loop (by
        rw [Around.under_plainId plain_eq_loop _]
        exact ih (i + 1) (by omega) (by simpa using h))⟩
    | false =>
      rw [hb'] at h
      wp_walk using wpAny_loadPart' hl, wpAny_loadPart' hb
      rw [hi1, hi2]
      wp_walk
      simpa using h
theorem list_neP (l b : Addr) (items items2 : Array Value) (n n2 : Nat) (hsz : items.size = items2.size) (e : Nat → Bool) (s0 : Shared) (hl0 : s0.heap.get? l = some { cls := .type "list", data := .seq items n }) (hb0 : s0.heap.get? b = some { cls := .type "list", data := .seq items2 n2 })
    (he : ∀ j (h1 : j < items.size) (h2 : j < items2.size), EqP prog w A.in1 s0 items[j] items2[j] (e j)) (h : R (.ok (.ret (.bool (!(List.range items.size).all e)))) s0) :
    wpAny (model prog w) A.in1 (Builtin.«list.__ne__» ⟨[.ref l, .ref b], []⟩) (FinOf prog w A R) (fun e s' => R (.error e) s') s0 := by
  have hrec := ne_loopP (A := A) (R := R) l b items items2 n n2 hsz e s0 hl0 hb0 he _ 0 rfl (by simpa using h)
  obtain ⟨hp, g, d, tk, os⟩ := s0
  have f3 := AutoSeq1.sub_list_list
  have hne : ¬ (items.size != items2.size) = true := by simp [hsz]
  wp_walk using wpAny_loadPart' hl0, wpAny_loadPart' hb0
  exact ⟨plainId_quiet plain_eq_loop _, codeAny_builtin entry_eq_loop (by
    rw [Around.under_plainId plain_eq_loop _]
    exact hrec)⟩
end
section
variable {prog : Program} {w : World} {A : Around} {E : Value → Shared → Prop} {s : Shared}
theorem rc_neP {l b : Addr} {items items2 : Array Value} {n n2 : Nat} {e : Nat → Bool} {Q : Value → Shared → Prop} (hu : A.units < cLine) (hsz : items.size = items2.size) (hl : s.heap.get? l = some { cls := .type "list", data := .seq items n }) (hb : s.heap.get? b = some { cls := .type "list", data := .seq items2 n2 })
    (he : ∀ j (h1 : j < items.size) (h2 : j < items2.size), EqP prog w A.in1 s items[j] items2[j] (e j)) (h : Q (.bool (!(List.range items.size).all e)) s) : wpAny (model prog w) A (richCompare .NotEq (.ref l) (.ref b)) Q E s := by
  refine wpAny_richCompare_same_room (op := .NotEq) ⟨_, hl, rfl⟩ ⟨_, hb, rfl⟩ F.slot_list_ne (call_here F.slot_list_ne ⟨_, hl, rfl⟩ F.entry_list_ne (F.args_list_ne_2 _ _) ?_) hu
  exact list_neP (R := wants (fun v s' => v ≠ .notImplemented ∧ Q v s') E) l b items items2 n n2 hsz e s hl hb he ⟨(fun x => nomatch x), h⟩
end
end NeP
namespace Sn
open PySem PySem.Spec PyProof.Rows L2 SlX StX Rs Ma Tw
variable [Rs.Tabz]
inductive EqVs (K : PySem.W.Frag) (P : Program) (w : World) (H : Hp) : V → V → Bool → Prop
  | dt {x y : V} {d e : PyData} : Dp K H x d → Dp K H y e → SeqAt.shaped d = true → SeqAt.shaped e = true → EqVs K P w H x y (PyData.eqv d e)
  | dn {D D' : Addr} {zs zs' : List Ent} {r : Bool} : Rd H D (dictN P w zs D) → Rd H D' (dictN P w zs' D') → (∀ z ∈ zs, KeyAt K H z.1 z.2.1) → (∀ z ∈ zs', KeyAt K H z.1 z.2.1) → HitN zs' zs r → EqVs K P w H (.ref D) (.ref D') (zs.length == zs'.length && r)
  | di {D D' : Addr} {zs zs' : List (Key × V)} {r : Bool} : Rd H D (.dK zs) → Rd H D' (.dK zs') → (zs.map (·.1)).Nodup → HitK zs' zs r → EqVs K P w H (.ref D) (.ref D') (zs.length == zs'.length && r)
def EqVL (K : PySem.W.Frag) (P : Program) (w : World) (H : Hp) : List V → List V → List Bool → Prop
  | [], [], [] => True
  | x :: xs, y :: ys, b :: bs => EqVs K P w H x y b ∧ EqVL K P w H xs ys bs
  | _, _, _ => False
def rEqM (K : PySem.W.Frag) (P : Program) (w : World) (neg : Bool) : R2 := fun x y H Q => ∃ a b xs ys bs, x = .ref a ∧ y = .ref b ∧ H a = some (.lst xs) ∧ H b = some (.lst ys) ∧ EqVL K P w H xs ys bs ∧ Q (.bl (neg != bs.all id)) H
theorem hitN_same {zs zs' : List Ent} {ys : List (NestedKey × Addr × Value)} (rel' : Paired EntR zs' ys) (nd : (ys.map (·.1)).Nodup) : ∀ {zs0 : List Ent} {ys0 : List (NestedKey × Addr × Value)} {r : Bool}, Paired EntR zs0 ys0 → (∀ y ∈ ys0, y ∈ ys) → HitN zs' zs0 r → r = true
  | _, _, r, .nil, _, h => h
  | z :: zs0, y :: ys0, r, .cons q t, hm, h => by
    obtain ⟨e1, e2, e3⟩ := q
    have ha : ∀ {ys : List (NestedKey × Addr × Value)}, (ys.map (·.1)).Nodup → y ∈ ys → atKey ys y.1 = some y.2 := by
      intro ys
      induction ys with
      | nil => intro _ h; cases h
      | cons c ys ih =>
        intro nd h
        rw [List.map_cons] at nd
        obtain ⟨n1, n2⟩ := List.nodup_cons.mp nd
        show ((c :: ys).find? _).map _ = _
        rw [List.find?_cons]
        rcases List.mem_cons.mp h with rfl | h
        · simp
        · have : ¬ c.1 = y.1 := fun e => n1 (e ▸ List.mem_map.mpr ⟨y, h, rfl⟩)
          simp only [this, decide_false]
          exact ih n2 h
    have hy := ha nd (hm y List.mem_cons_self)
    rcases h with ⟨hn, rfl⟩ | ⟨a, m, n, b, hv, hz, hr, rfl⟩
    · rcases atN_rel rel' z.1 with ⟨_, g⟩ | ⟨a, v, u, g, _⟩
      · rw [e1, hy] at g; cases g
      · rw [g] at hn; cases hn
    · have hb := hitN_same (zs := zs) rel' nd t (fun y' h' => hm y' (List.mem_cons_of_mem _ h')) hr
      subst hb
      rcases atN_rel rel' z.1 with ⟨g, _⟩ | ⟨a', v, u, g, g2, g3⟩
      · rw [g] at hv; cases hv
      · rw [g] at hv
        cases hv
        rw [e1, hy] at g2
        have g2 := Option.some.inj g2
        rw [hz] at e3
        obtain ⟨t1, ht1⟩ := (show ∃ t, y.2.2 = .int n t from e3)
        obtain ⟨t2, ht2⟩ := (show ∃ t, u = .int m t from g3)
        have : y.2.2 = u := by rw [g2]
        rw [ht1, ht2] at this
        cases this
        simp
theorem hitK_same : ∀ {zs : List (Key × V)} {zs0 : List (Key × V)} {r : Bool}, (zs.map (·.1)).Nodup → (∀ z ∈ zs0, z ∈ zs) → HitK zs zs0 r → r = true
  | _, [], r, _, _, h => h
  | zs, z :: zs0, r, nd, hm, h => by
    have ha : ∀ {ys : List (Key × V)}, (ys.map (·.1)).Nodup → z ∈ ys → valV ys z.1 = some z.2 := by
      intro ys
      induction ys with
      | nil => intro _ h; cases h
      | cons c ys ih =>
        intro nd h
        rw [List.map_cons] at nd
        obtain ⟨n1, n2⟩ := List.nodup_cons.mp nd
        show ((c :: ys).find? _).map _ = _
        rw [List.find?_cons]
        rcases List.mem_cons.mp h with rfl | h
        · simp
        · have : ¬ c.1 = z.1 := fun e => n1 (e ▸ List.mem_map.mpr ⟨z, h, rfl⟩)
          simp only [this, decide_false]
          exact ih n2 h
    have hy := ha nd (hm z List.mem_cons_self)
    rcases h with ⟨hn, rfl⟩ | ⟨m, n, b, hv, hz, hr, rfl⟩
    · rw [hn] at hy; cases hy
    · have hb := hitK_same nd (fun y' h' => hm y' (List.mem_cons_of_mem _ h')) hr
      subst hb
      rw [hv, hz] at hy
      have := Option.some.inj hy
      cases this
      simp
section
variable {X : Cx}
theorem eqVs_at {A : Around} (hu : A.units + 64 < cLine) {pins : List (Addr × Obj)} {σ : L2.St} {H : Hp} {s : Shared} {x y : V} {v u : Value} {b : Bool} (I : Inv X pins σ H s) (rx : RelV x v) (ry : RelV y u) (h : EqVs X.K X.prog X.w H x y b) : NeP.EqP X.prog X.w A s v u b := by
  intro E Q hq
  cases h with
  | dt hd he sd se =>
    obtain ⟨as, r1⟩ := Dp.reads I _ x v hd rx
    obtain ⟨bs, r2⟩ := Dp.reads I _ y u he ry
    have := of_decide_eq_true (Bool.and_eq_true_iff.mp sd).2
    exact SeqAt.eqAt_reads _ _ A s v u as bs r1 r2 (SeqAt.canLay_of_shaped sd) (SeqAt.canLay_of_shaped se) (by omega) X.prog X.w E Q hq
  | @dn D D' zs zs' r hD hD' hz hz' hit =>
    obtain rfl : v = Value.ref D := rx
    obtain rfl : u = Value.ref D' := ry
    obtain ⟨q0, _, ys, rel, dd⟩ := dict_at I hD hz
    obtain ⟨q0', _, ys', rel', dd'⟩ := dict_at I hD' hz'
    by_cases hDD : D = D'
    · subst hDD
      have ey : ys = ys' := by
        obtain ⟨o, es, ep, g1, _, g3, g4, g5, _⟩ := dd
        obtain ⟨o', es', ep', k1, _, k3, k4, k5, _⟩ := dd'
        rw [g1] at k1
        cases k1
        rw [g3] at k3
        cases k3
        rw [g4] at k4
        have step : ∀ {as bs : List (NestedKey × Addr × Value)}, as.map (entryOfKey (nestedKind X.prog X.w)) = bs.map (entryOfKey (nestedKind X.prog X.w)) → (∀ y ∈ as, (nestedKind X.prog X.w).is s.heap y.1 y.2.1) → (∀ y ∈ bs, (nestedKind X.prog X.w).is s.heap y.1 y.2.1) → as = bs := by
          intro as
          induction as with
          | nil => intro bs e _ _; cases bs with | nil => rfl | cons _ _ => cases e
          | cons a as ih =>
            intro bs e h1 h2
            cases bs with
            | nil => cases e
            | cons b bs =>
              rw [List.map_cons, List.map_cons] at e
              obtain ⟨e1, e2⟩ := List.cons.inj e
              have er := ih e2 (fun y h => h1 y (List.mem_cons_of_mem _ h)) (fun y h => h2 y (List.mem_cons_of_mem _ h))
              have k2 : Value.ref a.2.1 = Value.ref b.2.1 := congrArg DictEntry.key e1
              have k3 : a.2.2 = b.2.2 := congrArg DictEntry.val e1
              injection k2 with k2
              have ha := h1 a List.mem_cons_self
              have hb := h2 b List.mem_cons_self
              rw [k2] at ha
              have k1 := (nestedKind X.prog X.w).inj ha hb
              obtain ⟨a1, a2, a3⟩ := a
              obtain ⟨b1, b2, b3⟩ := b
              dsimp only at k1 k2 k3
              rw [k1, k2, k3, er]
        exact step k4 g5 k5
      subst ey
      have hl : zs.length = zs'.length := by rw [rel.length, rel'.length]
      have nd : (ys.map (·.1)).Nodup := by obtain ⟨_, _, _, _, _, _, _, _, g⟩ := dd; exact g
      have hr := hitN_same (zs := zs) rel' nd rel (fun y h => h) hit
      rw [hl, hr] at hq
      simp at hq
      exact SeqAt.EqAt.same _ X.prog X.w E Q hq
    · refine GQ.eqBool_refG hDD ?_
      refine QH.dict_eq (r := r) q0 q0' dd dd' (by omega) (show A.in1.units + 8 < cLine by rw [Around.in1_units]; omega) (fun _ => hits_n rel' rel hit) ?_
      rw [← rel.length, ← rel'.length]
      exact ⟨_, rfl, hq⟩
  | @di D D' zs zs' r hD hD' nd hit =>
    obtain rfl : v = Value.ref D := rx
    obtain rfl : u = Value.ref D' := ry
    by_cases hDD : D = D'
    · subst hDD
      have ez : zs = zs' := by
        rcases hD with h | ⟨o, h⟩ <;> rcases hD' with h' | ⟨o', h'⟩ <;> rw [h] at h' <;> cases h' <;> rfl
      subst ez
      have hr := hitK_same nd (fun z h => h) hit
      rw [hr] at hq
      simp at hq
      exact SeqAt.EqAt.same _ X.prog X.w E Q hq
    · obtain ⟨_, lo, vs, rel, dd⟩ := dk_rd I.hok hD
      obtain ⟨_, lo', vs', rel', dd'⟩ := dk_rd I.hok hD'
      refine GQ.eqBool_refG hDD ?_
      refine PySem.W.keq_eq (r := r) lo lo' dd dd' (by omega) (fun _ => hits_k rel' rel hit) ?_
      rw [← rel.length, ← rel'.length]
      exact ⟨_, rfl, hq⟩
theorem eqVL_at {A : Around} (hu : A.units + 64 < cLine) {pins : List (Addr × Obj)} {σ : L2.St} {H : Hp} {s : Shared} (I : Inv X pins σ H s) : ∀ {xs ys : List V} {vs us : List Value} {bs : List Bool}, Vals xs vs → Vals ys us → EqVL X.K X.prog X.w H xs ys bs → vs.length = us.length ∧ vs.length = bs.length ∧ ∀ j (h1 : j < vs.length) (h2 : j < us.length), NeP.EqP X.prog X.w A s vs[j] us[j] (bs.getD j false)
  | [], [], _, _, [], .nil, .nil, _ => ⟨rfl, rfl, fun j h => absurd h (Nat.not_lt_zero _)⟩
  | x :: xs, y :: ys, v :: vs, u :: us, b :: bs, .cons rx r, .cons ry r2, h => by
    obtain ⟨l1, l2, f⟩ := eqVL_at hu I r r2 h.2
    refine ⟨by rw [List.length_cons, List.length_cons, l1], by rw [List.length_cons, List.length_cons, l2], fun j h1 h2 => ?_⟩
    cases j with
    | zero => exact eqVs_at hu I rx ry h.1
    | succ j => exact f j (by simpa using h1) (by simpa using h2)
  | [], [], _, _, _ :: _, _, _, h => h.elim
  | [], _ :: _, _, _, _, _, _, h => by cases h
  | _ :: _, [], _, _, _, _, _, h => by cases h
  | _ :: _, _ :: _, _, _, [], _, _, h => h.elim
theorem range_all : ∀ {bs : List Bool}, (List.range bs.length).all (fun j => bs.getD j false) = bs.all id
  | [] => rfl
  | b :: bs => by
    rw [List.length_cons, List.range_succ_eq_map, List.all_cons, List.all_map, List.all_cons]
    have : ((fun j => (b :: bs).getD j false) ∘ Nat.succ) = fun j => bs.getD j false := rfl
    rw [this, range_all]
    rfl
theorem op_neM (K : PySem.W.Frag) (P : Program) (w : World) {j : Nat} (hr : Room j X.A) (hj : 1 ≤ j := by decide) (hK : X.K = K := by rfl) (hP : X.prog = P := by rfl) (hw : X.w = w := by rfl) : OpR X (compareOp .NotEq) (rEqM K P w true) := by
  subst hK hP hw
  intro pins s σ H x y v u Q I rx ry ⟨a, b, xs, ys, bs, ex, ey, ha, hb, hv, q⟩
  subst ex ey
  obtain rfl : v = Value.ref a := rx
  obtain rfl : u = Value.ref b := ry
  obtain ⟨z, its, k, r, e⟩ := I.hok a _ ha
  obtain ⟨z2, its2, k2, r2, e2⟩ := I.hok b _ hb
  have hr1 : Room (j - 1 + 1) X.A := by rwa [Nat.sub_add_cancel hj]
  obtain ⟨l1, l2, f⟩ := eqVL_at (A := X.A.in1) hr1.in1.units I r r2 hv
  show wpAny (model X.prog X.w) X.A (richCompare .NotEq (.ref a) (.ref b)) (EP X pins σ Q) X.xe s
  refine NeP.rc_neP (e := fun j => bs.getD j false) hr.units0 (by rw [List.size_toArray, List.size_toArray]; exact l1) e e2 (fun j h1 h2 => by simpa using f j (by simpa using h1) (by simpa using h2)) ?_
  rw [List.size_toArray, l2, range_all]
  exact ⟨.bl _, H, I, rfl, by simpa using q⟩
end
end Sn
namespace Tw
open PySem PySem.Spec PyProof.Rows L2 SlX StX Rs Ma Sn
variable [Rs.Tabz]
section
variable {ε α β : Type} [DecidableEq α] [DecidableEq β] {K : PySem.W.Frag} {P : Program} {w : World} {da : α → PyData} {na : Nat} [Nice da na] {db : β → PyData} {nb : Nat} [Nice db nb] {γ : Type} [DecidableEq γ] {dk : γ → PyData} {n : Nat} [c : Keyd dk n] {δ : Type} [DecidableEq δ] {dd : δ → PyData} [cd : NumK dd]
theorem relD_nodup {α β : Type} [DecidableEq α] {d : α → PyData} [c : NumK d] {R : β → VP} {F : Hp} {zs : List (Key × V)} {ps : List (α × β)} (h : RelD d R zs ps F) (nd : (ps.map (·.1)).Nodup) : (zs.map (·.1)).Nodup := by
  rw [relD_fst h]
  exact List.pairwise_map.mpr (nd.imp fun {a b} ne e => ne (c.inj _ _ e))
theorem each4' {A B C D : VP} {vs : List V} {F : Hp} (h : Each [A, B, C, D] vs F) : ∃ a b c d, vs = [a, b, c, d] ∧ A a F ∧ B b F ∧ C c F ∧ D d F := by
  cases vs with
  | nil => exact h.elim
  | cons a vs => cases vs with
    | nil => exact h.2.elim
    | cons b vs => cases vs with
      | nil => exact h.2.2.elim
      | cons c vs => cases vs with
        | nil => exact h.2.2.2.elim
        | cons d vs => cases vs with
          | nil => exact ⟨a, b, c, d, rfl, h.1, h.2.1, h.2.2.1, h.2.2.2.1⟩
          | cons _ _ => exact h.2.2.2.2.elim
end
end Tw

/-! Sz7: defs whose result is a new thing of one's own. -/
namespace Tw
open PySem PySem.Spec PyProof.Rows L2 SlX StX Rs Ma Sn
variable [Rs.Tabz]
section
variable {ε α γ δ : Type} {Z : Wsh ε} {ρ : List (Option VP)} {κ : List Ow} {P : Program} {w : World} {K : PySem.W.Frag} {mg : Str → Option Value} {base : Heap} {t : TA} {ta : TE} {mg' : Wm ε γ} {ma : Wm ε α} {Rs : γ → List VP} {Ra : α → VP} {ow : δ → Addr → HO → Hp → Prop}
/-- a promise whose result is a new thing of the caller's own -/
def SpO {γ δ : Type} (Rs : γ → List VP) (spec : γ → (δ → Prop) → Prop) (ow : δ → Addr → HO → Hp → Prop) : Sp := fun vs H Q _ => ∃ g F N P, At F N H ∧ Each (Rs g) vs F ∧ spec g P ∧ ∀ d a o F' H', Same F F' → At F' ((a, o) :: N) H' → P d → (∀ F'', Same F' F'' → ow d a o F'') → Q (.ref a) H'
theorem tm_call {spec : γ → (δ → Prop) → Prop} {E : XK} (h : TrA Z ρ κ t mg' Rs) : TrM Z ρ κ (tCall (SpO Rs spec ow) [] E t) (fun Q X => mg' (fun g => spec g Q) X) ow :=
  ⟨fun σ F L s c Q X q F1 N H e A wsh Qk qk => h.run σ F L s c _ X q F1 N H e A wsh _ fun vs F2 H2 e2 A2 ⟨g, q1, r1⟩ => by
    rw [List.append_nil]
    exact ⟨g, F2, L ++ N, Q, A2, r1, q1, fun d a o F3 H3 e3 A3 p r => qk a o F3 H3 d (e2.trans e3) A3 r p⟩⟩
theorem tm_prp {C : Addr} {spec : α → (δ → Prop) → Prop} {E : XK} (ho : TrE Z ρ κ ta ma Ra) (hS : ∀ a v F, Ra a v F → IsOb C v F) : TrM Z ρ κ (tPropSl C (SpO (fun a => [Ra a]) spec ow) E ta) (fun Q X => ma (fun a => spec a Q) X) ow :=
  ⟨fun σ F L s c Q X q F1 N H e A wsh Qk qk => ho.run σ F L s c _ X q F1 N H e A wsh _ fun x F2 H2 e2 A2 ⟨o, q1, hx⟩ => by
    obtain ⟨a, dx, vs, rfl, ha, hd⟩ := hS _ _ _ hx
    exact ⟨a, dx, vs, rfl, .inr ⟨A2.ex _ _ ha, A2.ex _ _ hd⟩, o, F2, L ++ N, Q, A2, ⟨hx, True.intro⟩, q1, fun d a o F3 H3 e3 A3 p r => qk a o F3 H3 d (e2.trans e3) A3 r p⟩⟩
theorem gw_okO {x qual : Str} {stt : Stmt} {f : Addr} {fd : FuncData} {N ps : List Str} {k : Nat} {spec : γ → (δ → Prop) → Prop} (F : Fun K x qual stt f fd) (Sc : FnScope N ps (defScope stt)) (len : ∀ g, (Rs g).length = ps.length) (hm : ∀ g, MonoAll (Rs g))
    (body : ∀ (cdv : Value) (A : Around) (outer : List Env) (s : Shared) (H : Hp) (E : XK) (g : γ), Room k (A.deeper (envOfC qual (defScope stt) s.heap.objs.size f cdv)) →
      ∃ te, PSs (cxOf CX0 P w K mg base N qual (defScope stt) f cdv A outer s H E).nox (defBody stt) (tRet te) ∧ ∃ m : Wm Empty δ, TrM Z0 (ofArgs (Rs g) N.length) [] te m ow ∧ ∀ Q, (∃ vs F, Each (Rs g) vs F) → spec g Q → m Q X0) :
    FnOk P w K mg base CX0 (k + 1) f fd ps (SpO Rs spec ow) := by
  refine F.ok Sc (fun vs H Q E ⟨g, F0, N0, P0, A, hv, q⟩ => (each_length hv).trans (len g)) fun cdv A outer s H vs Q E hr ⟨g, F0, N0, P0, A0, hv, hs, q⟩ => ?_
  obtain ⟨te, h1, m, h2, h3⟩ := body cdv A outer s H E g hr
  refine ⟨_, h1, ?_⟩
  exact h2.run (start N vs) F0 [] (sat_start (hm g) hv) True.intro P0 X0 (h3 P0 ⟨vs, F0, hv⟩ hs) F0 N0 H (Same.refl _) A0 wish0 _ fun a o F' H' d e' A' r p => q d a o F' H' e' A' p r
theorem gw_mkO {x : Str} {stt : Stmt} {f : Addr} {fd : FuncData} {N ps : List Str} {k : Nat} {spec : γ → (δ → Prop) → Prop} (F : Fun K x x stt f fd) (hmg : mg x = some (.ref f)) (b : Binds K fd ps []) (Sc : FnScope N ps (defScope stt)) (len : ∀ g, (Rs g).length = ps.length) (hm : ∀ g, MonoAll (Rs g))
    (body : ∀ (cdv : Value) (A : Around) (outer : List Env) (s : Shared) (H : Hp) (E : XK) (g : γ), Room k (A.deeper (envOfC x (defScope stt) s.heap.objs.size f cdv)) →
      ∃ te, PSs (cxOf CX0 P w K mg base N x (defScope stt) f cdv A outer s H E).nox (defBody stt) (tRet te) ∧ ∃ m : Wm Empty δ, TrM Z0 (ofArgs (Rs g) N.length) [] te m ow ∧ ∀ Q, (∃ vs F, Each (Rs g) vs F) → spec g Q → m Q X0) :
    Gf P w K mg base (k + 1) x (SpO Rs spec ow) := ⟨f, fd, ps, gw_okO F Sc len hm body, hmg, F.kp, b⟩
end
end Tw

/-! Sz8: d.clear(); a list of three things and two dicts of one's own. -/
namespace Sn
open PySem PySem.Spec PyProof.Rows L2 SlX StX Rs Ma Tw
variable [Rs.Tabz]
def tClearN (K : PySem.W.Frag) (P : Program) (w : World) (te : TE) : TE := fun σ H Q => te σ H fun x H1 => ∃ d zs, x = .ref d ∧ H1 d = some (dictN P w zs d) ∧ (∀ z ∈ zs, KeyAt K H1 z.1 z.2.1) ∧ Q .non (upd H1 d (dictN P w [] d))
theorem p_clearN {X : Cx} {e : Expr} {te : TE} {apos cpos : Pos} (K : PySem.W.Frag) (P : Program) (w : World) (he : PE X e te) (hbase : attributeBase e "clear" X.env (eval e X.env) = eval e X.env := by rfl) (hline : (apos.endLine == cpos.line) = true := by rfl) (hK : X.K = K := by rfl) (hP : X.prog = P := by rfl) (hw : X.w = w := by rfl) :
    PE X (.Call (.Attribute e "clear" apos) [] [] cpos) (tClearN K P w te) := by
  subst hK hP hw
  refine ⟨fun pins s σ H Q I h => ?_⟩
  refine wpAny_Call_method (T := "dict") (id := "dict.clear") hbase rfl hline PySem.F.plainAttrs_dict PySem.F.slot_dict_clear PySem.F.type_dict_clear (thn (he.run pins s σ H _ I h) fun u s1 ⟨x, H1, I1, rx, d, zs, ex, hD, hz, q⟩ => ?_)
  subst ex
  obtain rfl : u = Value.ref d := rx
  obtain ⟨hsys, hlen, ys, rel, dd⟩ := dict_at I1 (.inl hD) hz
  obtain ⟨es, ep, hraw, hsz, ent⟩ := dd.raw
  refine ⟨hraw.typeIs, fun b eb => by cases eb; obtain ⟨o, ho, hx, _⟩ := hraw; exact ⟨o, ho, hx.2.1⟩, ?_⟩
  show wpAny _ _ (callWith cpos (.builtin "dict.clear") [.ref d] [] []) _ X.xe s1
  refine method_meetsIn PySem.F.slot_dict_clear PySem.F.entry_dict_clear rfl (PySem.evalArgs_none ⟨rfl, hraw.typeIs, PySem.F.args_dict_clear_1 _, _, meets_dict_clear_raw d, ⟨es, ep, hraw, by rw [hsz, ← rel.length, sizeLine_eq]; omega, fun h' hr' sb => ?_⟩⟩)
  obtain ⟨o, ho, hc, hdat⟩ := hr'
  exact ⟨.non, _, d_write I1 (by rw [hD]; exact True.intro) sb ⟨o, ho⟩ (dictN_new ⟨hsys, Nat.zero_le _, [], .nil, o, #[], ep + 1, ho, hc, hdat, rfl, List.nodup_nil⟩), rfl, q⟩
end Sn
namespace Tw
open PySem PySem.Spec PyProof.Rows L2 SlX StX Rs Ma Sn
variable [Rs.Tabz]
section
variable {ε α β S δ : Type} [DecidableEq α] {Z : Wsh ε} {ρ : List (Option VP)} {κ : List Ow} {P : Program} {w : World} {K : PySem.W.Frag} {d : α → PyData} {n : Nat} [c : Keyd d n] {R : β → VP} {Rd : δ → VP} {u : TS} {i : Nat} {kvs : List (α × β)} {ρ2 : S → List (Option VP)} {κ2 : S → List Ow} {mk : Ws ε S δ}
/-- d.clear(), a dict of one's own -/
theorem ts_clearP [∀ b, Mono (R b)] (k : TrS Z ρ (.one i (ownDP K P w d R []) :: κ) u mk ρ2 κ2 Rd) : TrS Z ρ (.one i (ownDP K P w d R kvs) :: κ) (tSeq (tDrop (tClearN K P w (tVar i))) u) mk ρ2 κ2 Rd :=
  ⟨fun σ F L sv sc Nx Rt X q F1 N H e A wsh D nx rt => by
    obtain ⟨a, o, L', hL, h1, h2, h3⟩ := sc
    obtain ⟨zs, ho, hr, hn⟩ := h2 F1 e
    subst hL ho
    have A1 : At F1 ((a, dictN P w zs a) :: (L' ++ N)) H := A
    refine ⟨.ref a, h1, a, zs, rfl, A1.on1, fun z hz => keyAt_up A1.ex (entAll_keys hr z hz), ?_⟩
    have A2 := At.put (u := dictN P w [] a) A1 dictN_notTup dictN_notTbl dictN_ne
    exact k.run σ F1 ((a, dictN P w [] a) :: L') (satV_up e sv) ⟨a, _, L', rfl, h1, fun F' e' => ⟨[], rfl, True.intro, List.nodup_nil⟩, satC_up e h3⟩ Nx Rt X q F1 N _ (Same.refl _) A2 wsh D nx rt⟩
theorem ts_clearI {d : α → PyData} [NumK d] [∀ b, Mono (R b)] (k : TrS Z ρ (.one i (ownDI d R []) :: κ) u mk ρ2 κ2 Rd) : TrS Z ρ (.one i (ownDI d R kvs) :: κ) (tSeq (tDrop (tBM0 K "dict" rDClear (tVar i))) u) mk ρ2 κ2 Rd :=
  ⟨fun σ F L sv sc Nx Rt X q F1 N H e A wsh D nx rt => by
    obtain ⟨a, o, L', hL, h1, h2, h3⟩ := sc
    obtain ⟨zs, ho, hr, hn⟩ := h2 F1 e
    subst hL ho
    have A1 : At F1 ((a, .dK zs) :: (L' ++ N)) H := A
    refine ⟨.ref a, h1, .inr (.inr (.inl ⟨rfl, .inl ⟨zs, A1.on1⟩⟩)), a, zs, rfl, rfl, A1.on1, ?_⟩
    exact k.run σ F1 ((a, .dK []) :: L') (satV_up e sv) ⟨a, _, L', rfl, h1, fun F' e' => ⟨[], rfl, True.intro, List.nodup_nil⟩, satC_up e h3⟩ Nx Rt X q F1 N _ (Same.refl _) (At.put A1) wsh D nx rt⟩
end
section
variable {A0 A1 A2 α β γ : Type} [DecidableEq β] [DecidableEq γ]
/-- a list of three things that stay and of two dicts of one's own -/
def toldB (K : PySem.W.Frag) (P : Program) (w : World) (R0 : A0 → VP) (R1 : A1 → VP) (R2 : A2 → VP) (dk : β → PyData) {n : Nat} [Keyd dk n] (dd : γ → PyData) [NumK dd] (g : A0 × A1 × A2 × List (β × Nat) × List (γ × Nat)) : Addr → Cells → Hp → Prop := fun a M F =>
  ∃ v0 v1 v2 p3 p4 zs zs', M = [(a, .lst [v0, v1, v2, .ref p3, .ref p4]), (p3, dictN P w zs p3), (p4, .dK zs')] ∧ R0 g.1 v0 F ∧ R1 g.2.1 v1 F ∧ R2 g.2.2.1 v2 F ∧ EntAll K dk (fD K dN) zs g.2.2.2.1 F ∧ (g.2.2.2.1.map (·.1)).Nodup ∧ RelD dd (fD K dN) zs' g.2.2.2.2 F ∧ (g.2.2.2.2.map (·.1)).Nodup
end
section
variable {ε A0 A1 A2 α β γ S δ : Type} [DecidableEq β] [DecidableEq γ] {Z : Wsh ε} {ρ : List (Option VP)} {κ : List Ow} {P : Program} {w : World} {K : PySem.W.Frag} {R0 : A0 → VP} {R1 : A1 → VP} {R2 : A2 → VP} [∀ a, Mono (R0 a)] [∀ a, Mono (R1 a)] [∀ a, Mono (R2 a)] {dk : β → PyData} {n : Nat} [Keyd dk n] {dd : γ → PyData} [NumK dd] {Rd : δ → VP} {u : TS} {i : Nat} {ρ2 : S → List (Option VP)} {κ2 : S → List Ow}
  {g : A0 × A1 × A2 × List (β × Nat) × List (γ × Nat)}
theorem told_up {a : Addr} {M : Cells} {F F' : Hp} (e : Same F F') (h : toldB K P w R0 R1 R2 dk dd g a M F) : toldB K P w R0 R1 R2 dk dd g a M F' := by
  obtain ⟨v0, v1, v2, p3, p4, zs, zs', hM, h0, h1, h2, h3, h4, h5, h6⟩ := h
  exact ⟨v0, v1, v2, p3, p4, zs, zs', hM, Mono.go h0 e, Mono.go h1 e, Mono.go h2 e, entAll_up e h3, h4, relD_up e h5, h6⟩
theorem okC_dictN {zs : List Ent} {p : Addr} : OkC (dictN P w zs p) := ⟨dictN_notTup, dictN_notTbl, dictN_ne, fun o u z => (nomatch z)⟩
theorem okC_dK {zs : List (Key × V)} : OkC (.dK zs) := ⟨fun _ z => (nomatch z), fun _ z => (nomatch z), fun _ _ z => (nomatch z), fun _ _ z => (nomatch z)⟩
theorem okC_lst {zs : List V} : OkC (.lst zs) := ⟨fun _ z => (nomatch z), fun _ z => (nomatch z), fun _ _ z => (nomatch z), fun _ _ z => (nomatch z)⟩
theorem tr_borTl {R : α → VP} {te : TE} {mm : Wm ε α} [Cut R] (h : TrE Z (st ρ i (some (Ln [R0 g.1, R1 g.2.1, R2 g.2.2.1, fDK K P w dk (fD K dN) g.2.2.2.1, fDI dd (fD K dN) g.2.2.2.2]))) κ te mm R) (f : freeCs [i] κ = true) (hi : Nat.blt i ρ.length = true) (hX : ∀ Q X, mm Q X → mm Q (fun _ => False)) :
    TrE Z ρ (.many i (toldB K P w R0 R1 R2 dk dd g) :: κ) te mm R :=
  ⟨h.mono, fun σ F L sv sc Q X q F1 N H e A wsh Qk qk => by
    obtain ⟨a, M, L', hL, h1, h2, h3⟩ := sc
    subst hL
    rw [List.append_assoc] at A
    have ht := h2 F1 e
    have e1 := addM_same (At.offL A) (At.nodL A)
    have on := addM_on (At.offL A) (At.nodL A)
    obtain ⟨v0, v1, v2, p3, p4, zs, zs', hM, t0, t1, t2, t3, t4, t5, t6⟩ := told_up e1 ht
    have hv : Ln [R0 g.1, R1 g.2.1, R2 g.2.2.1, fDK K P w dk (fD K dN) g.2.2.2.1, fDI dd (fD K dN) g.2.2.2.2] (.ref a) (addM F1 M) := by
      refine ⟨a, [v0, v1, v2, .ref p3, .ref p4], rfl, on (a, _) (by rw [hM]; exact List.mem_cons_self), t0, t1, t2, ⟨p3, zs, rfl, .inl (on (p3, _) (by rw [hM]; exact List.mem_cons_of_mem _ List.mem_cons_self)), t3, t4⟩, ⟨p4, zs', rfl, .inl (on (p4, _) (by rw [hM]; exact List.mem_cons_of_mem _ (List.mem_cons_of_mem _ List.mem_cons_self))), t5, t6⟩, True.intro⟩
    have ok : ∀ p ∈ M, OkC p.2 := fun p hp => by
      rw [hM] at hp
      rcases List.mem_cons.mp hp with rfl | hp
      · exact okC_lst
      rcases List.mem_cons.mp hp with rfl | hp
      · exact okC_dictN
      rw [List.mem_singleton.mp hp]; exact okC_dK
    have sv1 : SatV (st ρ i (some (Ln [R0 g.1, R1 g.2.1, R2 g.2.2.1, fDK K P w dk (fD K dN) g.2.2.2.1, fDI dd (fD K dN) g.2.2.2.2]))) (σ.set i (some (.ref a))) (addM F1 M) := satV_set hv inferInstance (satV_up (e.trans e1) sv)
    rw [set_id h1] at sv1
    refine h.run σ (addM F1 M) L' sv1 (satC_up (e.trans e1) h3) Q _ (hX Q X q) (addM F1 M) N H (Same.refl _) (At.keepL A) (fun _ _ _ _ _ _ _ _ _ _ z => z.elim) Qk fun v F2 H2 e2 A2 ⟨d, q2, r⟩ => ?_
    have hM2 : ∀ p ∈ M, F2 p.1 = some p.2 ∧ OkC p.2 := fun p hp => ⟨e2 _ _ (on p hp), ok p hp⟩
    exact qk v _ H2 (cutM_same (e1.trans e2) (At.offL A)) (by rw [List.append_assoc]; exact At.unkeepL (At.nodL A) hM2 A2) ⟨d, q2, cut_M (At.nodL A) hM2 r⟩⟩
theorem ts_newTl {t0 t1 t2 te tf : TE} {m0 : Wm ε A0} {m1 : Wm ε A1} {m2 : Wm ε A2} {m3 : Wm ε (List (β × Nat))} {m4 : Wm ε (List (γ × Nat))} {mk : A0 × A1 × A2 × List (β × Nat) × List (γ × Nat) → Ws ε S δ} (i : Nat)
    (h0 : TrE Z ρ κ t0 m0 R0) (h1 : TrE Z ρ κ t1 m1 R1) (h2 : TrE Z ρ κ t2 m2 R2) (h3 : TrM Z ρ κ te m3 (ownDP K P w dk (fD K dN))) (h4 : TrM Z ρ κ tf m4 (ownDI dd (fD K dN))) (f : freeCs [i] κ = true) (hi : Nat.blt i ρ.length = true)
    (k : ∀ g, TrS Z (st ρ i none) (.many i (toldB K P w R0 R1 R2 dk dd g) :: κ) u (mk g) ρ2 κ2 Rd) :
    TrS Z ρ κ (tSeq (tAsg (tLst (tCons t0 (tCons t1 (tCons t2 (tCons te (tCons tf tNil)))))) (gName i)) u) (fun Nx Rt X => m0 (fun a => m1 (fun b => m2 (fun c => m3 (fun d => m4 (fun e => mk (a, b, c, d, e) Nx Rt X) X) X) X) X) X) ρ2 κ2 Rd :=
  ⟨fun σ F L sv sc Nx Rt X q F1 N H e A wsh D nx rt => h0.run σ F L sv sc _ X q F1 N H e A wsh _ fun v0 F2 H2 e2 A2 ⟨a0, q0, r0⟩ => by
    have e12 := e.trans e2
    refine h1.run σ F2 L (satV_up e12 sv) (satC_up e12 sc) _ X q0 F2 N H2 (Same.refl _) A2 (wsh.up e2) _ fun v1 F3 H3 e3 A3 ⟨a1, q1, r1⟩ => ?_
    have e13 := e12.trans e3
    refine h2.run σ F3 L (satV_up e13 sv) (satC_up e13 sc) _ X q1 F3 N H3 (Same.refl _) A3 (wsh.up (e2.trans e3)) _ fun v2 F4 H4 e4 A4 ⟨a2, q2, r2⟩ => ?_
    have e14 := e13.trans e4
    refine h3.run σ F4 L (satV_up e14 sv) (satC_up e14 sc) _ X q2 F4 N H4 (Same.refl _) A4 (wsh.up ((e2.trans e3).trans e4)) _ fun p3 o3 F5 H5 a3 e5 A5 r3 q3 => ?_
    have e15 := e14.trans e5
    have A5' : At F5 (L ++ ((p3, o3) :: N)) H5 := A5.perm List.perm_middle.symm
    refine h4.run σ F5 L (satV_up e15 sv) (satC_up e15 sc) _ X q3 F5 _ H5 (Same.refl _) A5' (wsh.up (((e2.trans e3).trans e4).trans e5)).push1 _ fun p4 o4 F6 H6 a4 e6 A6 r4 q4 => ?_
    have e16 := e15.trans e6
    refine ⟨Nat.le_of_ble_eq_true rfl, fun p hp => ?_⟩
    obtain ⟨zs, ho3, hE, hn⟩ := r3 F6 e6
    obtain ⟨zs', ho4, hE', hn'⟩ := r4 F6 (Same.refl _)
    subst ho3 ho4
    have A7 : At F6 ((p, .lst [v0, v1, v2, .ref p3, .ref p4]) :: (p4, .dK zs') :: (L ++ ((p3, dictN P w zs p3) :: N))) (upd H6 p (.lst [v0, v1, v2, .ref p3, .ref p4])) := A6.cell hp
    have pm : List.Perm ((p, HO.lst [v0, v1, v2, .ref p3, .ref p4]) :: (p4, HO.dK zs') :: (L ++ ((p3, dictN P w zs p3) :: N))) (([(p, HO.lst [v0, v1, v2, .ref p3, .ref p4]), (p3, dictN P w zs p3), (p4, HO.dK zs')] ++ L) ++ N) := by
      refine List.Perm.cons _ ?_
      refine (List.Perm.cons _ List.perm_middle).trans ?_
      exact List.Perm.swap _ _ _
    refine (k (a0, a1, a2, a3, a4)).run (σ.set i (some (.ref p))) F6 ([(p, HO.lst [v0, v1, v2, .ref p3, .ref p4]), (p3, dictN P w zs p3), (p4, HO.dK zs')] ++ L) (satV_none (satV_up e16 sv)) ⟨p, _, L, rfl, ?_, fun F' e' => ⟨v0, v1, v2, p3, p4, zs, zs', rfl, Mono.go r0 ((((e3.trans e4).trans e5).trans e6).trans e'), Mono.go r1 (((e4.trans e5).trans e6).trans e'), Mono.go r2 ((e5.trans e6).trans e'), entAll_up e' hE, hn, relD_up e' hE', hn'⟩, satC_agree (js := [i]) (fun l hl => List.getElem?_set_ne fun z => hl (by rw [z]; exact List.mem_singleton.mpr rfl)) f (satC_up e16 sc)⟩ Nx Rt X q4 F6 N _ (Same.refl _) (A7.perm pm) (wsh.up ((((e2.trans e3).trans e4).trans e5).trans e6)) D
      (fun σ3 F7 L3 H7 e7 A8 n => nx σ3 F7 L3 H7 (((((e2.trans e3).trans e4).trans e5).trans e6).trans e7) A8 n) fun v F7 H7 e7 A8 n => rt v F7 H7 (((((e2.trans e3).trans e4).trans e5).trans e6).trans e7) A8 n
    rw [List.getElem?_set_self (by rw [← sat_len sv]; exact Nat.le_of_ble_eq_true hi)]⟩
theorem ts_clearT3 {a0 : A0} {a1 : A1} {a2 : A2} {kvs : List (β × Nat)} {ds : List (γ × Nat)} {mk : Ws ε S δ} (k : TrS Z ρ (.many i (toldB K P w R0 R1 R2 dk dd (a0, a1, a2, [], ds)) :: κ) u mk ρ2 κ2 Rd) :
    TrS Z ρ (.many i (toldB K P w R0 R1 R2 dk dd (a0, a1, a2, kvs, ds)) :: κ) (tSeq (tDrop (tClearN K P w (tOp (rIxL K) (tVar i) (tC (.int 3))))) u) mk ρ2 κ2 Rd :=
  ⟨fun σ F L sv sc Nx Rt X q F1 N H e A wsh D nx rt => by
    obtain ⟨a, M, L', hL, h1, h2, h3⟩ := sc
    obtain ⟨v0, v1, v2, p3, p4, zs, zs', hM, t0, t1, t2, t3, t4, t5, t6⟩ := h2 F1 e
    subst hL hM
    refine ⟨.ref a, h1, a, _, 3, .ref p3, rfl, rfl, .inl (.inl (A.on (a, _) List.mem_cons_self)), rfl, p3, zs, rfl, A.on (p3, _) (List.mem_cons_of_mem _ List.mem_cons_self), fun z hz => keyAt_up A.ex (entAll_keys t3 z hz), ?_⟩
    have Ap : At F1 ((p3, dictN P w zs p3) :: (a, HO.lst [v0, v1, v2, .ref p3, .ref p4]) :: (p4, HO.dK zs') :: (L' ++ N)) H := A.perm (List.Perm.swap _ _ _)
    have A2 := At.put (u := dictN P w [] p3) Ap dictN_notTup dictN_notTbl dictN_ne
    have A3 : At F1 (([(a, HO.lst [v0, v1, v2, .ref p3, .ref p4]), (p3, dictN P w [] p3), (p4, HO.dK zs')] ++ L') ++ N) (upd H p3 (dictN P w [] p3)) := A2.perm (List.Perm.swap _ _ _)
    exact k.run σ F1 ([(a, HO.lst [v0, v1, v2, .ref p3, .ref p4]), (p3, dictN P w [] p3), (p4, HO.dK zs')] ++ L') (satV_up e sv) ⟨a, _, L', rfl, h1, fun F' e' => ⟨v0, v1, v2, p3, p4, [], zs', rfl, Mono.go t0 e', Mono.go t1 e', Mono.go t2 e', True.intro, List.nodup_nil, relD_up e' t5, t6⟩, satC_up e h3⟩ Nx Rt X q F1 N _ (Same.refl _) A3 wsh D nx rt⟩
theorem ts_clearT4 {a0 : A0} {a1 : A1} {a2 : A2} {kvs : List (β × Nat)} {ds : List (γ × Nat)} {mk : Ws ε S δ} (k : TrS Z ρ (.many i (toldB K P w R0 R1 R2 dk dd (a0, a1, a2, kvs, [])) :: κ) u mk ρ2 κ2 Rd) :
    TrS Z ρ (.many i (toldB K P w R0 R1 R2 dk dd (a0, a1, a2, kvs, ds)) :: κ) (tSeq (tDrop (tBM0 K "dict" rDClear (tOp (rIxL K) (tVar i) (tC (.int 4))))) u) mk ρ2 κ2 Rd :=
  ⟨fun σ F L sv sc Nx Rt X q F1 N H e A wsh D nx rt => by
    obtain ⟨a, M, L', hL, h1, h2, h3⟩ := sc
    obtain ⟨v0, v1, v2, p3, p4, zs, zs', hM, t0, t1, t2, t3, t4, t5, t6⟩ := h2 F1 e
    subst hL hM
    have hp : H p4 = some (.dK zs') := A.on (p4, _) (List.mem_cons_of_mem _ (List.mem_cons_of_mem _ List.mem_cons_self))
    refine ⟨.ref a, h1, a, _, 4, .ref p4, rfl, rfl, .inl (.inl (A.on (a, _) List.mem_cons_self)), rfl, .inr (.inr (.inl ⟨rfl, .inl ⟨zs', hp⟩⟩)), p4, zs', rfl, rfl, hp, ?_⟩
    have pm : List.Perm ((a, HO.lst [v0, v1, v2, .ref p3, .ref p4]) :: (p3, dictN P w zs p3) :: (p4, HO.dK zs') :: (L' ++ N)) ((p4, HO.dK zs') :: (a, HO.lst [v0, v1, v2, .ref p3, .ref p4]) :: (p3, dictN P w zs p3) :: (L' ++ N)) :=
      ((List.Perm.swap _ _ _).cons _).trans (List.Perm.swap _ _ _)
    have A2 := At.put (u := HO.dK []) (A.perm pm)
    have pm2 : List.Perm ((p4, HO.dK []) :: (a, HO.lst [v0, v1, v2, .ref p3, .ref p4]) :: (p3, dictN P w zs p3) :: (L' ++ N)) (([(a, HO.lst [v0, v1, v2, .ref p3, .ref p4]), (p3, dictN P w zs p3), (p4, HO.dK [])] ++ L') ++ N) :=
      (List.Perm.swap _ _ _).trans ((List.Perm.swap _ _ _).cons _)
    exact k.run σ F1 ([(a, HO.lst [v0, v1, v2, .ref p3, .ref p4]), (p3, dictN P w zs p3), (p4, HO.dK [])] ++ L') (satV_up e sv) ⟨a, _, L', rfl, h1, fun F' e' => ⟨v0, v1, v2, p3, p4, zs, [], rfl, Mono.go t0 e', Mono.go t1 e', Mono.go t2 e', entAll_up e' t3, t4, True.intro, List.nodup_nil⟩, satC_up e h3⟩ Nx Rt X q F1 N _ (Same.refl _) (A2.perm pm2) wsh D nx rt⟩
end
end Tw

/-! Sz9: != of lists of five unlike things; their first three, as data; tuples of three unlike things; list(d.items()), d by numbers. -/
namespace Tw
open PySem PySem.Spec PyProof.Rows L2 SlX StX Rs Ma Sn
variable [Rs.Tabz]
section
variable {ε A0 A1 A2 β γ : Type} [DecidableEq A0] [DecidableEq A1] [DecidableEq A2] [DecidableEq β] [DecidableEq γ] {K : PySem.W.Frag} {P : Program} {w : World} {d0 : A0 → PyData} {n0 : Nat} [Nice d0 n0] {d1 : A1 → PyData} {n1 : Nat} [Nice d1 n1] {d2 : A2 → PyData} {n2 : Nat} [Nice d2 n2] {dk : β → PyData} {n : Nat} [Keyd dk n] {dd : γ → PyData} [NumK dd]
theorem each5' {A B C D E : VP} {vs : List V} {F : Hp} (h : Each [A, B, C, D, E] vs F) : ∃ a b c d e, vs = [a, b, c, d, e] ∧ A a F ∧ B b F ∧ C c F ∧ D d F ∧ E e F := by
  cases vs with
  | nil => exact h.elim
  | cons a vs => cases vs with
    | nil => exact h.2.elim
    | cons b vs => cases vs with
      | nil => exact h.2.2.elim
      | cons c vs => cases vs with
        | nil => exact h.2.2.2.elim
        | cons d vs => cases vs with
          | nil => exact h.2.2.2.2.elim
          | cons e vs => cases vs with
            | nil => exact ⟨a, b, c, d, e, rfl, h.1, h.2.1, h.2.2.1, h.2.2.2.1, h.2.2.2.2.1⟩
            | cons _ _ => exact h.2.2.2.2.2.elim
def recEq5 (a b : A0 × A1 × A2 × List (β × Nat) × List (γ × Nat)) : Bool := decide (a.1 = b.1) && (decide (a.2.1 = b.2.1) && (decide (a.2.2.1 = b.2.2.1) && (eqA a.2.2.2.1 b.2.2.2.1 && eqA a.2.2.2.2 b.2.2.2.2)))
theorem o_neM5 (h0 : n0 ≤ 64 := by decide) (h1 : n1 ≤ 64 := by decide) (h2 : n2 ≤ 64 := by decide) : Op2 ε (rEqM K P w true) (fun g : A0 × A1 × A2 × List (β × Nat) × List (γ × Nat) => Ln [fD K d0 g.1, fD K d1 g.2.1, fD K d2 g.2.2.1, fDK K P w dk (fD K dN) g.2.2.2.1, fDI dd (fD K dN) g.2.2.2.2]) (fun g : A0 × A1 × A2 × List (β × Nat) × List (γ × Nat) => Ln [fD K d0 g.1, fD K d1 g.2.1, fD K d2 g.2.2.1, fDKZ K P w dk (fD K dN) g.2.2.2.1, fDZ dd (fD K dN) g.2.2.2.2]) (fun a b => pur (!recEq5 a b)) (fD K dB) := op_pur fun g h x y F L ⟨p, xs, ex, hp, hx⟩ ⟨q, ys, ey, hq, hy⟩ => fun F1 N H e A Qk qk => by
  subst ex ey
  have e := e.trans A.ex
  obtain ⟨x0, x1, x2, x3, x4, rfl, x0h, x1h, x2h, ⟨D, zs, ex, hD, hE, nd⟩, ⟨D2, zs2, ex2, hD2, hE2, nd2⟩⟩ := each5' hx
  obtain ⟨y0, y1, y2, y3, y4, rfl, y0h, y1h, y2h, ⟨D', o', zs', ey, hD', hE', nd'⟩, ⟨D2', o2', zs2', ey2, hD2', hE2', nd2'⟩⟩ := each5' hy
  subst ex ex2 ey ey2
  refine ⟨p, q, _, _, [decide (g.1 = h.1), decide (g.2.1 = h.2.1), decide (g.2.2.1 = h.2.2.1), eqA g.2.2.2.1 h.2.2.2.1, eqA g.2.2.2.2 h.2.2.2.2], rfl, rfl, e _ _ hp, e _ _ hq, ⟨?_, ?_, ?_, ?_, ?_, True.intro⟩, ?_⟩
  · rw [← Nice.eq (d := d0) g.1 h.1]
    exact .dt (dp_up e x0h) (dp_up e y0h) (nice_shaped h0 _) (nice_shaped h0 _)
  · rw [← Nice.eq (d := d1) g.2.1 h.2.1]
    exact .dt (dp_up e x1h) (dp_up e y1h) (nice_shaped h1 _) (nice_shaped h1 _)
  · rw [← Nice.eq (d := d2) g.2.2.1 h.2.2.1]
    exact .dt (dp_up e x2h) (dp_up e y2h) (nice_shaped h2 _) (nice_shaped h2 _)
  · have := EqVs.dn (K := K) (P := P) (w := w) (H := H) (r := _) (rd_up e hD) (.inr ⟨o', e _ _ hD'⟩) (fun z hz => keyAt_up e (entAll_keys hE z hz)) (fun z hz => keyAt_up e (entAll_keys hE' z hz)) (hitN_of hE' hE)
    rw [entAll_len hE, entAll_len hE'] at this
    exact this
  · have := EqVs.di (K := K) (P := P) (w := w) (H := H) (r := _) (rd_up e hD2) (.inr ⟨o2', e _ _ hD2'⟩) (relD_nodup hE2 nd2) (hitK_of hE2' hE2)
    rw [relD_len hE2, relD_len hE2'] at this
    exact this
  have := qk (.bl (!recEq5 g h)) F1 H (Same.refl _) A (.bl _)
  simpa [recEq5] using this
end
section
variable {ε γ : Type} {Z : Wsh ε} {ρ : List (Option VP)} {κ : List Ow} {K : PySem.W.Frag} {te : TE} {tl th : TO} {mg : Wm ε γ} {Rs : γ → List VP}
theorem each_take : ∀ {Rs : List VP} {vs : List V} {F : Hp} (n : Nat), Each Rs vs F → Each (Rs.take n) (vs.take n) F
  | [], [], _, n, _ => by rw [List.take_nil, List.take_nil]; exact True.intro
  | _ :: _, _ :: _, _, 0, _ => True.intro
  | _ :: _, _ :: _, _, n + 1, h => ⟨h.1, each_take n h.2⟩
  | [], _ :: _, _, _, h => h.elim
  | _ :: _, [], _, _, h => h.elim
theorem tr_slM3 [∀ g, MonoL (Rs g)] [∀ g, MonoL ((Rs g).take 3)] (h : TrE Z ρ κ te mg (fun g => Ln (Rs g))) (hl : TrO Z ρ κ tl (pur none)) (hh : TrO Z ρ κ th (pur (some 3))) : TrE Z ρ κ (L2.tSl (rSlL K) te tl th) mg (fun g => Ln ((Rs g).take 3)) :=
  ⟨inferInstance, fun σ F L s c Q X q => rw_bind (k := te σ) (h.run σ F L s c Q X q) fun x F1 e1 ⟨g, q1, hx⟩ => rw_bind (k := tl σ) (hl.run σ F1 L (satV_up e1 s) (satC_up e1 c) (fun o => o = none) X rfl) fun o1 F2 e2 ⟨lo, q2, hlo⟩ =>
    rw_bind (k := th σ) (k2 := fun o2 H Q => rSlL K x o1 o2 H Q) (hh.run σ F2 L (satV_up (e1.trans e2) s) (satC_up (e1.trans e2) c) (fun o => o = some 3) X rfl) fun o2 F3 e3 ⟨hi, q3, hhi⟩ => .of fun F4 N H e A Qk qk => by
      obtain ⟨a, vs, rfl, hs, hr⟩ := hx
      subst hlo hhi q2 q3
      refine ⟨a, vs, rfl, .inl (.inl (A.ex _ _ (((e2.trans e3).trans e) _ _ hs))), fun p hp => ?_⟩
      rw [cut_eq]
      have ec : cutL vs none (some 3) = vs.take 3 := rfl
      rw [ec]
      have s1 : Same F4 (upd F4 p (.lst (vs.take 3))) := same_new (A.free hp)
      exact qk _ _ _ s1 (A.new hp) ⟨_, q1, p, _, rfl, upd_same, each_take 3 (MonoL.mono _ _ _ (((e2.trans e3).trans e).trans s1) hr)⟩⟩
/-! tuples of three unlike things -/
def fT3 (K : PySem.W.Frag) {A B C : Type} (R0 : A → VP) (R1 : B → VP) (R2 : C → VP) : A × B × C → VP := fun g => Tp K [R0 g.1, R1 g.2.1, R2 g.2.2]
instance {A B C : Type} {R0 : A → VP} {R1 : B → VP} {R2 : C → VP} [∀ a, Mono (R0 a)] [∀ a, Mono (R1 a)] [∀ a, Mono (R2 a)] {g : A × B × C} : Mono (fT3 K R0 R1 R2 g) := by unfold fT3; infer_instance
variable {A B C : Type} {R0 : A → VP} {R1 : B → VP} {R2 : C → VP} [∀ a, Mono (R0 a)] [∀ a, Mono (R1 a)] [∀ a, Mono (R2 a)]
theorem tr_tupU {t0 t1 t2 : TE} {m0 : Wm ε A} {m1 : Wm ε B} {m2 : Wm ε C} (h0 : TrE Z ρ κ t0 m0 R0) (h1 : TrE Z ρ κ t1 m1 R1) (h2 : TrE Z ρ κ t2 m2 R2) :
    TrE Z ρ κ (tTup (tCons t0 (tCons t1 (tCons t2 tNil)))) (fun Q X => m0 (fun a => m1 (fun b => m2 (fun c => Q (a, b, c)) X) X) X) (fT3 K R0 R1 R2) :=
  ⟨inferInstance, fun σ F L sv sc Q X q F1 N H e A wsh Qk qk => h0.run σ F L sv sc _ X q F1 N H e A wsh _ fun v0 F2 H2 e2 A2 ⟨a0, q0, r0⟩ => by
    have e12 := e.trans e2
    refine h1.run σ F2 L (satV_up e12 sv) (satC_up e12 sc) _ X q0 F2 N H2 (Same.refl _) A2 (wsh.up e2) _ fun v1 F3 H3 e3 A3 ⟨a1, q1, r1⟩ => ?_
    have e13 := e12.trans e3
    refine h2.run σ F3 L (satV_up e13 sv) (satC_up e13 sc) _ X q1 F3 N H3 (Same.refl _) A3 (wsh.up (e2.trans e3)) _ fun v2 F4 H4 e4 A4 ⟨a2, q2, r2⟩ => ?_
    refine ⟨Nat.le_of_ble_eq_true rfl, fun p hp => ?_⟩
    have s1 := same_new (A4.free hp) (o := HO.tup [v0, v1, v2])
    exact qk _ _ _ (((e2.trans e3).trans e4).trans s1) (A4.new hp) ⟨(a0, a1, a2), q2, p, [v0, v1, v2], rfl, .inl (.inl upd_same), Mono.go r0 ((e3.trans e4).trans s1), Mono.go r1 (e4.trans s1), Mono.go r2 s1, True.intro⟩⟩
/-- as a row of things of one of three kinds -/
def RU3 (R0 : A → VP) (R1 : B → VP) (R2 : C → VP) : A ⊕ B ⊕ C → VP
  | .inl a => R0 a
  | .inr (.inl b) => R1 b
  | .inr (.inr c) => R2 c
instance {x : A ⊕ B ⊕ C} : Mono (RU3 R0 R1 R2 x) := by
  rcases x with a | b | c
  · exact inferInstanceAs (Mono (R0 a))
  · exact inferInstanceAs (Mono (R1 b))
  · exact inferInstanceAs (Mono (R2 c))
theorem tr_U3 {m : Wm ε (A × B × C)} (h : TrE Z ρ κ te m (fT3 K R0 R1 R2)) : TrE Z ρ κ te (fun Q X => m (fun g => Q [.inl g.1, .inr (.inl g.2.1), .inr (.inr g.2.2)]) X) (fTp K (RU3 R0 R1 R2)) :=
  ⟨inferInstance, fun σ F L s c Q X q => (h.run σ F L s c _ X q).weak fun v F2 e ⟨g, q1, r1⟩ => ⟨_, q1, r1⟩⟩
theorem tr_ixU0 {m : Wm ε (A × B × C)} (h : TrE Z ρ κ te m (fT3 K R0 R1 R2)) : TrE Z ρ κ (tOp (rIxT K) te (tC (.int 0))) (fun Q X => m (fun g => Q g.1) X) R0 :=
  ⟨inferInstance, fun σ F L s c Q X q => rw_bind (k := te σ) (k2 := fun x H Q => rIxT K x (.int 0) H Q) (h.run σ F L s c _ X q) fun x F1 e1 ⟨g, q1, a, vs, ev, hs, hr⟩ => .of fun F2 N H e A Qk qk => by
    obtain ⟨v0, v1, v2, rfl, r0, r1, r2⟩ := each3' hr
    exact ⟨a, _, 0, v0, ev, rfl, sqT_up (e.trans A.ex) hs, rfl, qk _ F2 H (Same.refl _) A ⟨_, q1, Mono.go r0 e⟩⟩⟩
theorem tr_ixU1 {m : Wm ε (A × B × C)} (h : TrE Z ρ κ te m (fT3 K R0 R1 R2)) : TrE Z ρ κ (tOp (rIxT K) te (tC (.int 1))) (fun Q X => m (fun g => Q g.2.1) X) R1 :=
  ⟨inferInstance, fun σ F L s c Q X q => rw_bind (k := te σ) (k2 := fun x H Q => rIxT K x (.int 1) H Q) (h.run σ F L s c _ X q) fun x F1 e1 ⟨g, q1, a, vs, ev, hs, hr⟩ => .of fun F2 N H e A Qk qk => by
    obtain ⟨v0, v1, v2, rfl, r0, r1, r2⟩ := each3' hr
    exact ⟨a, _, 1, v1, ev, rfl, sqT_up (e.trans A.ex) hs, rfl, qk _ F2 H (Same.refl _) A ⟨_, q1, Mono.go r1 e⟩⟩⟩
theorem tr_ixU2 {m : Wm ε (A × B × C)} (h : TrE Z ρ κ te m (fT3 K R0 R1 R2)) : TrE Z ρ κ (tOp (rIxT K) te (tC (.int 2))) (fun Q X => m (fun g => Q g.2.2) X) R2 :=
  ⟨inferInstance, fun σ F L s c Q X q => rw_bind (k := te σ) (k2 := fun x H Q => rIxT K x (.int 2) H Q) (h.run σ F L s c _ X q) fun x F1 e1 ⟨g, q1, a, vs, ev, hs, hr⟩ => .of fun F2 N H e A Qk qk => by
    obtain ⟨v0, v1, v2, rfl, r0, r1, r2⟩ := each3' hr
    exact ⟨a, _, 2, v2, ev, rfl, sqT_up (e.trans A.ex) hs, rfl, qk _ F2 H (Same.refl _) A ⟨_, q1, Mono.go r2 e⟩⟩⟩
end
end Tw

/-! Sz10: list(d.items()), d by numbers. -/
namespace Sn
open PySem PySem.Spec PyProof.Rows L2 SlX StX Rs Ma Tw
variable [Rs.Tabz]
def tItemsI (te : TE) : TE := fun σ H Q => te σ H fun x H1 => ∃ (d : Addr) (zs : List (Key × V)), x = .ref d ∧ Rd H1 d (.dK zs) ∧
  ∀ (S : Addr) (as : List Addr) (H2 : Hp), H1 S = none → as.length = zs.length → (∀ b o, upd H1 S (.lst (as.map V.ref)) b = some o → H2 b = some o) → (∀ (j : Nat) (a : Addr), as[j]? = some a → ∃ z, zs[j]? = some z ∧ H1 a = none ∧ a ≠ S ∧ H2 a = some (.tup [kV z.1, z.2])) → Q (.ref S) H2
theorem pairs_get {prog : Program} {w : World} : ∀ {es : List DictEntry} {vs : List (Key × Value)}, Pairs (mixKind prog w) es vs → ∀ {j : Nat} {e : DictEntry}, es[j]? = some e → ∃ kv, vs[j]? = some kv ∧ keyIs kv.1 e.key = true ∧ e.val = kv.2
  | _, _, .nil, _, _, h => by cases h
  | _, _, .cons (e := e0) (kv := kv) h1 h2 t, j, e, h => by
    cases j with
    | zero => cases h; exact ⟨kv, rfl, h1, h2⟩
    | succ j => exact pairs_get t (by simpa using h)
theorem pairs_len {prog : Program} {w : World} : ∀ {es : List DictEntry} {vs : List (Key × Value)}, Pairs (mixKind prog w) es vs → es.length = vs.length
  | _, _, .nil => rfl
  | _, _, .cons _ _ t => by rw [List.length_cons, List.length_cons, pairs_len t]
theorem p_itemsI {X : Cx} {e : Expr} {te : TE} {p2 apos cpos pos2 : Pos} (hc : X.calm = true) (B : Bf X.mg) (he : PE X e te) (hg2 : Gl X "list" := by rfl)
    (hbase : attributeBase e "items" X.env (eval e X.env) = eval e X.env := by rfl) (hline : (apos.endLine == cpos.line) = true := by rfl)
    (hs2 : starEach [Expr.Call (.Attribute e "items" apos) [] [] cpos] X.env = [(false, eval (Expr.Call (.Attribute e "items" apos) [] [] cpos) X.env)] := by rfl) :
    PE X (.Call (.Name "list" p2) [.Call (.Attribute e "items" apos) [] [] cpos] [] pos2) (tItemsI te) := by
  refine ⟨fun pins s σ H Q I h => ?_⟩
  refine wpAny_Call_Name_kw (ld_blt I hg2 B.list boot_list ?_ (by decide) (by decide))
  refine PyProof.Rows.callWith_type1 ?_ (by rw [hs2]; rfl) (by rfl)
  rw [hs2]
  show wpAny _ _ (spliced [(false, eval (Expr.Call (.Attribute e "items" apos) [] [] cpos) X.env)]) _ _ s
  refine Calls.spliced_cons ?_
  refine wpAny_Call_method (T := "dict") (id := "dict.items") hbase rfl hline F.plainAttrs_dict F.slot_dict_items F.type_dict_items (thn (he.run pins s σ H _ I h) fun u s1 ⟨x, H1, I1, rx, d, zs, ex, hD, q⟩ => ?_)
  subst ex
  obtain rfl : u = Value.ref d := rx
  obtain ⟨hlen, hsys, ys, rel, dd⟩ := dk_rd I1.hok hD
  obtain ⟨o0, es, ep, ho0, hx0, hd0, _, hpr, _⟩ := dd
  have hraw : s1.heap.DictRaw d es ep := ⟨o0, ho0, hx0, hd0⟩
  have hsz : es.size = ys.length := by rw [← Array.length_toList]; exact pairs_len hpr
  refine ⟨hraw.typeIs, fun b eb => by cases eb; obtain ⟨o, ho, hx, _⟩ := hraw; exact ⟨o, ho, hx.2.1⟩, ?_⟩
  show wpAny _ _ (callWith cpos (.builtin "dict.items") [.ref d] [] []) _ X.xe s1
  refine method_meetsIn F.slot_dict_items F.entry_dict_items rfl (PySem.evalArgs_none ⟨rfl, hraw.typeIs, F.args_dict_items_1 _, _, meets_dict_items_raw d hsys, ⟨es, ep, hraw⟩, ?_⟩)
  refine wpAny_pure ?_
  have hh : X.A.handled = none := I1.ok.hd hc
  have rl : zs.length = ys.length := Paired.length rel
  have hyl : ys.length ≤ sizeLine := by rw [← rl]; exact hlen
  have k1 : ∀ b o, s1.heap.get? b = some o → (s1.heap.push { cls := .type "dict_items", data := .fields #[.ref d] }).get? b = some o := fun b o e => Heap.get?_push_of_some _ e
  refine PySem.W.dil_call (es := es) (ep := ep) (d := d) hh ⟨_, Heap.get?_push_size _ rfl, rfl, rfl⟩ (hraw.at fun o e => k1 _ _ e) (by rw [hsz]; exact hyl) (fun h2 tk2 acc c as hk hS hl hG hacc => ?_)
  have k2 : ∀ b o, s1.heap.get? b = some o → h2.get? b = some o := fun b o e => hk b o (k1 b o e)
  have hsa : as.length = zs.length := by rw [hl, hsz, rl]
  obtain ⟨S, hS'⟩ : ∃ S, S = (s1.heap.push { cls := .type "dict_items", data := .fields #[.ref d] }).objs.size := ⟨_, rfl⟩
  rw [← hS'] at hS hG ⊢
  have hge : s1.heap.objs.size ≤ S := by
    rw [hS']
    show s1.heap.objs.size ≤ (s1.heap.objs.push _).size
    rw [Array.size_push]
    exact Nat.le_succ _
  have eb : Vals (as.map V.ref) acc.toList := by rw [hacc]; exact vals_refs _
  have I2 : Inv X pins σ (upd H1 S (.lst (as.map V.ref))) { s1 with heap := h2, toks := tk2 } := I1.laid (t' := tk2) (o := .lst (as.map V.ref)) k2 hge ⟨by rw [List.length_map, hsa, rl]; exact hyl, acc.toList, c, eb, by rw [Array.toArray_toList]; exact hS⟩
  have nd : as.Nodup := hG.rise.imp fun h => Nat.ne_of_lt h
  obtain ⟨H2, I3, g, qq⟩ := L2.DX.takeT (P := fun a vs => ∃ (j : Nat) (z : Key × V), as[j]? = some a ∧ zs[j]? = some z ∧ vs = [kV z.1, z.2]) I1 as _ I2 nd fun a ha => by
    obtain ⟨j, hj⟩ := List.mem_iff_getElem?.mp ha
    obtain ⟨hjs, hobj⟩ := hG.pairs j a hj
    have hlt := hG.above a ha
    obtain ⟨kv, hkv, hki, hval⟩ := pairs_get hpr (show es.toList[j]? = some es[j] by rw [Array.getElem?_toList, Array.getElem?_eq_getElem hjs])
    have hjz : j < zs.length := by rw [← hsa]; exact (List.getElem?_eq_some_iff.mp hj).1
    obtain ⟨y', hy', r1, r2⟩ := paired_get rel (List.getElem?_eq_getElem hjz)
    rw [hkv] at hy'
    cases hy'
    have hga : s1.heap.objs.size ≤ a := Nat.le_trans hge (Nat.le_of_lt hlt)
    have rk : RelV (kV zs[j].1) es[j].key := by
      rw [r1]
      rcases keyIs_shape hki with ⟨i, t, e1, e2⟩ | ⟨x, t, e1, e2⟩ <;> rw [e1, e2] <;> exact ⟨t, rfl⟩
    refine ⟨hga, by rw [upd_ne (Nat.ne_of_gt hlt)]; exact I1.hok.fresh hga, [kV zs[j].1, zs[j].2], ⟨j, zs[j], hj, List.getElem?_eq_getElem hjz, rfl⟩, fun H2 => ⟨by simp [sizeLine_eq], [es[j].key, es[j].val], .cons rk (.cons (by rw [hval]; exact r2) .nil), ⟨_, hobj, rfl, 0, rfl⟩⟩⟩
  refine ⟨.ref S, H2, I3, rfl, q S as H2 (I1.hok.fresh hge) hsa g fun j a hj => ?_⟩
  obtain ⟨vs, ⟨j', z, e1, e2, e4⟩, hH⟩ := qq a (List.mem_of_getElem? hj)
  subst e4
  have hjj : j = j' := (List.getElem?_inj (List.getElem?_eq_some_iff.mp hj).1 nd).mp (hj.trans e1.symm)
  subst hjj
  have hlt := hG.above a (List.mem_of_getElem? hj)
  exact ⟨z, e2, I1.hok.fresh (Nat.le_trans hge (Nat.le_of_lt hlt)), Nat.ne_of_gt hlt, hH⟩
end Sn
namespace Tw
open PySem PySem.Spec PyProof.Rows L2 SlX StX Rs Ma Sn
variable [Rs.Tabz]
section
variable {ε β : Type} {Z : Wsh ε} {ρ : List (Option VP)} {κ : List Ow} {K : PySem.W.Frag} {te : TE} {b : β → PyData}
/-- the items of a dict from numbers to data, as pairs of data -/
theorem tr_itemsI {m : Wm ε (List (Nat × β))} (h : TrE Z ρ κ te m (fDZ dN (fD K b))) : TrE Z ρ κ (tItemsI te) m (fLn (fD K (dP dN b))) :=
  ⟨inferInstance, fun σ F L s cc Q X q F1 N H e A wsh Qk qk => h.run σ F L s cc _ X q F1 N H e A wsh _ fun v F2 H2 e2 A2 ⟨kvs, q1, D, o, zs, ev, hD, hent, hnd⟩ => by
    refine ⟨D, zs, ev, .inr ⟨o, A2.ex _ _ hD⟩, fun S as H3 hS hal kp hp => ?_⟩
    have hS3 : H3 S = some (.lst (as.map V.ref)) := kp _ _ upd_same
    have hat : ∀ c ∈ as, H2 c = none ∧ c ≠ S ∧ ∃ o, H3 c = some o := fun c hc => by
      obtain ⟨j, hj⟩ := List.mem_iff_getElem?.mp hc
      obtain ⟨z, _, h1, h2, h3⟩ := hp j c hj
      exact ⟨h1, h2, _, h3⟩
    have same : Same F2 (grow F2 S as H3) := fun c o ec => by
      unfold grow
      have hc := A2.ex c o ec
      rw [if_neg (fun z => by rw [z, hS] at hc; cases hc), if_neg (fun z => by rw [(hat c z).1] at hc; cases hc)]
      exact ec
    have k23 : ∀ c o, H2 c = some o → H3 c = some o := fun c o ec => kp c o (by rw [upd_ne (fun z => by rw [z, hS] at ec; cases ec)]; exact ec)
    have A3 : At (grow F2 S as H3) (L ++ N) H3 := by
      refine ⟨fun c o ec => ?_, fun p hm => k23 _ _ (A2.on p hm), fun p hm => ?_, A2.nd, A2.nt, A2.nb, A2.nc, (show TabT F2 H3 from fun P hP => (A2.tb P hP).imp fun ps h => ⟨k23 _ _ h.1, h.2⟩).same same, fun P hP => by
        unfold grow
        rw [if_neg (A2.notT hP (.inl hS)), if_neg (fun z => by
          obtain ⟨ps, e, _⟩ := A2.tb P hP
          rw [(hat P z).1] at e; cases e)]
        exact A2.ft P hP⟩
      · unfold grow at ec
        split at ec
        · exact ec
        · split at ec
          · exact ec
          · exact k23 _ _ (A2.ex _ _ ec)
      · have h1 := A2.on p hm
        unfold grow
        rw [if_neg (fun z => by rw [z, hS] at h1; cases h1), if_neg (fun z => by rw [(hat _ z).1] at h1; cases h1)]
        exact A2.off p hm
    refine qk _ _ H3 (e2.trans same) A3 ⟨kvs, q1, S, as.map V.ref, rfl, by unfold grow; rw [if_pos rfl]; exact hS3, ?_⟩
    have step : ∀ (m : Nat) (bs : List Addr), (∀ (j : Nat) (c : Addr), bs[j]? = some c → as[m + j]? = some c) → bs.length + m = zs.length → ∀ (zs' : List (Key × V)) (ks : List (Nat × β)), zs' = zs.drop m → RelD dN (fD K b) zs' ks F2 → Each (ks.map (fD K (dP dN b))) (bs.map V.ref) (grow F2 S as H3) := by
      intro m bs
      induction bs generalizing m with
      | nil =>
        intro _ hlen zs' ks e1 e2
        rw [List.drop_eq_nil_of_le (by simp at hlen; omega)] at e1
        subst e1
        cases ks with
        | nil => exact True.intro
        | cons _ _ => exact e2.elim
      | cons cc bs ih =>
        intro hb hlen zs' ks e1 e2
        simp only [List.length_cons] at hlen
        have hx : m < zs.length := by omega
        rw [List.drop_eq_getElem_cons hx] at e1
        subst e1
        cases ks with
        | nil => exact e2.elim
        | cons k ks =>
          have hc : as[m]? = some cc := by
            have := hb 0 cc rfl
            rwa [Nat.add_zero] at this
          obtain ⟨z, h1, h3, h4, h5⟩ := hp m cc hc
          rw [List.getElem?_eq_getElem hx] at h1
          cases h1
          obtain ⟨⟨g1, g3⟩, g4⟩ := e2
          refine ⟨Dp.tup (xs := [kV zs[m].1, zs[m].2]) (.inl (.inl (by unfold grow; rw [if_neg h4, if_pos (List.mem_of_getElem? hc)]; exact h5))) (.cons ?_ (.cons (Mono.go (R := fD K b k.2) g3 same) .nil)), ih (m + 1) (fun j d hj => by have := hb (j + 1) d (by rw [List.getElem?_cons_succ]; exact hj); rwa [show m + 1 + j = m + (j + 1) from by omega]) (by omega) _ ks rfl g4⟩
          rw [g1]
          exact Dp.int _
    exact step 0 as (fun j c hj => by rwa [Nat.zero_add]) (by omega) zs kvs rfl hent⟩
end
end Tw

/-! Sz11: sorted of a list of places; a record taken apart. -/
namespace Tw
open PySem PySem.Spec PyProof.Rows L2 SlX StX Rs Ma Sn
variable [Rs.Tabz]
theorem c_sortedPl {ε : Type} {K : PySem.W.Frag} : Cb ε (rSortedDt K) (fun xs => [fD K (dL dPl) xs]) (fun xs Q X => Q (sortD dPl xs)) (fD K (dL dPl)) := ⟨fun xs vs F L hv Q X q =>
  (c_sortedDat (d := dPl) dPl_alike fun x => by have := Nice.dep (d := dPl) x; show (dPl x).depth ≤ 8; omega).run xs vs F L hv Q X ⟨fun x hx => ⟨_, _, rfl⟩, q⟩⟩
theorem sortD_pl {xs : List Plc} (h : xs.Pairwise fun a b => plLe a b = true) : sortD dPl xs = xs := by
  unfold sortD
  rw [dataLe_pl (fun a => a) dPl fun _ => rfl]
  exact List.mergeSort_of_pairwise h
section
variable {A0 A1 A2 A3 : Type} {K : PySem.W.Frag} {R0 : A0 → VP} {R1 : A1 → VP} {R2 : A2 → VP} {R3 : A3 → VP}
theorem tg_M4 {g1 g2 g3 g4 : TG} {js1 js2 js3 js4 : List Nat} {up1 : A0 → List (Option VP) → List (Option VP)} {up2 : A1 → List (Option VP) → List (Option VP)} {up3 : A2 → List (Option VP) → List (Option VP)} {up4 : A3 → List (Option VP) → List (Option VP)} (h1 : TrG g1 R0 js1 up1) (h2 : TrG g2 R1 js2 up2) (h3 : TrG g3 R2 js3 up3) (h4 : TrG g4 R3 js4 up4) :
    TrG (gLst K 4 (gCons g1 (gCons g2 (gCons g3 (gCons g4 gNil))))) (fun g : A0 × A1 × A2 × A3 => Ln [R0 g.1, R1 g.2.1, R2 g.2.2.1, R3 g.2.2.2]) (js1 ++ (js2 ++ (js3 ++ js4))) fun p ρ => up4 p.2.2.2 (up3 p.2.2.1 (up2 p.2.1 (up1 p.1 ρ))) :=
  ⟨fun x v σ F ρ N H s hx A Q q => by
    obtain ⟨a, vs, rfl, hs, hr⟩ := hx
    obtain ⟨v1, v2, v3, v4, rfl, r1, r2, r3, r4⟩ := each4' hr
    refine ⟨a, [v1, v2, v3, v4], rfl, .inl (.inl (A.ex _ _ hs)), rfl, v1, [v2, v3, v4], rfl, h1.run x.1 v1 σ F ρ N H s r1 A _ fun σ1 a1 s1 => ⟨v2, [v3, v4], rfl, h2.run x.2.1 v2 σ1 F _ N H s1 r2 A _ fun σ2 a2 s2 => ⟨v3, [v4], rfl, h3.run x.2.2.1 v3 σ2 F _ N H s2 r3 A _ fun σ3 a3 s3 => ⟨v4, [], rfl, h4.run x.2.2.2 v4 σ3 F _ N H s3 r4 A _ fun σ4 a4 s4 => ⟨rfl, q σ4 (fun i hi => ?_) s4⟩⟩⟩⟩⟩
    rw [List.mem_append, List.mem_append, List.mem_append, not_or, not_or, not_or] at hi
    rw [a4 i hi.2.2.2, a3 i hi.2.2.1, a2 i hi.2.1, a1 i hi.1]⟩
end
end Tw

/-! Sz12: list(d), d a dict by numbers. -/
namespace Sn
open PySem PySem.Spec PyProof.Rows L2 SlX StX Rs Ma Tw
variable [Rs.Tabz]
def rListDI : List V → Hp → VK → Prop := fun xs H Q => ∃ (a : Addr) (kvs : List (Key × V)), xs = [.ref a] ∧ Rd H a (.dK kvs) ∧ ∀ p, H p = none → Q (.ref p) (upd H p (.lst (kvs.map fun kv => kV kv.1)))
section
variable {X : Cx} {e : Expr} {es : List Expr} {t : TA} {p pos : Pos} {j : Nat}
theorem p_listDI (hc : X.calm = true) (B : Bf X.mg) (ha : PA X (e :: es) t) (hg : Gl X "list" := by rfl) (he : starEach (e :: es) X.env = (false, eval e X.env) :: starEach es X.env := by rfl) (hpl : (backTo pos (starEach es X.env)).any (·.1) = false := by rfl) :
    PE X (.Call (.Name "list" p) (e :: es) [] pos) (tCB rListDI t) := pe_callTy (call_listD hc) hg B.list PyProof.Rows.boot_list ha (by decide) (by decide) he hpl
end
end Sn
namespace Tw
open PySem PySem.Spec PyProof.Rows L2 SlX StX Rs Ma Sn
variable [Rs.Tabz]
section
variable {ε β : Type} {K : PySem.W.Frag} {R : β → VP}
theorem each_nums (K : PySem.W.Frag) (xs : List Nat) (F : Hp) : Each (xs.map (Dt K ∘ dN)) (xs.map (V.int ∘ fun n : Nat => (n : Int))) F := by
  induction xs with
  | nil => exact True.intro
  | cons x xs ih => exact ⟨.int _, ih⟩
theorem relD_kvs [∀ b, Mono (R b)] {zs : List (Key × V)} {kvs : List (Nat × β)} {F : Hp} (hr : RelD dN R zs kvs F) : zs.map (fun kv => kV kv.1) = (kvs.map (·.1)).map (V.int ∘ fun n : Nat => (n : Int)) := by
  have := congrArg (List.map kV) (relD_fst hr)
  rw [List.map_map] at this
  rw [show (zs.map fun kv => kV kv.1) = zs.map (kV ∘ Prod.fst) from rfl, this, List.map_map, List.map_map, List.map_map]; rfl
/-- list(d) as data -/
theorem c_listDI [∀ b, Mono (R b)] : Cb ε rListDI (fun kvs : List (Nat × β) => [fDI dN R kvs]) (fun kvs => pur (kvs.map (·.1))) (fD K (dL dN)) := .of fun kvs vs F L hv Q X q => by
  obtain ⟨v, rfl, D, zs, rfl, hD, hr, hn⟩ := each1 hv
  refine ⟨_, q, fun F2 N H e A Qk qk => ⟨D, zs, rfl, rd_up (e.trans A.ex) hD, fun p hp => ?_⟩⟩
  refine qk _ (upd F2 p _) _ (same_new (A.free hp)) (A.new hp) (ls_dt.mp ⟨p, _, rfl, .inl (.inl upd_same), ?_⟩)
  rw [List.map_map, relD_kvs hr]
  exact each_nums K _ _
/-- list(d), a new list -/
theorem c_listDIl [∀ b, Mono (R b)] : Cb ε rListDI (fun kvs : List (Nat × β) => [fDI dN R kvs]) (fun kvs => pur (kvs.map (·.1))) (fLn (fD K dN)) := .of fun kvs vs F L hv Q X q => by
  obtain ⟨v, rfl, D, zs, rfl, hD, hr, hn⟩ := each1 hv
  refine ⟨_, q, fun F2 N H e A Qk qk => ⟨D, zs, rfl, rd_up (e.trans A.ex) hD, fun p hp => ?_⟩⟩
  refine qk _ (upd F2 p _) _ (same_new (A.free hp)) (A.new hp) ⟨p, _, rfl, upd_same, ?_⟩
  rw [relD_kvs hr]
  exact each_nums K _ _
end
end Tw

/-! Sz13: a dict of one's own that is locked while an expression runs; programs whose parts are new. -/
namespace Sn
open PySem PySem.Spec PyProof.Rows L2 SlX StX Rs Ma Tw
variable [Rs.Tabz]
def tLend (te : TE) : TE := fun σ H Q => ∃ d u, H d = some u ∧ Mut (some u) ∧ ∀ od, te σ (upd H d (.frz od u)) fun v H1 => H1 d = some (.frz od u) ∧ Q v (upd H1 d u)
theorem pe_lend {X : Cx} {e : Expr} {te : TE} (he : PE X e te) : PE X e (tLend te) := by
  refine ⟨fun pins s σ H Q I h => ?_⟩
  obtain ⟨d, u, hd, mu, q⟩ := h
  have nf := I.nofrz hd mu
  obtain ⟨od, I2⟩ := I.lock hd mu
  exact thn (he.run pins s σ _ _ I2 (q od)) fun v s1 ⟨x, H1, I1, rx, h1, q1⟩ => ⟨x, _, I1.unlock h1 nf, rx, q1⟩
end Sn
namespace Tw
open PySem PySem.Spec PyProof.Rows L2 SlX StX Rs Ma Sn
variable [Rs.Tabz]
/-- no row -/
def NoSq (u : HO) : Prop := (∀ xs, u ≠ .lst xs) ∧ (∀ xs, u ≠ .tup xs)
section
variable {K : PySem.W.Frag} {F : Hp} {a : Addr} {o : Obj} {z : HO}
theorem rd_cutF (h1 : F a = some (.frz o z)) {b : Addr} {u : HO} (hu : u ≠ z) (hz : ∀ q w, u ≠ .frz q w) (h : F b = some u ∨ ∃ q, F b = some (.frz q u)) : cutF F a b = some u ∨ ∃ q, cutF F a b = some (.frz q u) := by
  have ne : b ≠ a := fun e => by
    rcases h with h | ⟨q, h⟩
    · rw [e, h1] at h
      exact hz _ _ (Option.some.inj h).symm
    · rw [e, h1] at h
      cases h
      exact hu rfl
  rw [cutF_ne ne]; exact h
mutual
theorem dp_cutF (h1 : F a = some (.frz o z)) (hz : NoSq z) : ∀ (d : PyData) (v : V), Dp K F v d → Dp K (cutF F a) v d
  | .none, _, h => by cases h; exact .non
  | .bool b, _, h => by cases h; exact .bl b
  | .int i, _, h => by cases h; exact .int i
  | .str x, _, h => by cases h; exact .str x
  | .list ds, _, h => by
    cases h with
    | lst hs ha => exact .lst (hs.imp (fun r => rd_cutF h1 (fun e => hz.1 _ e.symm) (fun _ _ z => by cases z) r) id) (dps_cutF h1 hz ds _ ha)
  | .dict _, _, h => by cases h
  | .tuple ds, _, h => by
    cases h with
    | tup hs ha => exact .tup (hs.imp (fun r => rd_cutF h1 (fun e => hz.2 _ e.symm) (fun _ _ z => by cases z) r) id) (dps_cutF h1 hz ds _ ha)
theorem dps_cutF (h1 : F a = some (.frz o z)) (hz : NoSq z) : ∀ (ds : List PyData) (vs : List V), DpAll K F vs ds → DpAll K (cutF F a) vs ds
  | [], _, h => by cases h; exact .nil
  | d :: ds, _, h => by
    cases h with
    | cons x1 x2 => exact .cons (dp_cutF h1 hz d _ x1) (dps_cutF h1 hz ds _ x2)
end
theorem entAll_cutF {α β : Type} {d : α → PyData} {n : Nat} [c : Keyd d n] {e : β → PyData} (h1 : F a = some (.frz o z)) (hz : NoSq z) : ∀ {zs : List Ent} {ps : List (α × β)}, EntAll K d (fD K e) zs ps F → EntAll K d (fD K e) zs ps (cutF F a)
  | [], [], _ => True.intro
  | _ :: _, _ :: _, ⟨⟨h2, ⟨h3, h5⟩, h4⟩, h6⟩ => ⟨⟨h2, ⟨dp_cutF h1 hz _ _ h3, h5⟩, dp_cutF h1 hz _ _ h4⟩, entAll_cutF h1 hz h6⟩
  | [], _ :: _, h => h.elim
  | _ :: _, [], h => h.elim
theorem relD_cutF {α β : Type} {d : α → PyData} [c : NumK d] {e : β → PyData} (h1 : F a = some (.frz o z)) (hz : NoSq z) : ∀ {zs : List (Key × V)} {ps : List (α × β)}, RelD d (fD K e) zs ps F → RelD d (fD K e) zs ps (cutF F a)
  | [], [], _ => True.intro
  | _ :: _, _ :: _, ⟨⟨h2, h4⟩, h6⟩ => ⟨⟨h2, dp_cutF h1 hz _ _ h4⟩, relD_cutF h1 hz h6⟩
  | [], _ :: _, h => h.elim
  | _ :: _, [], h => h.elim
end
section
variable {ε α β γ δ : Type} {Z : Wsh ε} {ρ : List (Option VP)} {κ : List Ow} {K : PySem.W.Frag} {te : TE} {m : Wm ε δ} {i : Nat} {ow : γ → Addr → HO → Hp → Prop} {fam : γ → VP} {g : γ}
/-- what is known of the locked dict at D -/
def tagR (D : Addr) (fam : γ → VP) : γ → VP := fun g v F => v = .ref D ∧ fam g v F
instance {D : Addr} {fam : γ → VP} {g : γ} [Mono (fam g)] : Mono (tagR D fam g) := ⟨fun _ _ _ e h => ⟨h.1, Mono.go h.2 e⟩⟩
theorem tr_untag {D : Addr} {m : Wm ε γ} [∀ g, Mono (fam g)] (h : TrE Z ρ κ te m (tagR D fam)) : TrE Z ρ κ te m fam := h.same fun _ _ _ h => h.2
theorem tr_lend {Rt : Addr → δ → VP} {R : δ → VP} [l : LkZ ow fam] [hR : ∀ d, Mono (R d)] (h : ∀ D, TrE Z (st ρ i (some (tagR D fam g))) κ te m (Rt D)) (nl : ∀ a o F, ow g a o F → NoSq o)
    (cut : ∀ D d v F od u, F D = some (.frz od u) → NoSq u → Rt D d v F → R d v (cutF F D)) (f : freeCs [i] κ = true) (hi : Nat.blt i ρ.length = true) (hX : ∀ Q X, m Q X → m Q (fun _ => False)) : TrE Z ρ (.one i (ow g) :: κ) (tLend te) m R :=
  ⟨hR, fun σ F L sv sc Q X q F1 N H e A wsh Qk qk => by
    obtain ⟨a, o, L', hL, h1, h2, h3⟩ := sc
    subst hL
    have A1 : At F1 ((a, o) :: (L' ++ N)) H := A
    refine ⟨a, o, A1.on1, (l.mt g a o F1 (h2 F1 e)), fun od => ?_⟩
    have A2 : At F1 ((a, .frz od o) :: (L' ++ N)) (upd H a (.frz od o)) := At.put (A := A1)
    have e1 : Same F1 (upd F1 a (.frz od o)) := same_new A1.off1
    have := l.mono g
    have sv1 : SatV (st ρ i (some (tagR a fam g))) (σ.set i (some (.ref a))) (upd F1 a (.frz od o)) := satV_set ⟨rfl, l.lk g a o F1 od A1.off1 fun F' e' => h2 F' (e.trans e')⟩ inferInstance (satV_up (e.trans e1) sv)
    have eσ : σ.set i (some (.ref a)) = σ := by
      apply List.ext_getElem?
      intro j
      by_cases hj : i = j
      · subst hj
        rw [List.getElem?_set_self (by rw [← sat_len sv]; exact Nat.le_of_ble_eq_true hi), h1]
      · rw [List.getElem?_set_ne hj]
    rw [eσ] at sv1
    refine (h a).run σ (upd F1 a (.frz od o)) L' sv1 (satC_up (e.trans e1) h3) Q _ (hX Q X q) (upd F1 a (.frz od o)) N _ (Same.refl _) A2.keep (fun _ _ _ _ _ _ _ _ _ _ z => z.elim) _ fun v F2 H2 e2 A3 ⟨d, q2, r⟩ => ?_
    have hF2 : F2 a = some (.frz od o) := e2 _ _ upd_same
    have A4 := At.unkeep (F := F1) (o := .frz od o) (fun _ z => by cases z) (fun _ z => by cases z) (fun _ _ z => by cases z) e2 A3
    have A5 := At.put (u := o) A4 (A1.nt (a, o) List.mem_cons_self) (A1.nb (a, o) List.mem_cons_self) (A1.nc (a, o) List.mem_cons_self)
    refine ⟨A3.ex _ _ hF2, qk v _ _ (fun b u hb => ?_) A5 ⟨d, q2, cut a d v F2 od o hF2 (nl a o F1 (h2 F1 e)) r⟩⟩
    have hne : b ≠ a := ne_of_none hb A1.off1
    show (if b = a then none else F2 b) = some u
    rw [if_neg hne]
    exact e2 b u (e1 b u hb)⟩
/-- the result is a new thing, locked -/
def newR (Ds : List Addr) (fam : γ → VP) : γ → VP := fun g v F => fam g v F ∧ ∀ D ∈ Ds, v ≠ .ref D
instance {Ds : List Addr} {fam : γ → VP} {g : γ} [Mono (fam g)] : Mono (newR Ds fam g) := ⟨fun _ _ _ e h => ⟨Mono.go h.1 e, h.2⟩⟩
theorem tr_lockN {m : Wm ε γ} [l : LkZ ow fam] (Ds : List Addr) (hD : ∀ σ F, SatV ρ σ F → ∀ D ∈ Ds, ∃ o, F D = some o) (h : TrM Z ρ κ te m ow) : TrE Z ρ κ (tLockV te) m (newR Ds fam) :=
  ⟨fun g => by have := l.mono g; infer_instance, fun σ F L s c Q X q F1 N H e A wsh Qk qk => h.run σ F L s c Q X q F1 N H e A wsh _ fun a o F2 H2 g e2 A2 r q1 => by
    refine ⟨a, o, rfl, A2.on1, (l.mt g a o F2 (r F2 (Same.refl _))), fun od => ?_⟩
    have A3 : At F2 ((a, .frz od o) :: (L ++ N)) (upd H2 a (.frz od o)) := At.put (A := A2)
    refine qk _ _ _ (e2.trans (same_new A2.off1)) A3.keep ⟨g, q1, l.lk g a o F2 od A2.off1 r, fun D hm z => ?_⟩
    obtain ⟨u, hu⟩ := hD σ F s D hm
    have h9 := e2 _ _ (e _ _ hu)
    cases z
    rw [A2.off1] at h9
    cases h9⟩
theorem tr_pick {m : Wm ε α} {R : α → VP} {R' : β → VP} [hm : ∀ b, Mono (R' b)] (h : TrE Z ρ κ te m R) (f : α → β) (ok : α → Prop) (m' : Wm ε β) (hm : ∀ Q X, m' Q X → m (fun a => ok a ∧ Q (f a)) X) (hr : ∀ a v F, ok a → R a v F → R' (f a) v F) : TrE Z ρ κ te m' R' :=
  ⟨inferInstance, fun σ F L s c Q X q F1 N H e A wsh Qk qk => h.run σ F L s c (fun a => ok a ∧ Q (f a)) X (hm Q X q) F1 N H e A wsh Qk fun v F2 H2 e2 A2 ⟨a, ⟨ha, q⟩, r⟩ => qk v F2 H2 e2 A2 ⟨f a, q, hr a v F2 ha r⟩⟩
end
end Tw
namespace Wb
open PySem PySem.Spec PyProof.Rows L2 SlX StX Rs Ma Sn Tw
variable [Rs.Tabz]
noncomputable def progVx (K : PySem.W.Frag) (P : Program) (w : World) (Ds : List Addr) (p : Prg) : List VP := [fD K dN p.size, fD K dN p.states, fD K (dT (dT dN)) p.starts, newR Ds (fDKZ K P w (dP dN (dT dO)) (fD K dN)) p.moves, newR Ds (fDZ dN (fD K dN)) p.decs]
instance {K : PySem.W.Frag} {P : Program} {w : World} {Ds : List Addr} {p : Prg} : MonoL (progVx K P w Ds p) := by unfold progVx; infer_instance
/-- a program whose dicts are not those at Ds -/
noncomputable def progX (C : Addr) (K : PySem.W.Frag) (P : Program) (w : World) (Ds : List Addr) (p : Prg) : VP := fun v F => PrOk p ∧ Ob C [2, 4, 3, 1, 0] (progVx K P w Ds p) v F
instance {C : Addr} {K : PySem.W.Frag} {P : Program} {w : World} {Ds : List Addr} {p : Prg} : Mono (progX C K P w Ds p) := ⟨fun _ _ _ e h => ⟨h.1, Mono.go h.2 e⟩⟩
section
variable {C : Addr} {K : PySem.W.Frag} {P : Program} {w : World} {Ds : List Addr} {p : Prg} {v : V} {F : Hp}
theorem progX_nil : progX C K P w [] p v F → progP C K P w p v F := fun ⟨h1, a, dx, vs, xs, h2, h3, h4, h5, h6⟩ => by
  obtain ⟨v1, v2, v3, v4, v5, rfl, g1, g2, g3, g4, g5⟩ := each5 h6
  exact ⟨h1, a, dx, vs, _, h2, h3, h4, h5, g1, g2, g3, g4.1, g5.1, True.intro⟩
theorem progX_cut {D : Addr} {od : Obj} {u : HO} (hF : F D = some (.frz od u)) (hu : NoSq u) : progX C K P w (D :: Ds) p v F → progX C K P w Ds p v (cutF F D) := fun ⟨h1, a, dx, vs, xs, h2, h3, h4, h5, h6⟩ => by
  obtain ⟨v1, v2, v3, v4, v5, rfl, g1, g2, g3, ⟨g4, n4⟩, ⟨g5, n5⟩⟩ := each5 h6
  have k : ∀ {b : Addr} {o : HO}, F b = some o → (∀ q z, o ≠ .frz q z) → cutF F D b = some o := fun {b o} hb ho => by
    rw [cutF_ne fun z => by rw [z, hF] at hb; exact ho _ _ (Option.some.inj hb).symm]; exact hb
  obtain ⟨M, o4, zs, e4, m4, r4, d4⟩ := g4
  obtain ⟨M', o5, zs', e5, m5, r5, d5⟩ := g5
  refine ⟨h1, a, dx, vs, _, h2, k h3 (fun _ _ z => by cases z), k h4 (fun _ _ z => by cases z), h5, dp_cutF hF hu _ _ g1, dp_cutF hF hu _ _ g2, dp_cutF hF hu _ _ g3, ⟨⟨M, o4, zs, e4, ?_, entAll_cutF hF hu r4, d4⟩, fun D' hm => n4 D' (List.mem_cons_of_mem _ hm)⟩, ⟨⟨M', o5, zs', e5, ?_, relD_cutF hF hu r5, d5⟩, fun D' hm => n5 D' (List.mem_cons_of_mem _ hm)⟩, True.intro⟩
  · rw [cutF_ne fun z => n4 D List.mem_cons_self (by rw [e4, z])]; exact m4
  · rw [cutF_ne fun z => n5 D List.mem_cons_self (by rw [e5, z])]; exact m5
end
abbrev Prt := Nat × Nat × Rows × List (Mvk × Nat) × List (Nat × Nat)
/-- what the constructor promises when its dicts are locked for the call alone -/
noncomputable abbrev spProgT (C : Addr) (K : PySem.W.Frag) (P : Program) (w : World) : Sp := SpI C (γ := Prt × Addr × Addr) (fun g => RawOk g.1) (fun g => [fD K dN g.1.1, fD K dN g.1.2.1, fD K (dT (dT dN)) g.1.2.2.1, tagR g.2.1 (fDKZ K P w (dP dN (dT dO)) (fD K dN)) g.1.2.2.2.1, tagR g.2.2 (fDZ dN (fD K dN)) g.1.2.2.2.2]) (fun g => progX C K P w [g.2.1, g.2.2] (mkP g.1))
section
variable {ε : Type} {Z : Wsh ε} {ρ : List (Option VP)} {κ : List Ow} {C : Addr} {K : PySem.W.Frag} {P : Program} {w : World} {t : TA} {mg : Wm ε Prt} {i j : Nat} {E : XK} {mvs : List (Mvk × Nat)} {dvs : List (Nat × Nat)}
theorem tr_lendP (h : ∀ D1 D2, TrA Z (st (st ρ i (some (tagR D1 (fDKZ K P w (dP dN (dT dO)) (fD K dN)) mvs))) j (some (tagR D2 (fDZ dN (fD K dN)) dvs))) κ t mg (fun g => [fD K dN g.1, fD K dN g.2.1, fD K (dT (dT dN)) g.2.2.1, tagR D1 (fDKZ K P w (dP dN (dT dO)) (fD K dN)) g.2.2.2.1, tagR D2 (fDZ dN (fD K dN)) g.2.2.2.2]))
    (hX : ∀ Q X, mg Q X → mg Q (fun _ => False)) (f : freeCs [j] κ = true) (f2 : freeCs [i] (.one j (ownDI dN (fD K dN) dvs) :: κ) = true) (hi : Nat.blt i ρ.length = true) (hj : ∀ o, Nat.blt j (st ρ i o).length = true) :
    TrE Z ρ (.one i (ownDP K P w (dP dN (dT dO)) (fD K dN) mvs) :: .one j (ownDI dN (fD K dN) dvs) :: κ) (tLend (tLend (tMake C (spProgT C K P w) [] E t))) (fun Q X => mg (fun g => RawOk g ∧ Q (mkP g)) X) (progP C K P w) :=
  tr_lend (Rt := fun D => progX C K P w [D]) (fam := fDKZ K P w (dP dN (dT dO)) (fD K dN)) (fun D1 => tr_lend (Rt := fun D => progX C K P w [D, D1]) (fam := fDZ dN (fD K dN)) (fun D2 => by
      have h1 := tr_mk (E := E) (C := C) (γ := Prt × Addr × Addr) (mg := fun Q X => mg (fun g => Q (g, D1, D2)) X) (pre := fun g => RawOk g.1) (Rs := fun g => [fD K dN g.1.1, fD K dN g.1.2.1, fD K (dT (dT dN)) g.1.2.2.1, tagR g.2.1 (fDKZ K P w (dP dN (dT dO)) (fD K dN)) g.1.2.2.2.1, tagR g.2.2 (fDZ dN (fD K dN)) g.1.2.2.2.2]) (R := fun g => progX C K P w [g.2.1, g.2.2] (mkP g.1)) (t := t) (Z := Z) (κ := κ) (ρ := st (st ρ i (some (tagR D1 (fDKZ K P w (dP dN (dT dO)) (fD K dN)) mvs))) j (some (tagR D2 (fDZ dN (fD K dN)) dvs)))
        ⟨fun _ => inferInstance, fun σ F L s c Q X q F1 N H e A wsh Qk qk => (h D1 D2).run σ F L s c (fun g => Q (g, D1, D2)) X q F1 N H e A wsh Qk fun vs F2 H2 e2 A2 ⟨g, q1, r⟩ => qk vs F2 H2 e2 A2 ⟨(g, D1, D2), q1, r⟩⟩
      refine tr_pick h1 (fun g => mkP g.1) (fun g => g.2 = (D1, D2)) _ (fun Q X q => ?_) (fun g v F hg r => ?_)
      · show mg (fun g => RawOk g ∧ (D1, D2) = (D1, D2) ∧ Q (mkP g)) X
        simpa using q
      · obtain ⟨g, d⟩ := g
        cases hg
        obtain ⟨h1, a, dx, vs, xs, h2, h3, h4, h5, h6⟩ := r
        obtain ⟨v1, v2, v3, v4, v5, rfl, g1, g2, g3, ⟨g4, n4⟩, ⟨g5, n5⟩⟩ := each5 h6
        exact ⟨h1, a, dx, vs, _, h2, h3, h4, h5, g1, g2, g3, ⟨g4, fun D hm => n4 D (by simp at hm ⊢; exact hm.symm)⟩, ⟨g5, fun D hm => n5 D (by simp at hm ⊢; exact hm.symm)⟩, True.intro⟩)
    (fun a o F ⟨zs, ho, _⟩ => ⟨fun _ z => (by rw [ho] at z; cases z), fun _ z => (by rw [ho] at z; cases z)⟩) (fun D d v F od u hF hu r => progX_cut hF hu r) f (hj _) (fun Q X q => hX _ _ q))
    (fun a o F ⟨zs, ho, _⟩ => ⟨fun _ z => (by rw [ho] at z; cases z), fun _ z => (by rw [ho] at z; cases z)⟩) (fun D d v F od u hF hu r => progX_nil (progX_cut hF hu r)) f2 hi (fun Q X q => hX _ _ q)
end
end Wb

/-! Sz14: defs whose result is a new thing of one's own, behind statements. -/
namespace Tw
open PySem PySem.Spec PyProof.Rows L2 SlX StX Rs Ma Sn
variable [Rs.Tabz]
structure TrQ {ε γ : Type} (Z : Wsh ε) (ρ : List (Option VP)) (κ : List Ow) (t : TS) (m : Wm ε γ) (ow : γ → Addr → HO → Hp → Prop) : Prop where
  run : ∀ σ F L, SatV ρ σ F → SatC κ σ F L → ∀ Q X, m Q X → ∀ F1 N H, Same F F1 → At F1 (L ++ N) H → WishOk Z F1 N X → ∀ D, (∀ a o F2 H2 g, Same F1 F2 → At F2 ((a, o) :: (L ++ N)) H2 → (∀ F', Same F2 F' → ow g a o F') → Q g → D.rt (.ref a) H2) → t D σ H
section
variable {ε α γ δ : Type} {Z : Wsh ε} {ρ : List (Option VP)} {κ : List Ow} {P : Program} {w : World} {K : PySem.W.Frag} {mg : Str → Option Value} {base : Heap} {te : TE} {u : TS} {me : Wm ε α} {R : α → VP} {Rs : γ → List VP} {ow : δ → Addr → HO → Hp → Prop}
theorem tq_ret {m : Wm ε δ} (h : TrM Z ρ κ te m ow) : TrQ Z ρ κ (tRet te) m ow := ⟨fun σ F L s c Q X q F1 N H e A wsh D k => h.run σ F L s c Q X q F1 N H e A wsh D.rt k⟩
theorem tq_set {mk : α → Wm ε δ} (i : Nat) (h : TrE Z ρ κ te me R) (f : freeCs [i] κ = true) (k : ∀ a, TrQ Z (st ρ i (some (R a))) κ u (mk a) ow) : TrQ Z ρ κ (tSeq (tAsg te (gName i)) u) (fun Q X => me (fun a => mk a Q X) X) ow :=
  ⟨fun σ F L sv sc Q X q F1 N H e A wsh D kk => h.run σ F L sv sc _ X q F1 N H e A wsh _ fun v F2 H2 e2 A2 ⟨a, q1, hv⟩ =>
    have := h.mono
    (tg_name (R := R) i).run a v σ F2 ρ _ H2 (satV_up (e.trans e2) sv) hv A2 _ fun σ2 ag s2 => (k a).run σ2 F2 L s2 (satC_agree ag f (satC_up (e.trans e2) sc)) Q X q1 F2 N H2 (Same.refl _) A2 (wsh.up e2) { D with nx := _ }
      (fun a o F3 H3 g e3 A3 r => kk a o F3 H3 g (e2.trans e3) A3 r)⟩
theorem gw_okQ {x qual : Str} {stt : Stmt} {f : Addr} {fd : FuncData} {N ps : List Str} {k : Nat} {spec : γ → (δ → Prop) → Prop} (F : Fun K x qual stt f fd) (Sc : FnScope N ps (defScope stt)) (len : ∀ g, (Rs g).length = ps.length) (hm : ∀ g, MonoAll (Rs g))
    (body : ∀ (cdv : Value) (A : Around) (outer : List Env) (s : Shared) (H : Hp) (E : XK) (g : γ), Room k (A.deeper (envOfC qual (defScope stt) s.heap.objs.size f cdv)) →
      ∃ t, PSs (cxOf CX0 P w K mg base N qual (defScope stt) f cdv A outer s H E).nox (defBody stt) t ∧ ∃ m : Wm Empty δ, TrQ Z0 (ofArgs (Rs g) N.length) [] t m ow ∧ ∀ Q, (∃ vs F, Each (Rs g) vs F) → spec g Q → m Q X0) :
    FnOk P w K mg base CX0 (k + 1) f fd ps (SpO Rs spec ow) := by
  refine F.ok Sc (fun vs H Q E ⟨g, F0, N0, P0, A, hv, q⟩ => (each_length hv).trans (len g)) fun cdv A outer s H vs Q E hr ⟨g, F0, N0, P0, A0, hv, hs, q⟩ => ?_
  obtain ⟨te, h1, m, h2, h3⟩ := body cdv A outer s H E g hr
  refine ⟨_, h1, ?_⟩
  exact h2.run (start N vs) F0 [] (sat_start (hm g) hv) True.intro P0 X0 (h3 P0 ⟨vs, F0, hv⟩ hs) F0 N0 H (Same.refl _) A0 wish0 _ fun a o F' H' d e' A' r p => q d a o F' H' e' A' p r
theorem gw_mkQ {x : Str} {stt : Stmt} {f : Addr} {fd : FuncData} {N ps : List Str} {k : Nat} {spec : γ → (δ → Prop) → Prop} (F : Fun K x x stt f fd) (hmg : mg x = some (.ref f)) (b : Binds K fd ps []) (Sc : FnScope N ps (defScope stt)) (len : ∀ g, (Rs g).length = ps.length) (hm : ∀ g, MonoAll (Rs g))
    (body : ∀ (cdv : Value) (A : Around) (outer : List Env) (s : Shared) (H : Hp) (E : XK) (g : γ), Room k (A.deeper (envOfC x (defScope stt) s.heap.objs.size f cdv)) →
      ∃ t, PSs (cxOf CX0 P w K mg base N x (defScope stt) f cdv A outer s H E).nox (defBody stt) t ∧ ∃ m : Wm Empty δ, TrQ Z0 (ofArgs (Rs g) N.length) [] t m ow ∧ ∀ Q, (∃ vs F, Each (Rs g) vs F) → spec g Q → m Q X0) :
    Gf P w K mg base (k + 1) x (SpO Rs spec ow) := ⟨f, fd, ps, gw_okQ F Sc len hm body, hmg, F.kp, b⟩
end
end Tw

/-! Sx13: x not in an object. -/
namespace Tw
open PySem PySem.Spec PyProof.Rows L2 SlX StX Rs Ma Sn
variable [Rs.Tabz]
section
variable {ε α β : Type} {K : PySem.W.Frag} {C : Addr} {E : XK} {Ra : α → VP} {Rb : β → VP}
end
end Tw

/-! Sy0: tuples of values of many kinds, as data where all their items are; dicts by numbers as such values; an object with slots == a value. -/
namespace Tw
open PySem PySem.Spec PyProof.Rows L2 SlX StX Rs Ma Sn
variable [Rs.Tabz]
section
variable {ε α β γ δ S : Type} {Z : Wsh ε} {ρ : List (Option VP)} {κ : List Ow} {X : Wx} {te : TE}
end
def rEqSl (K : PySem.W.Frag) (C : Addr) (sp : Sp) (E : XK) : R2 := fun x y H Q => ∃ a dx vs tb, x = .ref a ∧ Slt H a C dx vs ∧ TyX K H y tb ∧ PySem.W.notFirst K C tb = true ∧ sp [x, y] H Q E
section
variable {X : Cx} {k j : Nat} {C : Addr} {sp : Sp}
theorem op_eqSl (c : EqS X.prog X.w X.K X.mg X.base k C sp) (hr : Room j X.A) (hk : k + 1 ≤ j) : OpR X (compareOp .Eq) (rEqSl X.K C sp E0) := by
  obtain ⟨g, h1, h2, hs, hf, F⟩ := c.ex
  intro pins s σ H x y v u Q I rx ry h
  obtain ⟨a, dx, vs, tb, rfl, ha, hty, hn, q⟩ := h
  cases (show v = Value.ref a from rx)
  obtain ⟨sl, od, _, J, _⟩ := slt_inst I ha
  obtain ⟨m, hF⟩ := I.fr
  obtain ⟨Pz, kx, hp, _⟩ := kit_of I ry hty
  show wpAny (model X.prog X.w) X.A (richCompare .Eq (.ref a) u) (EP X pins σ Q) X.xe s
  refine PySem.W.cmp_K (op := .Eq) (tb := tb) hr.units0 hF I.ok.mod.kin J (kx.ty _ _ I.kIn hp) hn hs hf ?_
  refine wpAny_mono (wpAny_call (run_fnR (us := [.ref a, u]) (vs := [.ref a, y]) F (hr.mono (by omega)) pass0 I (.cons rfl (.cons ry .nil)) q)) (fun w s' z => ?_) fun _ _ x => x
  obtain ⟨z', H', I', rz, qz⟩ := z
  exact cmpback rz ⟨z', H', I', rz, qz⟩
end
section
variable {ε α : Type} {K : PySem.W.Frag} {C : Addr} {E : XK} {R : α → VP} {Y : Wx}
end
section
variable {X : Cx} {f : Str} {e : Expr} {es : List Expr} {kws : List Keyword} {t tk : TA} {p pos : Pos} {kw : Str} {dv : V}
end
end Tw

/-! Sz15: == of an object with slots and data. -/
namespace Tw
open PySem PySem.Spec PyProof.Rows L2 SlX StX Rs Ma Sn
variable [Rs.Tabz]
section
variable {ε α β : Type} {K : PySem.W.Frag} {C : Addr} {E : XK} {R : α → VP} {d : β → PyData}
theorem o_eqSlD [∀ a, Mono (R a)] {spec : α × β → (Bool → Prop) → Prop} (hn : NoD K C) (h1 : ∀ a v F, R a v F → IsOb C v F) :
    Op2 ε (rEqSl K C (SpN (fun p : α × β => [R p.1, fD K d p.2]) spec (fD K dB)) E) R (fD K d) (fun a b Q _ => spec (a, b) Q) (fD K dB) :=
  ⟨fun a b x y F L hx hy Q X q => fun F2 N H e2 A Qk qk => by
    obtain ⟨p, dx, vs, rfl, q1, q2⟩ := h1 _ _ _ hx
    have hy2 : fD K d b y F2 := Mono.mono (R := fD K d b) _ _ _ e2 hy
    exact ⟨p, dx, vs, _, rfl, at_slt A (e2 _ _ q1) (e2 _ _ q2), ty_dt (dp_up A.ex hy2), hn.nf _ (nm_data _), (a, b), F2, L ++ N, Q, A, ⟨Mono.go hx e2, hy2, True.intro⟩, q, fun c v F3 H3 e3 A3 pd r => qk v F3 H3 e3 A3 ⟨c, pd, r⟩⟩⟩
end
end Tw

/-! Sz16: the first three of a record; a record of three data. -/
namespace Tw
open PySem PySem.Spec PyProof.Rows L2 SlX StX Rs Ma Sn
variable [Rs.Tabz]
def dM3 {A B C : Type} (d0 : A → PyData) (d1 : B → PyData) (d2 : C → PyData) : A × B × C → PyData := fun g => .list [d0 g.1, d1 g.2.1, d2 g.2.2]
instance {A B C : Type} {d0 : A → PyData} {d1 : B → PyData} {d2 : C → PyData} : Shown (dM3 d0 d1 d2) := ⟨fun a K F v h => by unfold dM3 at h; cases h; exact ⟨_, rfl⟩⟩
section
variable {ε A0 A1 A2 A3 A4 : Type} {Z : Wsh ε} {ρ : List (Option VP)} {κ : List Ow} {K : PySem.W.Frag} {te : TE} {tl th : TO} {R0 : A0 → VP} {R1 : A1 → VP} {R2 : A2 → VP} {R3 : A3 → VP} {R4 : A4 → VP} [∀ a, Mono (R0 a)] [∀ a, Mono (R1 a)] [∀ a, Mono (R2 a)] [∀ a, Mono (R3 a)] [∀ a, Mono (R4 a)]
  {mg : Wm ε (A0 × A1 × A2 × A3 × A4)} {m3 : Wm ε (A0 × A1 × A2)} {d0 : A0 → PyData} {d1 : A1 → PyData} {d2 : A2 → PyData}
theorem tr_sl5 (h : TrE Z ρ κ te mg (fun g => Ln [R0 g.1, R1 g.2.1, R2 g.2.2.1, R3 g.2.2.2.1, R4 g.2.2.2.2])) (hl : TrO Z ρ κ tl (pur none)) (hh : TrO Z ρ κ th (pur (some 3))) :
    TrE Z ρ κ (L2.tSl (rSlL K) te tl th) (fun Q X => mg (fun g => Q (g.1, g.2.1, g.2.2.1)) X) (fun g : A0 × A1 × A2 => Ln [R0 g.1, R1 g.2.1, R2 g.2.2]) :=
  have : ∀ g : A0 × A1 × A2 × A3 × A4, MonoL (List.take 3 [R0 g.1, R1 g.2.1, R2 g.2.2.1, R3 g.2.2.2.1, R4 g.2.2.2.2]) := fun g => (inferInstance : MonoL [R0 g.1, R1 g.2.1, R2 g.2.2.1])
  (tr_slM3 (Rs := fun g : A0 × A1 × A2 × A3 × A4 => [R0 g.1, R1 g.2.1, R2 g.2.2.1, R3 g.2.2.2.1, R4 g.2.2.2.2]) h hl hh).conv (R' := fun g : A0 × A1 × A2 => Ln [R0 g.1, R1 g.2.1, R2 g.2.2]) (fun g : A0 × A1 × A2 × A3 × A4 => ((g.1, g.2.1, g.2.2.1) : A0 × A1 × A2)) fun (_ : A0 × A1 × A2 × A3 × A4) _ _ x => x
theorem tr_M3e (h : TrE Z ρ κ te m3 (fun g => Ln [fD K d0 g.1, fD K d1 g.2.1, fD K d2 g.2.2])) : TrE Z ρ κ te m3 (fD K (dM3 d0 d1 d2)) :=
  ⟨inferInstance, fun σ F L s c Q X q => (h.run σ F L s c _ X q).weak fun v F2 e ⟨g, q1, a, vs, ev, ha, hr⟩ => ⟨_, q1, by
    obtain ⟨v0, v1, v2, rfl, r0, r1, r2⟩ := each3' hr
    subst ev
    exact Dp.lst (.inl (.inl ha)) (.cons r0 (.cons r1 (.cons r2 .nil)))⟩⟩
end
end Tw

/-! Tr0: tables of lambdas, so many of them. -/
namespace Tw
open PySem PySem.Spec PyProof.Rows L2 SlX StX Rs Ma Sn
end Tw

namespace Wb
open PySem PySem.Spec PyProof.Rows L2 SlX StX Rs
variable [Rs.Tabz]
local macro_rules | `(tactic| walk_at "rr") => `(tactic| (first
  | exact r_nil | exact r_int | exact r_bl | exact r_str
  | (refine r_var rfl ?_; assumption)
  | exact r_c rfl
  | (refine r_cons ?_ ?_ <;> walk_at "rr")))
def topS (i : Nat) : Stmt := PySem.Challenge.pw_rootshared_k35_programs_told.main.body.getD i (.Pass ⟨0, 0, 0, 0⟩)
/-! ### numbers -/
def isInt : PyData → Bool
  | .int i => decide (-(10 ^ 60) < i) && decide (i < 10 ^ 60)
  | _ => false
def isBt (d : PyData) (lo hi : Int) : Bool := isInt d && match d with
  | .int i => decide (lo ≤ i) && decide (i ≤ hi)
  | _ => false
def few : PyData → Prop
  | .tuple ds => ds.length ≤ 60
  | _ => True
section
variable {P : Program} {w : World} {K : PySem.W.Frag} {mg : Str → Option Value} {base : Heap}
abbrev spIsInteger (K : PySem.W.Frag) : Sp := SpF (γ := PyData) (fun _ => True) (fun d => [Dt K d]) (fun d => Dt K (.bool (isInt d)))
-- is_integer: 0:value
abbrev s_is_integer : Stmt := topS 8
abbrev N_is_integer : List Str := ["value"]
theorem sc_is_integer : FnScope N_is_integer ["value"] (defScope s_is_integer) := ⟨rfl, rfl, rfl, by decide +kernel, rfl, by decide +kernel, by decide +kernel⟩
theorem ok_is_integer {f : Addr} {fd : FuncData} (B : Bf mg) (g_GREATEST : GInt mg "GREATEST" (10 ^ 60)) (F : Fun K "is_integer" "is_integer" s_is_integer f fd) (hm : mg "is_integer" = some (.ref f)) (b : Binds K fd ["value"] []) : Gf P w K mg base 1 "is_integer" (spIsInteger K) := by
  refine gf_mk F hm b sc_is_integer (fun _ => rfl) fun cdv A outer s H E d vs F0 hr hp hv => ?_
  obtain ⟨v, rfl, h1⟩ := each1 hv
  refine ⟨_, (pss_one (ps_ret (pe_and (p_isi B (pa_cons (pv 0) (pa_cons (p_ty (by rfl) B.int boot_int) pa_nil))) (pe_and (pe_not (p_isi B (pa_cons (pv 0) (pa_cons (p_ty (by rfl) B.bool boot_bool) pa_nil)))) (pe_one (pe_chain op_lt op_lt (pe_un un_neg (p_gint g_GREATEST)) (pv 0) (p_gint g_GREATEST))))))), ?_⟩
  refine s_ret ?_
  cases d with
  | int i => exact r_is (r_and (r_isiD (b := true) (by walk_at "rr") (by dsimp only [tyName]; decide +kernel)) fun _ => r_and (r_not (r_isiD (b := false) (by walk_at "rr") (by dsimp only [tyName]; decide +kernel))) fun _ => r_chain (r_U r_int) (by walk_at "rr") r_int) rfl
  | bool i => exact r_is (r_and (b := false) (r_isiD (b := true) (by walk_at "rr") (by dsimp only [tyName]; decide +kernel)) fun _ => r_is (r_and (b := false) (r_not (r_isiD (b := true) (by walk_at "rr") (by dsimp only [tyName]; decide +kernel))) fun h => nomatch h) rfl) rfl
  | none => exact r_is (r_and (b := false) (r_isiD (b := false) (by walk_at "rr") (by dsimp only [tyName]; decide +kernel)) fun h => nomatch h) rfl
  | str x => exact r_is (r_and (b := false) (r_isiD (b := false) (by walk_at "rr") (by dsimp only [tyName]; decide +kernel)) fun h => nomatch h) rfl
  | list x => exact r_is (r_and (b := false) (r_isiD (b := false) (by walk_at "rr") (by dsimp only [tyName]; decide +kernel)) fun h => nomatch h) rfl
  | tuple x => exact r_is (r_and (b := false) (r_isiD (b := false) (by walk_at "rr") (by dsimp only [tyName]; decide +kernel)) fun h => nomatch h) rfl
  | dict x => exact r_is (r_and (b := false) (r_isiD (b := false) (by walk_at "rr") (by dsimp only [tyName]; decide +kernel)) fun h => nomatch h) rfl
theorem isInt_shape {d : PyData} (h : isInt d = true) : ∃ i, d = .int i ∧ -(10 ^ 60) < i ∧ i < 10 ^ 60 := by
  cases d with
  | int i =>
    rw [isInt, Bool.and_eq_true] at h
    exact ⟨i, rfl, of_decide_eq_true h.1, of_decide_eq_true h.2⟩
  | _ => cases h
abbrev spIsBetween (K : PySem.W.Frag) : Sp := SpF (γ := PyData × Int × Int) (fun _ => True) (fun g => [Dt K g.1, Dt K (.int g.2.1), Dt K (.int g.2.2)]) (fun g => Dt K (.bool (isBt g.1 g.2.1 g.2.2)))
-- is_between: 0:value 1:low 2:high
abbrev s_is_between : Stmt := topS 9
abbrev N_is_between : List Str := ["value", "low", "high"]
theorem sc_is_between : FnScope N_is_between ["value", "low", "high"] (defScope s_is_between) := ⟨rfl, rfl, rfl, by decide +kernel, rfl, by decide +kernel, by decide +kernel⟩
theorem ok_is_between {f : Addr} {fd : FuncData} (c_is_integer : Gf P w K mg base 1 "is_integer" (spIsInteger K)) (F : Fun K "is_between" "is_between" s_is_between f fd) (hm : mg "is_between" = some (.ref f)) (b : Binds K fd ["value", "low", "high"] []) : Gf P w K mg base 2 "is_between" (spIsBetween K) := by
  refine gf_mk F hm b sc_is_between (fun _ => rfl) fun cdv A outer s H E ⟨d, lo, hi⟩ vs F0 hr hp hv => ?_
  obtain ⟨v, v1, v2, rfl, h1, h2, h3⟩ := each3 hv
  refine ⟨_, (pss_one (ps_ret (pe_and (p_call c_is_integer hr (by decide) (pa_cons (pv 0) pa_nil)) (pe_one (pe_chain op_le op_le (pv 1) (pv 0) (pv 2)))))), ?_⟩
  refine s_ret (r_and (r_call d True.intro (by walk_at "rr")) fun h => ?_)
  obtain ⟨i, rfl, _⟩ := isInt_shape h
  exact r_chain (by walk_at "rr") (by walk_at "rr") (by walk_at "rr")
abbrev spRequireNumber (K : PySem.W.Frag) : Sp := SpF (γ := PyData × Int × Int) (fun g => isBt g.1 g.2.1 g.2.2 = true) (fun g => [Dt K g.1, Dt K (.int g.2.1), Dt K (.int g.2.2)]) (fun g => Dt K .none)
-- require_number: 0:value 1:low 2:high
abbrev s_require_number : Stmt := topS 10
abbrev N_require_number : List Str := ["value", "low", "high"]
theorem sc_require_number : FnScope N_require_number ["value", "low", "high"] (defScope s_require_number) := ⟨rfl, rfl, rfl, by decide +kernel, rfl, by decide +kernel, by decide +kernel⟩
theorem ok_require_number {f : Addr} {fd : FuncData} (c_is_between : Gf P w K mg base 2 "is_between" (spIsBetween K)) (F : Fun K "require_number" "require_number" s_require_number f fd) (hm : mg "require_number" = some (.ref f)) (b : Binds K fd ["value", "low", "high"] []) : Gf P w K mg base 3 "require_number" (spRequireNumber K) := by
  refine gf_mk F hm b sc_require_number (fun _ => rfl) fun cdv A outer s H E ⟨d, lo, hi⟩ vs F0 hr hp hv => ?_
  obtain ⟨v, v1, v2, rfl, h1, h2, h3⟩ := each3 hv
  refine ⟨_, (pss_one (ps_if (pt_not (pt_val (p_call c_is_between hr (by decide) (pa_cons (pv 0) (pa_cons (pv 1) (pa_cons (pv 2) pa_nil))))))
        (pss_one ps_never)
        pss_nil)), ?_⟩
  refine s_if (t_not (t_B (r_call (d, lo, hi) True.intro (by walk_at "rr")))) (fun h => ?_) fun h => s_next fun F1 e => .non
  rw [show isBt (d, lo, hi).1 (d, lo, hi).2.1 (d, lo, hi).2.2 = true from hp] at h
  cases h
end
end Wb

namespace Wb
open PySem PySem.Spec PyProof.Rows L2 SlX StX Rs Ma
variable [Rs.Tabz]
local macro_rules | `(tactic| walk_at "rr") => `(tactic| (first
  | exact r_nil | exact r_int | exact r_bl | exact r_str
  | (refine r_var rfl ?_; assumption)
  | exact r_c rfl
  | (refine r_cons ?_ ?_ <;> walk_at "rr")))
section
variable {P : Program} {w : World} {K : PySem.W.Frag} {mg : Str → Option Value} {base : Heap}
end
end Wb

namespace Wb
open PySem PySem.Spec PyProof.Rows L2 SlX StX Rs Ma
variable [Rs.Tabz]
local macro_rules | `(tactic| walk_at "rr") => `(tactic| (first
  | exact r_nil | exact r_int | exact r_bl | exact r_str
  | (refine r_var rfl ?_; assumption)
  | exact r_c rfl
  | (refine r_cons ?_ ?_ <;> walk_at "rr")))
section
variable {P : Program} {w : World} {K : PySem.W.Frag} {mg : Str → Option Value} {base : Heap}
/-! ### the class -/
end
end Wb

namespace Rs
open PySem PySem.Spec PyProof.Rows L2 SlX StX Ma
variable [Rs.Tabz]
section
variable {K : PySem.W.Frag} {w : World} {σ : L2.St} {F : Hp} {L : Cells} {te ta tb : TE} {t : TA} {C : Addr} {rs qs : Rows}
end
end Rs
namespace Wb
open PySem PySem.Spec PyProof.Rows L2 SlX StX Rs Ma
variable [Rs.Tabz]
local macro_rules | `(tactic| walk_at "rr") => `(tactic| (first
  | exact r_nil | exact r_int | exact r_bl | exact r_str
  | (refine r_var rfl ?_; assumption)
  | exact r_c rfl
  | (refine r_cons ?_ ?_ <;> walk_at "rr")))
section
variable {P : Program} {w : World} {K : PySem.W.Frag} {mg : Str → Option Value} {base : Heap} {C_Web : Addr}
end
end Wb

namespace Wb
open PySem PySem.Spec PyProof.Rows L2 SlX StX Rs Ma
variable [Rs.Tabz]
local macro_rules | `(tactic| walk_at "rr") => `(tactic| (first
  | exact r_nil | exact r_int | exact r_bl | exact r_str
  | (refine r_var rfl ?_; assumption)
  | exact r_c rfl
  | (refine r_cons ?_ ?_ <;> walk_at "rr")))
section
variable {P : Program} {w : World} {K : PySem.W.Frag} {mg : Str → Option Value} {base : Heap} {C_Web : Addr}
end
end Wb

namespace Wb
open PySem PySem.Spec PyProof.Rows L2 SlX StX Rs Ma
variable [Rs.Tabz]
local macro_rules | `(tactic| walk_at "rr") => `(tactic| (first
  | exact r_nil | exact r_int | exact r_bl | exact r_str
  | (refine r_var rfl ?_; assumption)
  | exact r_c rfl
  | (refine r_cons ?_ ?_ <;> walk_at "rr")))
section
variable {P : Program} {w : World} {K : PySem.W.Frag} {mg : Str → Option Value} {base : Heap} {C_Web : Addr}
/-! ### churns -/
theorem a_mulR {σ : L2.St} {F : Hp} {L : Cells} {ta tb : TE} {c : Int} (ha : Run (ta σ) F L IntV) (hb : Run (tb σ) F L (Dt K (.int c))) (h : -(2 ^ 64) < c ∧ c < 2 ^ 64) : Run (tOp (rI CMul fun i j => .int (i * j)) ta tb σ) F L IntV := by
  refine run_bind (k := ta σ) ha fun x F1 e1 ⟨i, hx⟩ => run_bind (k := tb σ) (hb.up e1) fun y F2 e2 hy => ?_
  subst hx
  obtain rfl := dt_int hy
  exact run_ex i (run_ex c (run_and (fun _ _ _ _ _ => rfl) (run_and (fun _ _ _ _ _ => rfl) (run_and (fun _ _ _ _ _ => by unfold CMul; omega) (run_ret fun _ _ => ⟨_, rfl⟩)))))
theorem a_max2 {σ : L2.St} {F : Hp} {L : Cells} {t : TA} (h : Run (t σ) F L (Each [IntV, IntV])) : Run (tCB Rs.rMax2 t σ) F L IntV := r_cb h fun vs F1 e1 hv => by
  obtain ⟨v, u, rfl, ⟨i, rfl⟩, ⟨j, rfl⟩⟩ := each2 hv
  exact run_ex i (run_ex j (run_and (fun _ _ _ _ _ => rfl) (run_ret fun _ _ => ⟨_, rfl⟩)))
abbrev spCask (K : PySem.W.Frag) : Sp := SpF (γ := List Int × Nat) (fun g => g.1.length ≤ 63) (fun g => [Dt K (.list (g.1.map .int)), Dt K (nI g.2)]) (fun _ => Ck 3)
-- _law_filled: 0:_law_script 1:_law_at 2:_law_cell 3:_law_whole 4:_law_mixed
abbrev s__law_filled : Stmt := topS 28
abbrev N__law_filled : List Str := ["_law_script", "_law_at", "_law_cell", "_law_whole", "_law_mixed"]
theorem sc__law_filled : FnScope N__law_filled ["_law_script", "_law_at"] (defScope s__law_filled) := ⟨rfl, rfl, rfl, by decide +kernel, rfl, by decide +kernel, by decide +kernel⟩
theorem ok_filled {f : Addr} {fd : FuncData} (B : Bf mg) (F : Fun K "_law_filled" "_law_filled" s__law_filled f fd) (hm : mg "_law_filled" = some (.ref f)) (b : Binds K fd ["_law_script", "_law_at"] []) : Gf P w K mg base 1 "_law_filled" (spCask K) := by
  refine ⟨f, fd, _, ck_new F sc__law_filled (fun _ => rfl) fun cdv A outer s H E ⟨ns, at_⟩ vs F0 hr hp hv => ?_, hm, F.kp, b⟩
  obtain ⟨v, v1, rfl, h1, h2⟩ := each2 hv
  have h1 : Dt K (.list (ns.map .int)) v F0 := h1
  refine ⟨_, (pss_cons (ps_set (i := 2) sc__law_filled.nd rfl (by first | exact Or.inl rfl | exact Or.inr rfl) (pe_ifExp (pt_cmpR op_lt (pv 1) (p_len B (pa_cons (pv 0) pa_nil)) (nomark _)) (pe_ix ix_list (pv 0) (pv 1) (fun _ _ => rfl)) (pe_op op_add (pe_op op_mul pe_int (pv 1)) pe_int)))
      (pss_cons (ps_set (i := 3) sc__law_filled.nd rfl (by first | exact Or.inl rfl | exact Or.inr rfl) (pe_op op_mod (p_int B (pa_cons (p_abs B (pa_cons (pv 2) pa_nil)) pa_nil)) (pe_op Nq.op_powX (pe_op Nq.op_powX pe_int pe_int) pe_int)))
      (pss_cons (ps_set (i := 4) sc__law_filled.nd rfl (by first | exact Or.inl rfl | exact Or.inr rfl) (pe_op op_mod (p_int B (pa_cons (pe_op op_add (pe_op op_add (pe_op op_add (pv 3) (pe_op op_mul pe_int (pv 1))) (pe_op op_mul pe_int (p_int B (pa_cons (pe_cmpR op_lt (pv 2) pe_int (nomark _)) pa_nil)))) pe_int) pa_nil)) pe_int))
      (pss_one (ps_ret (pe_lst (pa_cons (p_max2 rfl B (pa_cons pe_int (pa_cons (pe_op op_sub (pv 3) (pe_op Nq.op_powX pe_int pe_int)) pa_nil))) (pa_cons (pv 4) (pa_cons pe_int pa_nil))))))))), ?_⟩
  refine q_set (R := IntV) (r_if (b := decide (at_ < ns.length)) (t_is (t_test (r_I0b (by walk_at "rr") (r_is (r_lnLD (r_var rfl h1)) (by rw [List.length_map])))) (decide_eq_decide.mpr (by omega))) (fun hb => ?_) fun _ => a_op0 (a_mulL (r_int (K := K)) (r_any (by walk_at "rr")) ⟨by decide, by decide⟩) r_anyI) fun x2 F2 e2 h3 => ?_
  · rw [decide_eq_true_eq] at hb
    exact r_any (r_ixL (d := .int ns[at_]) (by walk_at "rr") (by walk_at "rr") (by rw [List.getElem?_map, List.getElem?_eq_getElem hb]; rfl))
  refine q_set (R := IntV) (a_modI (m := (10 ^ 60) ^ 10) (a_int (r_cons (a_abs (r_cons (r_var rfl h3) r_nil)) r_nil)) (r_Ii (f := fun i j => i ^ j.toNat) (r_Ii (f := fun i j => i ^ j.toNat) (r_int (K := K)) (r_int (K := K)) ⟨by decide, by decide +kernel⟩) (r_int (K := K)) ⟨by decide, by decide +kernel⟩) (by decide +kernel)) fun x3 F3 e3 h4 => ?_
  have h3' := Mono.go h3 e3
  refine q_set (R := IntV) (a_modI (m := 2305843009213693921) (a_int (r_cons (a_op0 (a_op0 (a_op0 (r_var rfl h4) (a_mulL (r_int (K := K)) (r_any (r_var (R := Dt K (nI at_)) rfl (dp_up (e2.trans e3) h2))) ⟨by decide, by decide⟩)) (a_mulL (r_int (K := K)) (a_intB (r_cons (a_cmp (r_var rfl h3') r_anyI) r_nil)) ⟨by decide, by decide⟩)) r_anyI) r_nil)) (r_int (K := K)) (by decide +kernel)) fun x4 F4 e4 h5 => ?_
  have h4' := Mono.go h4 e4
  refine s_ret ((r_lstN (Rs := [IntV, IntV, IntV]) (r_cons (a_max2 (r_cons r_anyI (r_cons (a_op0 (r_var rfl h4') (r_any (r_Ii (f := fun i j => i ^ j.toNat) (r_int (K := K)) (r_int (K := K)) ⟨by decide, by decide +kernel⟩))) r_nil))) (r_cons (r_var rfl h5) (r_cons r_anyI r_nil))) (by show 3 ≤ 100000; decide)).weak fun v F5 e5 ⟨a, vs, q1, q2, q3, q4⟩ => ?_)
  obtain ⟨y1, y2, y3, rfl, ⟨i1, rfl⟩, ⟨i2, rfl⟩, ⟨i3, rfl⟩⟩ := each3 q3
  exact ⟨a, [i1, i2, i3], q1, q2, rfl, ((e2.trans e3).trans e4).free q4⟩
-- _law_dip: 0:_law_pot 1:_law_total 2:_law_found 3:_law_one 4:_law_two
abbrev s__law_dip : Stmt := topS 29
abbrev N__law_dip : List Str := ["_law_pot", "_law_total", "_law_found", "_law_one", "_law_two"]
theorem sc__law_dip : FnScope N__law_dip ["_law_pot", "_law_total"] (defScope s__law_dip) := ⟨rfl, rfl, rfl, by decide +kernel, rfl, by decide +kernel, by decide +kernel⟩
theorem ok_dip {f : Addr} {fd : FuncData} (B : Bf mg) (F : Fun K "_law_dip" "_law_dip" s__law_dip f fd) (hm : mg "_law_dip" = some (.ref f)) (b : Binds K fd ["_law_pot", "_law_total"] []) : Gf P w K mg base 1 "_law_dip" (SpF (γ := Nat) (fun t => 1 ≤ t ∧ t ≤ 1000) (fun t => [Ck 3, Dt K (nI t)]) Bd) := by
  refine ⟨f, fd, _, ck_fn (Rs := fun t => [Dt K (nI t)]) (by decide) (fun g v F F' h => h) (fun g vs F F' h => ?_) (cell_ok F sc__law_dip (fun _ => rfl) fun cdv A outer s H E t a xs vs F0 hr ⟨hp1, hp2⟩ hx hv => ?_) (fun _ => rfl), hm, F.kp, b⟩
  · obtain ⟨v, rfl, hv⟩ := each1 h
    cases hv
    exact ⟨.int _, True.intro⟩
  obtain ⟨v1, rfl, h2⟩ := each1 hv
  cases h2
  have h2 : ∀ F, Dt K (nI t) (.int (t : Int)) F := fun F => .int _
  obtain ⟨x, y, z, rfl⟩ : ∃ x y z, xs = [x, y, z] := by
    match xs, hx with
    | [x, y, z], _ => exact ⟨x, y, z, rfl⟩
  refine ⟨_, (pss_cons (ps_if (pt_cmpR op_gt (pe_ix ix_list (pv 0) pe_int (fun _ _ => rfl)) pe_int (nomark _))
        (pss_cons (ps_set (i := 2) sc__law_dip.nd rfl (by first | exact Or.inl rfl | exact Or.inr rfl) (pe_op op_mod (p_int B (pa_cons (pe_ix ix_list (pv 0) pe_int (fun _ _ => rfl)) pa_nil)) (pv 1)))
        (pss_cons (ps_asg (pe_op op_fdivW (pe_ix ix_list (pv 0) pe_int (fun _ _ => rfl)) (pv 1)) (pg_sub (pv 0) pe_int set_list))
        (pss_one (ps_ret (pv 2)))))
        pss_nil)
      (pss_cons (ps_asg (pe_op op_add (pe_ix ix_list (pv 0) pe_int (fun _ _ => rfl)) pe_int) (pg_sub (pv 0) pe_int set_list))
      (pss_cons (ps_set (i := 3) sc__law_dip.nd rfl (by first | exact Or.inl rfl | exact Or.inr rfl) (pe_op op_mod (p_int B (pa_cons (pe_op op_add (pe_op op_mul (pe_ix ix_list (pv 0) pe_int (fun _ _ => rfl)) pe_int) (pe_op op_mul (pe_ix ix_list (pv 0) pe_int (fun _ _ => rfl)) pe_int)) pa_nil)) pe_int))
      (pss_cons (ps_set (i := 4) sc__law_dip.nd rfl (by first | exact Or.inl rfl | exact Or.inr rfl) (pe_op op_mod (p_int B (pa_cons (pe_op op_add (pe_op op_mul (pv 3) (pv 3)) (pe_op op_mul pe_int (pe_ix ix_list (pv 0) pe_int (fun _ _ => rfl)))) pa_nil)) pe_int))
      (pss_one (ps_ret (pe_op op_mod (p_int B (pa_cons (pe_op op_fdivW (pe_op op_mod (p_int B (pa_cons (pe_op op_add (pe_op op_mul (pv 4) pe_int) (pv 3)) pa_nil)) pe_int) pe_int) pa_nil)) (pv 1)))))))), ?_⟩
  refine u_if (a_test (a_cmp (r_any (r_ixI (xs := [x, y, z]) (n := 0) List.mem_cons_self (r_varE rfl) (r_int (K := K)) rfl)) r_anyI)) ?_ ?_
  · refine u_assoc (u_set (R := Bd t) (a_mod (a_int (r_cons (r_any (r_ixI (xs := [x, y, z]) (n := 0) List.mem_cons_self (r_varE rfl) (r_int (K := K)) rfl)) r_nil)) (r_var rfl (h2 _)) hp1) fun x1 F1 e1 g1 => ?_)
    refine u_assoc (u_setC (R := IntV) (a_div (r_any (r_ixI (xs := [x, y, z]) (n := 0) List.mem_cons_self (r_varE rfl) (r_int (K := K)) rfl)) (r_var rfl (h2 _)) ⟨by omega, ?_⟩) (r_varE rfl) (n := 0) (r_int (K := K)) (by show 0 < 3; decide) fun x2 F2 e2 ⟨i, g2⟩ => ?_)
    · have := Nat.log2_le_self t
      show (t : Int).natAbs.log2 < 9000
      rw [Int.natAbs_natCast]
      omega
    subst g2
    exact u_retq (R := Bd t) (r_var rfl g1) fun v F3 e3 hv => ⟨hv, [i, y, z], rfl, rfl⟩
  · refine u_next ?_
    refine u_setC (R := IntV) (a_op0 (r_any (r_ixI (xs := [x, y, z]) (n := 2) List.mem_cons_self (r_varE rfl) (r_int (K := K)) rfl)) r_anyI) (r_varE rfl) (n := 2) (r_int (K := K)) (by show 2 < 3; decide) fun x1 F1 e1 ⟨i, g1⟩ => ?_
    subst g1
    refine u_set (R := Bd 2305843009213693951) (a_mod (m := 2305843009213693951) (a_int (r_cons (a_op0 (a_mulR (r_any (r_ixI (xs := [x, y, i]) (n := 1) List.mem_cons_self (r_varE rfl) (r_int (K := K)) rfl)) (r_int (K := K)) ⟨by decide, by decide⟩) (a_mulR (r_any (r_ixI (xs := [x, y, i]) (n := 2) List.mem_cons_self (r_varE rfl) (r_int (K := K)) rfl)) (r_int (K := K)) ⟨by decide, by decide⟩)) r_nil)) (r_int (K := K)) (by decide)) fun x2 F2 e2 g2 => ?_
    refine u_set (R := Bd 1152921504606846883) (a_mod (m := 1152921504606846883) (a_int (r_cons (a_op0 (a_mulB (r_var rfl g2) (r_anyB (r_var rfl g2)) (by decide)) (a_mulL (r_int (K := K)) (r_any (r_ixI (xs := [x, y, i]) (n := 2) List.mem_cons_self (r_varE rfl) (r_int (K := K)) rfl)) ⟨by decide, by decide⟩)) r_nil)) (r_int (K := K)) (by decide)) fun x3 F3 e3 g3 => ?_
    exact u_ret (R := Bd t) (a_mod (a_int (r_cons (a_div (a_modI (m := 4611686018427387847) (a_int (r_cons (a_op0 (a_mulR (r_anyB (r_var rfl g3)) (r_int (K := K)) ⟨by decide, by decide⟩) (r_anyB (r_var rfl (Mono.go g2 e3)))) r_nil)) (r_int (K := K)) (by decide +kernel)) (r_int (K := K)) ⟨by decide, by decide +kernel⟩) r_nil)) (r_var rfl (h2 _)) hp1) fun v F5 e5 hv => ⟨hv, [x, y, i], rfl, rfl⟩
end
end Wb

/-! what the laws on links draw -/
namespace Wb
open PySem PySem.Spec PyProof.Rows L2 SlX StX Rs Ma Tw
variable [Rs.Tabz]
def spAny {α : Type} : Unit × List α → (α → Prop) → Prop := fun g Q => (g.2 ≠ [] ∧ g.2.length ≤ 1000) ∧ ∀ a ∈ g.2, Q a
theorem erase_perm {α : Type} : ∀ {ys : List α} {n : Nat} (h : n < ys.length), (ys[n] :: ys.eraseIdx n).Perm ys
  | y :: ys, 0, _ => List.Perm.refl _
  | y :: ys, n + 1, h => (List.Perm.swap _ _ _).trans (List.Perm.cons _ (erase_perm (ys := ys) (n := n) (Nat.lt_of_succ_lt_succ h)))
  | [], n, h => absurd h (Nat.not_lt_zero _)
theorem popW_perm {ε α : Type} {X : ε → Prop} : ∀ (xs : List Nat) (ys : List α) (Q : List α → Prop), xs.length = ys.length → ys.length ≤ 1000 → (∀ zs : List α, zs.Perm ys → Q zs) → popW (ε := ε) (fun x l Q X => (1 ≤ l.length ∧ l.length ≤ 1000) ∧ ∀ n, n < l.length → Q n) xs ys Q X
  | [], ys, Q, hl, _, q => q [] (by rw [List.length_eq_zero_iff.mp hl.symm])
  | x :: xs, ys, Q, hl, h, q => by
    rw [List.length_cons] at hl
    refine ⟨⟨by omega, h⟩, fun n hn => ⟨ys[n], List.getElem?_eq_getElem hn, by omega, ?_⟩⟩
    have el : (ys.eraseIdx n).length = ys.length - 1 := by rw [List.length_eraseIdx, if_pos hn]
    exact popW_perm xs (ys.eraseIdx n) _ (by omega) (by omega) fun zs hz => q _ ((List.Perm.cons _ hz).trans (erase_perm hn))
def spPerm {α : Type} : Unit × List α → (List α → Prop) → Prop := fun g Q => g.2.length ≤ 900 ∧ ∀ ys : List α, ys.Perm g.2 → Q ys
section
variable {P : Program} {w : World} {K : PySem.W.Frag} {mg : Str → Option Value} {base : Heap} {α : Type} {RX : α → VP} [∀ a, Mono (RX a)]
abbrev s__law_choose : Stmt := topS 30
abbrev N__law_choose : List Str := ["_law_pot", "_law_items"]
theorem sc__law_choose : FnScope N__law_choose ["_law_pot", "_law_items"] (defScope s__law_choose) := ⟨rfl, rfl, rfl, by decide +kernel, rfl, by decide +kernel, by decide +kernel⟩
theorem ok__law_choose {f : Addr} {fd : FuncData} (B : Bf mg) (c_law_dip : Gf P w K mg base 1 "_law_dip" (SpN (fun g : Unit × Nat => [(fCk 3) g.1, (fD K dN) g.2]) (fun (g : Unit × Nat) (Q : Nat → Prop) => (1 ≤ g.2 ∧ g.2 ≤ 1000) ∧ ∀ n, n < g.2 → Q n) (fD K dN))) (F : Fun K "_law_choose" "_law_choose" s__law_choose f fd) (hm : mg "_law_choose" = some (.ref f)) (b : Binds K fd ["_law_pot", "_law_items"] []) : Gf P w K mg base 2 "_law_choose" (SpN (fun g : Unit × (List α) => [(fCk 3) g.1, (fLn RX) g.2]) spAny RX) := by
  refine gw_mk F hm b sc__law_choose (fun _ => rfl) (fun _ => inferInstance) fun cdv A outer s H E g hr => ?_
  obtain ⟨v__law_pot, v__law_items⟩ := g
  refine ⟨_, (pss_one (ps_ret (pe_ix ix_list (pv 1) (p_call c_law_dip hr (by decide) (pa_cons (pv 0) (pa_cons (p_len B (pa_cons (pv 1) pa_nil)) pa_nil))) (fun _ _ => rfl)))), _,
    (ts_ret (tr_op o_ixLn (tr_var (R := (fLn RX)) (a := v__law_items) rfl) (tr_call (ta_cons (tr_var (R := (fCk 3)) (a := v__law_pot) rfl) (ta_one (tr_cb c_lenL (ta_one (tr_var (R := (fLn RX)) (a := v__law_items) rfl)))))))), ?_⟩
  rintro Q ⟨vs0, F0, hv⟩ hs
  try delta pur
  try dsimp only [spAny] at hs hv ⊢
  obtain ⟨⟨h1, h2⟩, q⟩ := hs
  have : 1 ≤ v__law_items.length := List.length_pos_iff.mpr h1
  exact ⟨⟨this, h2⟩, fun n hn => ⟨_, List.getElem?_eq_getElem hn, q _ (List.getElem_mem hn)⟩⟩
abbrev s__law_shuffled : Stmt := topS 31
abbrev N__law_shuffled : List Str := ["_law_pot", "_law_items", "_law_left", "_law_turn"]
theorem sc__law_shuffled : FnScope N__law_shuffled ["_law_pot", "_law_items"] (defScope s__law_shuffled) := ⟨rfl, rfl, rfl, by decide +kernel, rfl, by decide +kernel, by decide +kernel⟩
theorem ok__law_shuffled {f : Addr} {fd : FuncData} (B : Bf mg) (c_law_dip : Gf P w K mg base 1 "_law_dip" (SpN (fun g : Unit × Nat => [(fCk 3) g.1, (fD K dN) g.2]) (fun (g : Unit × Nat) (Q : Nat → Prop) => (1 ≤ g.2 ∧ g.2 ≤ 1000) ∧ ∀ n, n < g.2 → Q n) (fD K dN))) (F : Fun K "_law_shuffled" "_law_shuffled" s__law_shuffled f fd) (hm : mg "_law_shuffled" = some (.ref f)) (b : Binds K fd ["_law_pot", "_law_items"] []) : Gf P w K mg base 2 "_law_shuffled" (SpN (fun g : Unit × (List α) => [(fCk 3) g.1, (fLn RX) g.2]) spPerm (fLn RX)) := by
  refine gw_mk F hm b sc__law_shuffled (fun _ => rfl) (fun _ => inferInstance) fun cdv A outer s H E g hr => ?_
  obtain ⟨v__law_pot, v__law_items⟩ := g
  refine ⟨_, (pss_cons (ps_set (i := 2) sc__law_shuffled.nd rfl (by first | exact Or.inl rfl | exact Or.inr rfl) (p_list B (pa_cons (pv 1) pa_nil)))
    (pss_one (ps_ret (pe_lc (own := [("_law_turn", 3)]) (g := gName 3) (tt := tYes) rfl sc__law_shuffled.nd (pi_range1 (by rfl) B.range (pa_cons (p_len B (pa_cons (pv 1) pa_nil)) pa_nil)) (blkOk_by (N := N__law_shuffled) (sc := defScope s__law_shuffled) (by decide +kernel)) (fun _ _ _ _ _ => (pg_name (i := 3) sc__law_shuffled.nd rfl (by first | exact Or.inl rfl | exact Or.inr rfl))) (fun _ _ _ _ _ => pts_nil) (fun _ _ _ _ _ => by exact (pe_bmK K PySem.F.plainAttrs_list PySem.F.slot_list_pop PySem.F.type_list_pop mt_popAt (pv 2) (pa_cons (p_call c_law_dip hr (by decide) (pa_cons (pv 0) (pa_cons (p_lenK K B (pa_cons (pv 2) pa_nil)) pa_nil))) pa_nil))))))), _,
    (ts_newC 2 (tn_listL (R := RX) (tr_var (R := (fLn RX)) (a := v__law_items) rfl)) rfl rfl (fun l1 => (ts_retPop (R := RX) (ys := l1) (t := 3) (ti_rangeN (tr_cb c_lenL (ta_one (tr_var (R := (fLn RX)) (a := v__law_items) rfl)))) rfl rfl rfl (fun x2 l3 => (tr_call (ta_cons (tr_var (R := (fCk 3)) (a := v__law_pot) rfl) (ta_one (tr_bor (i := 2) (xs := l3) (R := RX) (tr_cb c_lenL (ta_one (tr_var (R := (fLn RX)) (a := l3) rfl))) rfl rfl (fun _ _ h => h))))))))), ?_⟩
  rintro Q ⟨vs0, F0, hv⟩ hs
  try delta pur
  try dsimp only [spPerm] at hs hv ⊢
  obtain ⟨hl, q⟩ := hs
  exact ⟨by omega, by rw [List.length_range]; omega, popW_perm _ _ _ (by rw [List.length_range]) (by omega) q⟩
end
end Wb

/-! drawn rows -/
namespace Wb
open PySem PySem.Spec PyProof.Rows L2 SlX StX Rs Ma Tw
variable [Rs.Tabz]
theorem lcW_sub {ε β δ : Type} {mc : β → Wm ε Bool} {me : β → Wm ε δ} {h : β → δ} {ok : β → Prop} {X : ε → Prop} : ∀ {xs : List β} {Q : List δ → Prop}, (∀ x ∈ xs, ∀ P : Bool → Prop, P false → (ok x → P true) → mc x P X) → (∀ x ∈ xs, ∀ P : δ → Prop, P (h x) → me x P X) →
    (∀ ys : List β, ys.Sublist xs → (∀ y ∈ ys, ok y) → Q (ys.map h)) → lcW mc me xs Q X
  | [], Q, _, _, q => q [] (List.Sublist.refl _) fun _ z => nomatch z
  | x :: xs, Q, hc, he, q => by
    rw [lcW]
    refine hc x List.mem_cons_self _ ?_ fun o => ?_
    · rw [if_neg Bool.false_ne_true]
      exact lcW_sub (fun y hy => hc y (List.mem_cons_of_mem _ hy)) (fun y hy => he y (List.mem_cons_of_mem _ hy)) fun ys s o => q ys (s.cons x) o
    · rw [if_pos rfl]
      refine he x List.mem_cons_self _ (lcW_sub (fun y hy => hc y (List.mem_cons_of_mem _ hy)) (fun y hy => he y (List.mem_cons_of_mem _ hy)) fun ys s o' => q (x :: ys) (s.cons₂ x) fun y hy => ?_)
      rcases List.mem_cons.mp hy with rfl | hy
      · exact o
      · exact o' y hy
section
variable {P : Program} {w : World} {K : PySem.W.Frag} {mg : Str → Option Value} {base : Heap}
end
end Wb

/-! programs: their parts -/
namespace Wb
open PySem PySem.Spec PyProof.Rows L2 SlX StX Rs Ma Sn Tw
variable [Rs.Tabz]
/-- as isBt, never unfolded -/
@[irreducible] def btI (d : PyData) (a b : Int) : Bool := isBt d a b
theorem btI_eq {d : PyData} {a b : Int} : btI d a b = isBt d a b := by unfold btI; rfl
theorem btI_fun : btI = isBt := by funext d a b; exact btI_eq
theorem bt_400 {h n : Nat} (hh : h < n) (hn : n ≤ 400) : btI (dN h) 0 ((n : Int) - 1) = true := by
  rw [btI_eq]
  unfold dN
  have hb : (400 : Int) < 10 ^ 60 := by decide
  rw [isBt, isInt]
  simp only [Bool.and_eq_true, decide_eq_true_eq]
  omega
theorem bt_in {x : Nat} {lo hi : Nat} (h1 : lo ≤ x) (h2 : x ≤ hi) (h : hi ≤ 400) : btI (dN x) (lo : Int) (hi : Int) = true := by
  rw [btI_eq]
  unfold dN
  have hb : (400 : Int) < 10 ^ 60 := by decide
  rw [isBt, isInt]
  simp only [Bool.and_eq_true, decide_eq_true_eq]
  omega
theorem bt_01 {x : Nat} (h : x ≤ 1) : btI (dN x) 0 1 = true := bt_in (lo := 0) (hi := 1) (Nat.zero_le _) h (by decide)
theorem all_true {α : Type} (xs : List α) : (xs.map fun _ => true).all id = true := by rw [List.all_map]; exact List.all_eq_true.mpr fun _ _ => rfl
theorem key_at_mem {α β : Type} [DecidableEq α] {ps : List (α × β)} (hn : (ps.map (·.1)).Nodup) {a : α} (h : a ∈ ps.map (·.1)) : ∃ p ∈ ps, p.1 = a ∧ getA ps a = some p.2 := by
  obtain ⟨p, hp, rfl⟩ := List.mem_map.mp h
  exact ⟨p, hp, rfl, getA_of hn hp⟩
section
variable {P : Program} {w : World} {K : PySem.W.Frag} {mg : Str → Option Value} {base : Heap} {C_Web C_Pool C_Program : Addr}
abbrev s_is_state : Stmt := topS 15
abbrev N_is_state : List Str := ["value", "states"]
theorem sc_is_state : FnScope N_is_state ["value", "states"] (defScope s_is_state) := ⟨rfl, rfl, rfl, by decide +kernel, rfl, by decide +kernel, by decide +kernel⟩
theorem ok_is_state {f : Addr} {fd : FuncData} (B : Bf mg) (c_is_between : Gf P w K mg base 2 "is_between" (SpN (fun g : PyData × Int × Int => [(fD K dA) g.1, (fD K dInt) g.2.1, (fD K dInt) g.2.2]) (fun (g : PyData × Int × Int) (Q : Bool → Prop) => Q (btI g.1 g.2.1 g.2.2)) (fD K dB))) (F : Fun K "is_state" "is_state" s_is_state f fd) (hm : mg "is_state" = some (.ref f)) (b : Binds K fd ["value", "states"] []) : Gf P w K mg base 3 "is_state" (SpN (fun g : PyData × Nat => [(fD K dA) g.1, (fD K dN) g.2]) (fun (g : PyData × Nat) (Q : Bool → Prop) => Q (btI g.1 0 ((g.2 : Int) - 1))) (fD K dB)) := by
  refine gw_mk F hm b sc_is_state (fun _ => rfl) (fun _ => inferInstance) fun cdv A outer s H E g hr => ?_
  obtain ⟨v_value, v_states⟩ := g
  refine ⟨_, (pss_one (ps_ret (p_call c_is_between hr (by decide) (pa_cons (pv 0) (pa_cons pe_int (pa_cons (pe_op op_sub (pv 1) pe_int) pa_nil)))))), _,
    (ts_ret (tr_call (ta_cons (tr_var (R := (fD K dA)) (a := v_value) rfl) (ta_cons (tr_int (K := K)) (ta_one (tr_op o_i0i (tr_ni (tr_var (R := (fD K dN)) (a := v_states) rfl)) (tr_int (K := K)))))))), ?_⟩
  rintro Q ⟨vs0, F0, hv⟩ hs
  try delta pur
  try dsimp only at hs hv ⊢
  exact hs
abbrev s_are_starts : Stmt := topS 16
abbrev N_are_starts : List Str := ["size", "states", "value", "pair", "one"]
theorem sc_are_starts : FnScope N_are_starts ["size", "states", "value"] (defScope s_are_starts) := ⟨rfl, rfl, rfl, by decide +kernel, rfl, by decide +kernel, by decide +kernel⟩
theorem ok_are_starts {f : Addr} {fd : FuncData} (B : Bf mg) (c_is_state : Gf P w K mg base 3 "is_state" (SpN (fun g : PyData × Nat => [(fD K dA) g.1, (fD K dN) g.2]) (fun (g : PyData × Nat) (Q : Bool → Prop) => Q (btI g.1 0 ((g.2 : Int) - 1))) (fD K dB))) (F : Fun K "are_starts" "are_starts" s_are_starts f fd) (hm : mg "are_starts" = some (.ref f)) (b : Binds K fd ["size", "states", "value"] []) : Gf P w K mg base 4 "are_starts" (SpN (fun g : Nat × Nat × (List (List Nat)) => [(fD K dN) g.1, (fD K dN) g.2.1, (fD K (dT (dT dN))) g.2.2]) (fun (g : Nat × Nat × Rows) (Q : Bool → Prop) => (g.1 ≤ 5 ∧ g.2.1 ≤ 400 ∧ StartsOk g.1 g.2.1 g.2.2) ∧ Q true) (fD K dB)) := by
  refine gw_mk F hm b sc_are_starts (fun _ => rfl) (fun _ => inferInstance) fun cdv A outer s H E g hr => ?_
  obtain ⟨v_size, v_states, v_value⟩ := g
  refine ⟨_, (pss_cons (ps_if (PW.pt (pw_or (pt_not (pt_val (p_isi B (pa_cons (pv 2) (pa_cons (p_ty (by rfl) B.tuple boot_tuple) pa_nil))))) (pw_or1 (pt_cmpR op_ne (p_len B (pa_cons (pv 2) pa_nil)) (pv 0) (nomark _)))))
      (pss_one (ps_ret pe_bl))
      pss_nil)
    (pss_cons (ps_for PassesOwn.never rfl (pi_tup (pv 2)) (pg_name (i := 3) sc_are_starts.nd rfl (by first | exact Or.inl rfl | exact Or.inr rfl))
      (pss_one (ps_if (PW.pt (pw_or (pt_not (pt_val (p_isi B (pa_cons (pv 3) (pa_cons (p_ty (by rfl) B.tuple boot_tuple) pa_nil))))) (pw_or (pt_cmpR op_ne (p_len B (pa_cons (pv 3) pa_nil)) pe_int (nomark _)) (pw_or1 (pt_not (pt_val (p_all rfl B (pa_cons (pe_lc (own := [("one", 4)]) (g := gName 4) (tt := tYes) rfl sc_are_starts.nd (pi_tup (pv 3)) (blkOk_by (N := N_are_starts) (sc := defScope s_are_starts) (by decide +kernel)) (fun _ _ _ _ _ => (pg_name (i := 4) sc_are_starts.nd rfl (by first | exact Or.inl rfl | exact Or.inr rfl))) (fun _ _ _ _ _ => pts_nil) (fun _ _ _ _ _ => by exact (p_call c_is_state hr (by decide) (pa_cons (pv 4) (pa_cons (pv 1) pa_nil))))) pa_nil))))))))
        (pss_one (ps_ret pe_bl))
        pss_nil)))
    (pss_one (ps_ret pe_bl)))), _,
    (ts_ifq (tt_or (tt_not (tt_B (tr_cb (c_isi (T := "tuple")) (ta_cons (tr_any (tr_var (R := (fD K (dT (dT dN)))) (a := v_value) rfl)) (ta_one tr_ty))))) (tt_test (tr_op o_neN (tr_cb c_lenDT (ta_one (tr_var (R := (fD K (dT (dT dN)))) (a := v_value) rfl))) (tr_var (R := (fD K dN)) (a := v_size) rfl))))
      (ts_retq (tr_bl (K := K)))
      (ts_nextq (ts_for (S1 := Unit) (ρ1 := fun s1 => [some ((fD K dN) v_size), some ((fD K dN) v_states), some ((fD K (dT (dT dN))) v_value), none, none]) (κ1s := fun s1 => []) () (leV_some (leV_some (leV_some (leV_none (leV_none leV_nil))))) (fun _ _ _ h => h) (ti_tupD (tr_var (R := (fD K (dT (dT dN)))) (a := v_value) rfl)) (tg_name (R := (fD K (dT dN))) 3) (fun _ => rfl)
      (fun s1 x2 => (ts_one (ts_ifq (tt_or (tt_not (tt_B (tr_cb (c_isi (T := "tuple")) (ta_cons (tr_any (tr_var (R := (fD K (dT dN))) (a := x2) rfl)) (ta_one tr_ty))))) (tt_or (tt_test (tr_op o_neN (tr_cb c_lenDT (ta_one (tr_var (R := (fD K (dT dN))) (a := x2) rfl))) (tr_nat (K := K) 2))) (tt_not (tt_B (tr_cb c_all (ta_one (tr_lc (vs := [4]) (Rd := (fD K dB)) (ti_tupD (tr_var (R := (fD K (dT dN))) (a := x2) rfl)) (tg_name (R := (fD K dN)) 4) rfl rfl rfl (fun _ => rfl) (fun x3 => tt_yes) (fun x3 => (tr_call (ta_cons (tr_any (tr_var (R := (fD K dN)) (a := x3) rfl)) (ta_one (tr_var (R := (fD K dN)) (a := v_states) rfl))))))))))))
      (ts_retq (tr_bl (K := K)))
      (ts_nextq (ts_next () (leV_some (leV_some (leV_some (leV_none (leV_none leV_nil))))) (fun _ _ _ h => h))))))
      (fun s1 => (ts_ret (tr_bl (K := K))))))), ?_⟩
  rintro Q ⟨vs0, F0, hv⟩ hs
  try delta pur
  try dsimp only at hs hv ⊢
  obtain ⟨⟨h5, h4, hl, hp⟩, q⟩ := hs
  refine orW_of false false (fun P hP => ⟨true, rfl, hP⟩) (fun _ P hP => ?_) ?_
  · rw [decide_eq_true hl]; exact hP
  rw [Bool.or_false, if_neg Bool.false_ne_true]
  refine forW_at (f := fun _ => ()) (fun i x hx P hP => ?_) q
  obtain ⟨h2, hx4⟩ := hp x (List.mem_iff_getElem?.mpr ⟨i, hx⟩)
  refine orW_of false false (fun P hP => ⟨true, rfl, hP⟩) (fun _ P hP => ?_) ?_
  · refine orW_of false false (fun P hP => by rw [decide_eq_true h2]; exact hP) (fun _ P hP => ⟨by omega, lcW_map (h := fun _ => true) (fun y hy Q hQ => ?_) ?_⟩) hP
    · rw [show btI (dN y) 0 ((v_states : Int) - 1) = true from bt_400 (hx4 y hy) h4]; exact hQ
    · rw [all_true]; exact hP
  rw [Bool.or_false, if_neg Bool.false_ne_true]
  exact hP
abbrev s_is_hearing : Stmt := topS 17
abbrev N_is_hearing : List Str := ["size", "states", "state", "value", "one"]
theorem sc_is_hearing : FnScope N_is_hearing ["size", "states", "state", "value"] (defScope s_is_hearing) := ⟨rfl, rfl, rfl, by decide +kernel, rfl, by decide +kernel, by decide +kernel⟩
theorem ok_is_hearing {f : Addr} {fd : FuncData} (B : Bf mg) (c_is_state : Gf P w K mg base 3 "is_state" (SpN (fun g : PyData × Nat => [(fD K dA) g.1, (fD K dN) g.2]) (fun (g : PyData × Nat) (Q : Bool → Prop) => Q (btI g.1 0 ((g.2 : Int) - 1))) (fD K dB))) (F : Fun K "is_hearing" "is_hearing" s_is_hearing f fd) (hm : mg "is_hearing" = some (.ref f)) (b : Binds K fd ["size", "states", "state", "value"] []) : Gf P w K mg base 4 "is_hearing" (SpN (fun g : Nat × Nat × Nat × (List (Option Nat)) => [(fD K dN) g.1, (fD K dN) g.2.1, (fD K dN) g.2.2.1, (fD K (dT dO)) g.2.2.2]) (fun (g : Nat × Nat × Nat × Hrd) (Q : Bool → Prop) => (g.1 ≤ 5 ∧ g.2.1 ≤ 400 ∧ HearOk g.1 g.2.1 g.2.2.1 g.2.2.2) ∧ Q true) (fD K dB)) := by
  refine gw_mk F hm b sc_is_hearing (fun _ => rfl) (fun _ => inferInstance) fun cdv A outer s H E g hr => ?_
  obtain ⟨v_size, v_states, v_state, v_value⟩ := g
  refine ⟨_, (pss_cons (ps_if (PW.pt (pw_or (pt_not (pt_val (p_isi B (pa_cons (pv 3) (pa_cons (p_ty (by rfl) B.tuple boot_tuple) pa_nil))))) (pw_or1 (pt_cmpR op_ne (p_len B (pa_cons (pv 3) pa_nil)) (pv 0) (nomark _)))))
      (pss_one (ps_ret pe_bl))
      pss_nil)
    (pss_one (ps_ret (pe_and (p_all rfl B (pa_cons (pe_lc (own := [("one", 4)]) (g := gName 4) (tt := tYes) rfl sc_is_hearing.nd (pi_tup (pv 3)) (blkOk_by (N := N_is_hearing) (sc := defScope s_is_hearing) (by decide +kernel)) (fun _ _ _ _ _ => (pg_name (i := 4) sc_is_hearing.nd rfl (by first | exact Or.inl rfl | exact Or.inr rfl))) (fun _ _ _ _ _ => pts_nil) (fun _ _ _ _ _ => by exact (pe_or (pe_cmp (pc_isN (pv 4))) (pe_one (p_call c_is_state hr (by decide) (pa_cons (pv 4) (pa_cons (pv 1) pa_nil))))))) pa_nil)) (pe_one (pe_cmpR (Nq.op_inDT (room65 hr)) (pv 2) (pv 3) rfl)))))), _,
    (ts_ifq (tt_or (tt_not (tt_B (tr_cb (c_isi (T := "tuple")) (ta_cons (tr_any (tr_var (R := (fD K (dT dO))) (a := v_value) rfl)) (ta_one tr_ty))))) (tt_test (tr_op o_neN (tr_cb c_lenDT (ta_one (tr_var (R := (fD K (dT dO))) (a := v_value) rfl))) (tr_var (R := (fD K dN)) (a := v_size) rfl))))
      (ts_retq (tr_bl (K := K)))
      (ts_nextq (ts_ret (tr_and (tr_cb c_all (ta_one (tr_lc (vs := [4]) (Rd := (fD K dB)) (ti_tupD (tr_var (R := (fD K (dT dO))) (a := v_value) rfl)) (tg_name (R := (fD K dO)) 4) rfl rfl rfl (fun _ => rfl) (fun x1 => tt_yes) (fun x1 => (tr_or (tr_isNO (tr_var (R := (fD K dO)) (a := x1) rfl)) (tr_call (ta_cons (tr_any (tr_var (R := (fD K dO)) (a := x1) rfl)) (ta_one (tr_var (R := (fD K dN)) (a := v_states) rfl))))))))) (tr_op (o_inDT (d := dO)) (tr_sO (tr_var (R := (fD K dN)) (a := v_state) rfl)) (tr_var (R := (fD K (dT dO))) (a := v_value) rfl)))))), ?_⟩
  rintro Q ⟨vs0, F0, hv⟩ hs
  try delta pur
  try dsimp only at hs hv ⊢
  obtain ⟨⟨h5, h4, hl, hx, hm⟩, q⟩ := hs
  refine orW_of false false (fun P hP => ⟨true, rfl, hP⟩) (fun _ P hP => ?_) ?_
  · rw [decide_eq_true hl]; exact hP
  rw [Bool.or_false, if_neg Bool.false_ne_true]
  refine andW_of true true (fun P hP => ⟨by omega, lcW_map (h := fun _ => true) (fun o ho Q hQ => ?_) (by rw [all_true]; exact hP)⟩) (fun _ P hP => by have h9 : some v_state ∈ v_value := hm; simp only [h9, decide_true]; exact hP) q
  cases o with
  | none => exact orW_of true true (fun P hP => hP) (fun z => nomatch z) hQ
  | some n => exact orW_of false true (fun P hP => hP) (fun _ P hP => by rw [show btI (dO (some n)) 0 ((v_states : Int) - 1) = true from bt_400 (hx n ho) h4]; exact hP) hQ
abbrev s_are_decisions : Stmt := topS 18
abbrev N_are_decisions : List Str := ["states", "value", "state"]
theorem sc_are_decisions : FnScope N_are_decisions ["states", "value"] (defScope s_are_decisions) := ⟨rfl, rfl, rfl, by decide +kernel, rfl, by decide +kernel, by decide +kernel⟩
theorem ok_are_decisions {f : Addr} {fd : FuncData} (B : Bf mg) (c_is_state : Gf P w K mg base 3 "is_state" (SpN (fun g : PyData × Nat => [(fD K dA) g.1, (fD K dN) g.2]) (fun (g : PyData × Nat) (Q : Bool → Prop) => Q (btI g.1 0 ((g.2 : Int) - 1))) (fD K dB))) (c_is_between : Gf P w K mg base 2 "is_between" (SpN (fun g : PyData × Int × Int => [(fD K dA) g.1, (fD K dInt) g.2.1, (fD K dInt) g.2.2]) (fun (g : PyData × Int × Int) (Q : Bool → Prop) => Q (btI g.1 g.2.1 g.2.2)) (fD K dB))) (F : Fun K "are_decisions" "are_decisions" s_are_decisions f fd) (hm : mg "are_decisions" = some (.ref f)) (b : Binds K fd ["states", "value"] []) : Gf P w K mg base 4 "are_decisions" (SpN (fun g : Nat × (List (Nat × Nat)) => [(fD K dN) g.1, (fDZ dN (fD K dN)) g.2]) (fun (g : Nat × List (Nat × Nat)) (Q : Bool → Prop) => (g.1 ≤ 400 ∧ DecsOk g.1 g.2) ∧ Q true) (fD K dB)) := by
  refine gw_mk F hm b sc_are_decisions (fun _ => rfl) (fun _ => inferInstance) fun cdv A outer s H E g hr => ?_
  obtain ⟨v_states, v_value⟩ := g
  refine ⟨_, (pss_cons (ps_if (pt_not (pt_val (p_isiDct K P w B (pa_cons (pv 1) (pa_cons (p_ty (by rfl) B.dict boot_dict) pa_nil)))))
      (pss_one (ps_ret pe_bl))
      pss_nil)
    (pss_one (ps_ret (p_all rfl B (pa_cons (pe_lc (own := [("state", 2)]) (g := gName 2) (tt := tYes) rfl sc_are_decisions.nd (pi_keys (pv 1)) (blkOk_by (N := N_are_decisions) (sc := defScope s_are_decisions) (by decide +kernel)) (fun _ _ _ _ _ => (pg_name (i := 2) sc_are_decisions.nd rfl (by first | exact Or.inl rfl | exact Or.inr rfl))) (fun _ _ _ _ _ => pts_nil) (fun _ _ _ _ _ => by exact (pe_and (p_call c_is_state hr (by decide) (pa_cons (pv 2) (pa_cons (pv 0) pa_nil))) (pe_one (p_call c_is_between hr (by decide) (pa_cons (pe_dget (hu_of hr) (pv 1) (pv 2) (fun _ _ => rfl)) (pa_cons pe_int (pa_cons pe_int pa_nil)))))))) pa_nil))))), _,
    (ts_ifq (tt_not (tt_B (tr_cb (c_isiDI (d := dN)) (ta_cons (tr_ZI (tr_var (R := (fDZ dN (fD K dN))) (a := v_value) rfl)) (ta_one tr_ty)))))
      (ts_retq (tr_bl (K := K)))
      (ts_nextq (ts_ret (tr_cb c_all (ta_one (tr_lc (vs := [2]) (Rd := (fD K dB)) (ti_keysZ (tr_var (R := (fDZ dN (fD K dN))) (a := v_value) rfl)) (tg_name (R := (fD K dN)) 2) rfl rfl rfl (fun _ => rfl) (fun x1 => tt_yes) (fun x1 => (tr_and (tr_call (ta_cons (tr_any (tr_var (R := (fD K dN)) (a := x1) rfl)) (ta_one (tr_var (R := (fD K dN)) (a := v_states) rfl)))) (tr_call (ta_cons (tr_any (tr_dgetZ (tr_var (R := (fDZ dN (fD K dN))) (a := v_value) rfl) (tr_var (R := (fD K dN)) (a := x1) rfl))) (ta_cons (tr_int (K := K)) (ta_one (tr_int (K := K)))))))))))))), ?_⟩
  rintro Q ⟨vs0, F0, hv⟩ hs
  try delta pur
  try dsimp only at hs hv ⊢
  obtain ⟨⟨h4, hn, hl, hp⟩, q⟩ := hs
  rw [Bool.not_true, if_neg Bool.false_ne_true]
  refine ⟨by rw [List.length_map]; omega, lcW_map (h := fun _ => true) (fun s hs Q hQ => ?_) (by rw [all_true]; exact q)⟩
  obtain ⟨p, hm, rfl, e⟩ := key_at_mem hn hs
  obtain ⟨a, b⟩ := hp p hm
  exact andW_of true true (fun P hP => by rw [bt_400 a h4]; exact hP) (fun _ P hP => ⟨_, e, by rw [bt_01 b]; exact hP⟩) hQ
abbrev s_is_let : Stmt := topS 19
abbrev N_is_let : List Str := ["decisions", "state", "later"]
theorem sc_is_let : FnScope N_is_let ["decisions", "state", "later"] (defScope s_is_let) := ⟨rfl, rfl, rfl, by decide +kernel, rfl, by decide +kernel, by decide +kernel⟩
theorem ok_is_let {f : Addr} {fd : FuncData} (B : Bf mg)  (F : Fun K "is_let" "is_let" s_is_let f fd) (hm : mg "is_let" = some (.ref f)) (b : Binds K fd ["decisions", "state", "later"] []) : Gf P w K mg base 1 "is_let" (SpN (fun g : (List (Nat × Nat)) × Nat × Nat => [(fDZ dN (fD K dN)) g.1, (fD K dN) g.2.1, (fD K dN) g.2.2]) (fun (g : List (Nat × Nat) × Nat × Nat) (Q : Bool → Prop) => Q (letB g.1 g.2.1 g.2.2)) (fD K dB)) := by
  refine gw_mk F hm b sc_is_let (fun _ => rfl) (fun _ => inferInstance) fun cdv A outer s H E g hr => ?_
  obtain ⟨v_decisions, v_state, v_later⟩ := g
  refine ⟨_, (pss_one (ps_ret (pe_or (pe_cmp (pc_dnotin (hu_of hr) (pv 1) (pv 0))) (pe_one (pe_cmpR (op_eqD hr.units) (pe_dget2 (hu_of hr) (pv 0) (pv 2) pe_non ⟨rfl, rfl, rfl, rfl⟩) (pe_dget (hu_of hr) (pv 0) (pv 1) (fun _ _ => rfl)) (nomark _)))))), _,
    (ts_ret (tr_or (tr_dnotin (tr_var (R := (fD K dN)) (a := v_state) rfl) (tr_ZI (tr_var (R := (fDZ dN (fD K dN))) (a := v_decisions) rfl))) (tr_op (o_eqD (d := dO)) (tr_getIO (tr_ZI (tr_var (R := (fDZ dN (fD K dN))) (a := v_decisions) rfl)) (tr_var (R := (fD K dN)) (a := v_later) rfl)) (tr_sO (tr_dgetZ (tr_var (R := (fDZ dN (fD K dN))) (a := v_decisions) rfl) (tr_var (R := (fD K dN)) (a := v_state) rfl)))))), ?_⟩
  rintro Q ⟨vs0, F0, hv⟩ hs
  try delta pur
  try dsimp only at hs hv ⊢
  unfold letB at hs
  cases e : getA v_decisions v_state with
  | none =>
    rw [e] at hs
    exact orW_of true true (fun P hP => hP) (fun z => nomatch z) hs
  | some b =>
    rw [e] at hs
    exact orW_of false (decide (getA v_decisions v_later = some b)) (fun P hP => hP) (fun _ P hP => ⟨b, rfl, hP⟩) (by simpa using hs)
abbrev s_are_moves : Stmt := topS 20
abbrev N_are_moves : List Str := ["size", "states", "decisions", "value", "key"]
theorem sc_are_moves : FnScope N_are_moves ["size", "states", "decisions", "value"] (defScope s_are_moves) := ⟨rfl, rfl, rfl, by decide +kernel, rfl, by decide +kernel, by decide +kernel⟩
theorem ok_are_moves {f : Addr} {fd : FuncData} (B : Bf mg) (g_MAX_MOVES : GInt mg "MAX_MOVES" 4000) (c_is_state : Gf P w K mg base 3 "is_state" (SpN (fun g : PyData × Nat => [(fD K dA) g.1, (fD K dN) g.2]) (fun (g : PyData × Nat) (Q : Bool → Prop) => Q (btI g.1 0 ((g.2 : Int) - 1))) (fD K dB))) (c_is_hearing : Gf P w K mg base 4 "is_hearing" (SpN (fun g : Nat × Nat × Nat × (List (Option Nat)) => [(fD K dN) g.1, (fD K dN) g.2.1, (fD K dN) g.2.2.1, (fD K (dT dO)) g.2.2.2]) (fun (g : Nat × Nat × Nat × Hrd) (Q : Bool → Prop) => (g.1 ≤ 5 ∧ g.2.1 ≤ 400 ∧ HearOk g.1 g.2.1 g.2.2.1 g.2.2.2) ∧ Q true) (fD K dB))) (c_is_let : Gf P w K mg base 1 "is_let" (SpN (fun g : (List (Nat × Nat)) × Nat × Nat => [(fDZ dN (fD K dN)) g.1, (fD K dN) g.2.1, (fD K dN) g.2.2]) (fun (g : List (Nat × Nat) × Nat × Nat) (Q : Bool → Prop) => Q (letB g.1 g.2.1 g.2.2)) (fD K dB))) (F : Fun K "are_moves" "are_moves" s_are_moves f fd) (hm : mg "are_moves" = some (.ref f)) (b : Binds K fd ["size", "states", "decisions", "value"] []) : Gf P w K mg base 5 "are_moves" (SpN (fun g : Nat × Nat × (List (Nat × Nat)) × (List ((Nat × (List (Option Nat))) × Nat)) => [(fD K dN) g.1, (fD K dN) g.2.1, (fDZ dN (fD K dN)) g.2.2.1, (fDKZ K P w (dP dN (dT dO)) (fD K dN)) g.2.2.2]) (fun (g : Nat × Nat × List (Nat × Nat) × List (Mvk × Nat)) (Q : Bool → Prop) => (g.1 ≤ 5 ∧ g.2.1 ≤ 400 ∧ MovesOk g.1 g.2.1 g.2.2.1 g.2.2.2) ∧ Q true) (fD K dB)) := by
  refine gw_mk F hm b sc_are_moves (fun _ => rfl) (fun _ => inferInstance) fun cdv A outer s H E g hr => ?_
  obtain ⟨v_size, v_states, v_decisions, v_value⟩ := g
  refine ⟨_, (pss_cons (ps_if (PW.pt (pw_or (pt_not (pt_val (p_isiDct K P w B (pa_cons (pv 3) (pa_cons (p_ty (by rfl) B.dict boot_dict) pa_nil))))) (pw_or1 (pt_cmpR op_gt (p_lenDK K P w B (pa_cons (pv 3) pa_nil)) (p_gint g_MAX_MOVES) (nomark _)))))
      (pss_one (ps_ret pe_bl))
      pss_nil)
    (pss_cons (ps_for PassesOwn.never rfl (pi_keysN P w (pv 3)) (pg_name (i := 4) sc_are_moves.nd rfl (by first | exact Or.inl rfl | exact Or.inr rfl))
      (pss_cons (ps_if (PW.pt (pw_or (pt_not (pt_val (p_isi B (pa_cons (pv 4) (pa_cons (p_ty (by rfl) B.tuple boot_tuple) pa_nil))))) (pw_or (pt_cmpR op_ne (p_len B (pa_cons (pv 4) pa_nil)) pe_int (nomark _)) (pw_or1 (pt_not (pt_val (p_call c_is_state hr (by decide) (pa_cons (pe_ix ix_tup (pv 4) pe_int (fun _ _ => rfl)) (pa_cons (pv 1) pa_nil)))))))))
        (pss_one (ps_ret pe_bl))
        pss_nil)
      (pss_cons (ps_if (PW.pt (pw_or (pt_not (pt_val (p_call c_is_hearing hr (by decide) (pa_cons (pv 0) (pa_cons (pv 1) (pa_cons (pe_ix ix_tup (pv 4) pe_int (fun _ _ => rfl)) (pa_cons (pe_ix ix_tup (pv 4) pe_int (fun _ _ => rfl)) pa_nil))))))) (pw_or1 (pt_not (pt_val (p_call c_is_state hr (by decide) (pa_cons (p_ixNK K P w hr.units (pv 3) (pv 4) (fun _ _ => rfl)) (pa_cons (pv 1) pa_nil))))))))
        (pss_one (ps_ret pe_bl))
        pss_nil)
      (pss_one (ps_if (pt_not (pt_val (p_call c_is_let hr (by decide) (pa_cons (pv 2) (pa_cons (pe_ix ix_tup (pv 4) pe_int (fun _ _ => rfl)) (pa_cons (p_ixNK K P w hr.units (pv 3) (pv 4) (fun _ _ => rfl)) pa_nil))))))
        (pss_one (ps_ret pe_bl))
        pss_nil)))))
    (pss_one (ps_ret pe_bl)))), _,
    (ts_ifq (tt_or (tt_not (tt_B (tr_cb (c_isiDN (d := (dP dN (dT dO)))) (ta_cons (tr_ZK (tr_var (R := (fDKZ K P w (dP dN (dT dO)) (fD K dN))) (a := v_value) rfl)) (ta_one tr_ty))))) (tt_test (tr_op o_gtN (tr_cb (c_lenDK (d := (dP dN (dT dO)))) (ta_one (tr_ZK (tr_var (R := (fDKZ K P w (dP dN (dT dO)) (fD K dN))) (a := v_value) rfl)))) (tr_nat (K := K) 4000))))
      (ts_retq (tr_bl (K := K)))
      (ts_nextq (ts_for (S1 := Unit) (ρ1 := fun s1 => [some ((fD K dN) v_size), some ((fD K dN) v_states), some ((fDZ dN (fD K dN)) v_decisions), some ((fDKZ K P w (dP dN (dT dO)) (fD K dN)) v_value), none]) (κ1s := fun s1 => []) () (leV_some (leV_some (leV_some (leV_some (leV_none leV_nil))))) (fun _ _ _ h => h) (ti_keysN (d := (dP dN (dT dO))) (tr_var (R := (fDKZ K P w (dP dN (dT dO)) (fD K dN))) (a := v_value) rfl)) (tg_name (R := (fD K (dP dN (dT dO)))) 4) (fun _ => rfl)
      (fun s1 x2 => (ts_ifq (tt_or (tt_not (tt_B (tr_cb (c_isi (T := "tuple")) (ta_cons (tr_any (tr_var (R := (fD K (dP dN (dT dO)))) (a := x2) rfl)) (ta_one tr_ty))))) (tt_or (tt_test (tr_op o_neN (tr_cb c_lenDT (ta_one (tr_pAny (tr_var (R := (fD K (dP dN (dT dO)))) (a := x2) rfl)))) (tr_nat (K := K) 2))) (tt_not (tt_B (tr_call (ta_cons (tr_any (tr_fst (tr_var (R := (fD K (dP dN (dT dO)))) (a := x2) rfl))) (ta_one (tr_var (R := (fD K dN)) (a := v_states) rfl))))))))
      (ts_retq (tr_bl (K := K)))
      (ts_nextq (ts_ifq (tt_or (tt_not (tt_B (tr_call (ta_cons (tr_var (R := (fD K dN)) (a := v_size) rfl) (ta_cons (tr_var (R := (fD K dN)) (a := v_states) rfl) (ta_cons (tr_fst (tr_var (R := (fD K (dP dN (dT dO)))) (a := x2) rfl)) (ta_one (tr_snd (tr_var (R := (fD K (dP dN (dT dO)))) (a := x2) rfl))))))))) (tt_not (tt_B (tr_call (ta_cons (tr_any (tr_op (o_ixDP (d := (dP dN (dT dO)))) (tr_ZK (tr_var (R := (fDKZ K P w (dP dN (dT dO)) (fD K dN))) (a := v_value) rfl)) (tr_var (R := (fD K (dP dN (dT dO)))) (a := x2) rfl))) (ta_one (tr_var (R := (fD K dN)) (a := v_states) rfl)))))))
      (ts_retq (tr_bl (K := K)))
      (ts_nextq (ts_one (ts_ifq (tt_not (tt_B (tr_call (ta_cons (tr_var (R := (fDZ dN (fD K dN))) (a := v_decisions) rfl) (ta_cons (tr_fst (tr_var (R := (fD K (dP dN (dT dO)))) (a := x2) rfl)) (ta_one (tr_op (o_ixDP (d := (dP dN (dT dO)))) (tr_ZK (tr_var (R := (fDKZ K P w (dP dN (dT dO)) (fD K dN))) (a := v_value) rfl)) (tr_var (R := (fD K (dP dN (dT dO)))) (a := x2) rfl))))))))
      (ts_retq (tr_bl (K := K)))
      (ts_nextq (ts_next () (leV_some (leV_some (leV_some (leV_some (leV_none leV_nil))))) (fun _ _ _ h => h))))))))))
      (fun s1 => (ts_ret (tr_bl (K := K))))))), ?_⟩
  rintro Q ⟨vs0, F0, hv⟩ hs
  try delta pur
  try dsimp only at hs hv ⊢
  obtain ⟨⟨h5, h4, hn, hl, hp⟩, q⟩ := hs
  refine orW_of false false (fun P hP => hP) (fun _ P hP => by rw [decide_eq_false (by omega)]; exact hP) ?_
  rw [Bool.or_false, if_neg Bool.false_ne_true]
  refine forW_at (f := fun _ => ()) (fun i k hk P hP => ?_) q
  obtain ⟨p, hm, rfl, e⟩ := key_at_mem hn (List.mem_iff_getElem?.mpr ⟨i, hk⟩)
  obtain ⟨a, b, c, d⟩ := hp p hm
  refine orW_of false false (fun P hP => ⟨true, rfl, hP⟩) (fun _ P hP => ?_) ?_
  · refine orW_of false false (fun P hP => hP) (fun _ P hP => ?_) hP
    rw [show btI (dN p.1.1) 0 ((v_states : Int) - 1) = true from bt_400 a h4]; exact hP
  rw [Bool.or_false, if_neg Bool.false_ne_true]
  refine orW_of false false (fun P hP => ⟨⟨h5, h4, b⟩, hP⟩) (fun _ P hP => ⟨_, e, ?_⟩) ?_
  · rw [show btI (dN p.2) 0 ((v_states : Int) - 1) = true from bt_400 c h4]; exact hP
  rw [Bool.or_false, if_neg Bool.false_ne_true]
  refine ⟨_, e, ?_⟩
  rw [d, Bool.not_true, if_neg Bool.false_ne_true]
  exact hP
abbrev s_are_parts : Stmt := topS 21
abbrev N_are_parts : List Str := ["size", "states", "starts", "moves", "decisions"]
theorem sc_are_parts : FnScope N_are_parts ["size", "states", "starts", "moves", "decisions"] (defScope s_are_parts) := ⟨rfl, rfl, rfl, by decide +kernel, rfl, by decide +kernel, by decide +kernel⟩
theorem ok_are_parts {f : Addr} {fd : FuncData} (B : Bf mg) (c_are_decisions : Gf P w K mg base 4 "are_decisions" (SpN (fun g : Nat × (List (Nat × Nat)) => [(fD K dN) g.1, (fDZ dN (fD K dN)) g.2]) (fun (g : Nat × List (Nat × Nat)) (Q : Bool → Prop) => (g.1 ≤ 400 ∧ DecsOk g.1 g.2) ∧ Q true) (fD K dB))) (c_are_starts : Gf P w K mg base 4 "are_starts" (SpN (fun g : Nat × Nat × (List (List Nat)) => [(fD K dN) g.1, (fD K dN) g.2.1, (fD K (dT (dT dN))) g.2.2]) (fun (g : Nat × Nat × Rows) (Q : Bool → Prop) => (g.1 ≤ 5 ∧ g.2.1 ≤ 400 ∧ StartsOk g.1 g.2.1 g.2.2) ∧ Q true) (fD K dB))) (c_are_moves : Gf P w K mg base 5 "are_moves" (SpN (fun g : Nat × Nat × (List (Nat × Nat)) × (List ((Nat × (List (Option Nat))) × Nat)) => [(fD K dN) g.1, (fD K dN) g.2.1, (fDZ dN (fD K dN)) g.2.2.1, (fDKZ K P w (dP dN (dT dO)) (fD K dN)) g.2.2.2]) (fun (g : Nat × Nat × List (Nat × Nat) × List (Mvk × Nat)) (Q : Bool → Prop) => (g.1 ≤ 5 ∧ g.2.1 ≤ 400 ∧ MovesOk g.1 g.2.1 g.2.2.1 g.2.2.2) ∧ Q true) (fD K dB))) (F : Fun K "are_parts" "are_parts" s_are_parts f fd) (hm : mg "are_parts" = some (.ref f)) (b : Binds K fd ["size", "states", "starts", "moves", "decisions"] []) : Gf P w K mg base 6 "are_parts" (SpN (fun g : Nat × Nat × (List (List Nat)) × (List ((Nat × (List (Option Nat))) × Nat)) × (List (Nat × Nat)) => [(fD K dN) g.1, (fD K dN) g.2.1, (fD K (dT (dT dN))) g.2.2.1, (fDKZ K P w (dP dN (dT dO)) (fD K dN)) g.2.2.2.1, (fDZ dN (fD K dN)) g.2.2.2.2]) (fun (g : Nat × Nat × Rows × List (Mvk × Nat) × List (Nat × Nat)) (Q : Bool → Prop) => RawOk g ∧ Q true) (fD K dB)) := by
  refine gw_mk F hm b sc_are_parts (fun _ => rfl) (fun _ => inferInstance) fun cdv A outer s H E g hr => ?_
  obtain ⟨v_size, v_states, v_starts, v_moves, v_decisions⟩ := g
  refine ⟨_, (pss_cons (ps_if (PW.pt (pw_or (pt_not (pt_val (p_call c_are_starts hr (by decide) (pa_cons (pv 0) (pa_cons (pv 1) (pa_cons (pv 2) pa_nil)))))) (pw_or1 (pt_not (pt_val (p_call c_are_decisions hr (by decide) (pa_cons (pv 1) (pa_cons (pv 4) pa_nil))))))))
      (pss_one (ps_ret pe_bl))
      pss_nil)
    (pss_one (ps_ret (p_call c_are_moves hr (by decide) (pa_cons (pv 0) (pa_cons (pv 1) (pa_cons (pv 4) (pa_cons (pv 3) pa_nil)))))))), _,
    (ts_ifq (tt_or (tt_not (tt_B (tr_call (ta_cons (tr_var (R := (fD K dN)) (a := v_size) rfl) (ta_cons (tr_var (R := (fD K dN)) (a := v_states) rfl) (ta_one (tr_var (R := (fD K (dT (dT dN)))) (a := v_starts) rfl))))))) (tt_not (tt_B (tr_call (ta_cons (tr_var (R := (fD K dN)) (a := v_states) rfl) (ta_one (tr_var (R := (fDZ dN (fD K dN))) (a := v_decisions) rfl)))))))
      (ts_retq (tr_bl (K := K)))
      (ts_nextq (ts_ret (tr_call (ta_cons (tr_var (R := (fD K dN)) (a := v_size) rfl) (ta_cons (tr_var (R := (fD K dN)) (a := v_states) rfl) (ta_cons (tr_var (R := (fDZ dN (fD K dN))) (a := v_decisions) rfl) (ta_one (tr_var (R := (fDKZ K P w (dP dN (dT dO)) (fD K dN))) (a := v_moves) rfl))))))))), ?_⟩
  rintro Q ⟨vs0, F0, hv⟩ hs
  try delta pur
  try dsimp only at hs hv ⊢
  obtain ⟨ok, q⟩ := hs
  have h5 := ok.sz.2
  have h4 := ok.st.2
  refine orW_of false false (fun P hP => ⟨⟨h5, h4, ok.starts⟩, hP⟩) (fun _ P hP => ⟨⟨h4, ok.decs⟩, hP⟩) ?_
  rw [Bool.or_false, if_neg Bool.false_ne_true]
  exact ⟨⟨h5, h4, ok.moves⟩, q⟩
abbrev s_place_of_move : Stmt := topS 22
abbrev N_place_of_move : List Str := ["key", "states", "one"]
theorem sc_place_of_move : FnScope N_place_of_move ["key", "states"] (defScope s_place_of_move) := ⟨rfl, rfl, rfl, by decide +kernel, rfl, by decide +kernel, by decide +kernel⟩
theorem ok_place_of_move {f : Addr} {fd : FuncData} (B : Bf mg)  (F : Fun K "place_of_move" "place_of_move" s_place_of_move f fd) (hm : mg "place_of_move" = some (.ref f)) (b : Binds K fd ["key", "states"] []) : Gf P w K mg base 1 "place_of_move" (SpN (fun g : (Nat × (List (Option Nat))) × Nat => [(fD K (dP dN (dT dO))) g.1, (fD K dN) g.2]) (fun (g : Mvk × Nat) (Q : Nat × List Nat → Prop) => g.1.2.length ≤ 5 ∧ Q (placeOf g.2 g.1)) (fD K (dP dN (dT dN)))) := by
  refine gw_mk F hm b sc_place_of_move (fun _ => rfl) (fun _ => inferInstance) fun cdv A outer s H E g hr => ?_
  obtain ⟨v_key, v_states⟩ := g
  refine ⟨_, (pss_one (ps_ret (pe_tup (pa_cons (pe_ix ix_tup (pv 0) pe_int (fun _ _ => rfl)) (pa_cons (p_tuple B (pa_cons (pe_lc (own := [("one", 2)]) (g := gName 2) (tt := tYes) rfl sc_place_of_move.nd (pi_tup (pe_ix ix_tup (pv 0) pe_int (fun _ _ => rfl))) (blkOk_by (N := N_place_of_move) (sc := defScope s_place_of_move) (by decide +kernel)) (fun _ _ _ _ _ => (pg_name (i := 2) sc_place_of_move.nd rfl (by first | exact Or.inl rfl | exact Or.inr rfl))) (fun _ _ _ _ _ => pts_nil) (fun _ _ _ _ _ => by exact (pe_ifExp (pt_cmp (pc_isN (pv 2))) (pv 1) (pv 2)))) pa_nil)) pa_nil))))), _,
    (ts_ret (tr_pD (tr_pair (tr_fst (tr_var (R := (fD K (dP dN (dT dO)))) (a := v_key) rfl)) (tr_cb c_tupDL (ta_one (tr_lnD (tr_lc (vs := [2]) (Rd := (fD K dN)) (ti_tupD (tr_snd (tr_var (R := (fD K (dP dN (dT dO)))) (a := v_key) rfl))) (tg_name (R := (fD K dO)) 2) rfl rfl rfl (fun _ => rfl) (fun x1 => tt_yes) (fun x1 => (tr_if (tt_B (tr_isNO (tr_var (R := (fD K dO)) (a := x1) rfl))) (tr_var (R := (fD K dN)) (a := v_states) rfl) (tr_oN (tr_var (R := (fD K dO)) (a := x1) rfl))))))))))), ?_⟩
  rintro Q ⟨vs0, F0, hv⟩ hs
  try delta pur
  try dsimp only at hs hv ⊢
  obtain ⟨h5, q⟩ := hs
  refine ⟨by omega, lcW_map (h := fun o : Option Nat => o.getD v_states) (fun o ho Q hQ => ?_) (show Q (v_key.1, v_key.2.map fun o => o.getD v_states) from q)⟩
  cases o with
  | none => exact hQ
  | some n => exact ⟨n, rfl, hQ⟩
abbrev s_first_of : Stmt := topS 24
abbrev N_first_of : List Str := ["pair"]
theorem sc_first_of : FnScope N_first_of ["pair"] (defScope s_first_of) := ⟨rfl, rfl, rfl, by decide +kernel, rfl, by decide +kernel, by decide +kernel⟩
theorem ok_first_of {f : Addr} {fd : FuncData} (B : Bf mg)  (F : Fun K "first_of" "first_of" s_first_of f fd) (hm : mg "first_of" = some (.ref f)) (b : Binds K fd ["pair"] []) : Gf P w K mg base 1 "first_of" (SpN (fun g : (PyData × PyData) => [(fD K (dP dA dA)) g]) (fun (g : PyData × PyData) (Q : PyData → Prop) => Q g.1) (fD K dA)) := by
  refine gw_mk F hm b sc_first_of (fun _ => rfl) (fun _ => inferInstance) fun cdv A outer s H E g hr => ?_
  obtain ⟨v_pair, hgen⟩ : ∃ x, x = g := ⟨g, rfl⟩
  subst hgen
  refine ⟨_, (pss_one (ps_ret (pe_ix ix_tup (pv 0) pe_int (fun _ _ => rfl)))), _,
    (ts_ret (tr_op o_ixT (tr_P2T (tr_var (R := (fD K (dP dA dA))) (a := v_pair) rfl)) (tr_nat (K := K) 0))), ?_⟩
  rintro Q ⟨vs0, F0, hv⟩ hs
  try delta pur
  try dsimp only at hs hv ⊢
  exact ⟨_, rfl, hs⟩
abbrev s_sorted_moves : Stmt := topS 23
abbrev N_sorted_moves : List Str := ["moves", "states", "rows", "key", "place"]
theorem sc_sorted_moves : FnScope N_sorted_moves ["moves", "states"] (defScope s_sorted_moves) := ⟨rfl, rfl, rfl, by decide +kernel, rfl, by decide +kernel, by decide +kernel⟩
-- Program.__init__: 0:self 1:size 2:states 3:starts 4:moves 5:decisions 6:state
abbrev s_Programu__initu_ : Stmt := inClass (topS 25) 1
abbrev N_Programu__initu_ : List Str := ["self", "size", "states", "starts", "moves", "decisions", "state"]
theorem sc_Programu__initu_ : FnScope N_Programu__initu_ ["self", "size", "states", "starts", "moves", "decisions"] (defScope s_Programu__initu_) := ⟨rfl, rfl, rfl, by decide +kernel, rfl, by decide +kernel, by decide +kernel⟩
end
end Wb

/-! numberings -/
namespace Wb
open PySem PySem.Spec PyProof.Rows L2 SlX StX Rs Ma
variable [Rs.Tabz]
local macro_rules | `(tactic| walk_at "rr") => `(tactic| (first
  | exact r_nil | exact r_int | exact r_bl | exact r_str
  | (refine r_var rfl ?_; assumption)
  | exact r_c rfl
  | (refine r_cons ?_ ?_ <;> walk_at "rr")))
section
variable {P : Program} {w : World} {K : PySem.W.Frag} {mg : Str → Option Value} {base : Heap} {C_Web : Addr}
end
end Wb

namespace Wb
open PySem PySem.Spec PyProof.Rows L2 SlX StX Rs Ma Tw
variable [Rs.Tabz]
section
variable {P : Program} {w : World} {K : PySem.W.Frag} {mg : Str → Option Value} {base : Heap} {C_Web : Addr}
end
end Wb

/-! pools: made, walked -/
namespace Wb
open PySem PySem.Spec PyProof.Rows L2 SlX StX Rs Ma Sn Tw
variable [Rs.Tabz]
section
variable {P : Program} {w : World} {K : PySem.W.Frag} {mg : Str → Option Value} {base : Heap} {C_Web C_Pool : Addr}
end
end Wb

/-! pools: what they tell -/
namespace Wb
open PySem PySem.Spec PyProof.Rows L2 SlX StX Rs Ma Sn Tw
variable [Rs.Tabz]
section
variable {P : Program} {w : World} {K : PySem.W.Frag} {mg : Str → Option Value} {base : Heap} {C_Web C_Pool : Addr}
end
end Wb

/-! drawn programs -/
namespace Wb
open PySem PySem.Spec PyProof.Rows L2 SlX StX Rs Ma Sn Tw
variable [Rs.Tabz]
def targetsL (ds : List (Nat × Nat)) (s n : Nat) : List Nat := if (getA ds s).isSome then (List.range n).filter fun t => decide (getA ds t = getA ds s) else List.range n
theorem mem_targets {ds : List (Nat × Nat)} {s n t : Nat} : t ∈ targetsL ds s n ↔ t < n ∧ letB ds s t = true := by
  unfold targetsL letB
  cases e : getA ds s with
  | none => simp
  | some b => simp
theorem targets_ne {ds : List (Nat × Nat)} {s n : Nat} (h : s < n) : targetsL ds s n ≠ [] := by
  have : s ∈ targetsL ds s n := mem_targets.mpr ⟨h, by unfold letB; simp⟩
  intro z
  rw [z] at this
  cases this
theorem targets_len {ds : List (Nat × Nat)} {s n : Nat} : (targetsL ds s n).length ≤ n := by
  unfold targetsL
  split
  · exact Nat.le_trans (List.length_filter_le _ _) (by rw [List.length_range]; exact Nat.le_refl _)
  · rw [List.length_range]; exact Nat.le_refl _
theorem range_at {n i x : Nat} (h : (List.range n)[i]? = some x) : x = i ∧ i < n := by
  have hi := (List.getElem?_eq_some_iff.mp h).1
  rw [List.length_range] at hi
  rw [List.getElem?_range hi] at h
  cases h
  exact ⟨rfl, hi⟩
theorem putA_mem {α β : Type} [DecidableEq α] {a : α} {b : β} {x : α × β} : ∀ {ps : List (α × β)}, x ∈ putA ps a b → x = (a, b) ∨ x ∈ ps
  | [], h => .inl (by simpa [putA] using h)
  | p :: ps, h => by
    unfold putA at h
    split at h
    · rename_i e
      rcases List.mem_cons.mp h with h | h
      · exact .inl (by rw [h, e])
      · exact .inr (List.mem_cons_of_mem _ h)
    · rcases List.mem_cons.mp h with h | h
      · exact .inr (h ▸ List.mem_cons_self)
      · exact (putA_mem h).imp id (List.mem_cons_of_mem _)
theorem putA_len {α β : Type} [DecidableEq α] {a : α} {b : β} : ∀ {ps : List (α × β)}, (putA ps a b).length ≤ ps.length + 1
  | [] => Nat.le_refl _
  | p :: ps => by
    unfold putA
    split
    · rw [List.length_cons, List.length_cons]; omega
    · have := putA_len (a := a) (b := b) (ps := ps)
      rw [List.length_cons, List.length_cons]; omega
theorem hear_set {size states n : Nat} {xs : List (Option Nat)} {i : Nat} (hl : xs.length = size) (h : ∀ x, some x ∈ xs → x < states) (hn : n < states) (hi : i < size) : HearOk size states n (xs.set i (some n)) := by
  refine ⟨by rw [List.length_set]; exact hl, fun x hx => ?_, ?_⟩
  · rcases List.mem_or_eq_of_mem_set hx with hx | hx
    · exact h x hx
    · cases hx; exact hn
  · exact List.mem_iff_getElem?.mpr ⟨i, List.getElem?_set_self (by omega)⟩
section
variable {P : Program} {w : World} {K : PySem.W.Frag} {mg : Str → Option Value} {base : Heap} {C_Web C_Pool C_Program : Addr}
abbrev s__law_key : Stmt := topS 32
abbrev N__law_key : List Str := ["_law_pot", "_law_size", "_law_states", "_law_state", "_law_row", "_law_house"]
theorem sc__law_key : FnScope N__law_key ["_law_pot", "_law_size", "_law_states"] (defScope s__law_key) := ⟨rfl, rfl, rfl, by decide +kernel, rfl, by decide +kernel, by decide +kernel⟩
theorem ok__law_key {f : Addr} {fd : FuncData} (B : Bf mg) (c_law_dip : Gf P w K mg base 1 "_law_dip" (SpN (fun g : Unit × Nat => [(fCk 3) g.1, (fD K dN) g.2]) (fun (g : Unit × Nat) (Q : Nat → Prop) => (1 ≤ g.2 ∧ g.2 ≤ 1000) ∧ ∀ n, n < g.2 → Q n) (fD K dN))) (c_law_choose_1 : Gf P w K mg base 2 "_law_choose" (SpN (fun g : Unit × (List (Option Nat)) => [(fCk 3) g.1, (fLn (fD K dO)) g.2]) spAny (fD K dO))) (F : Fun K "_law_key" "_law_key" s__law_key f fd) (hm : mg "_law_key" = some (.ref f)) (b : Binds K fd ["_law_pot", "_law_size", "_law_states"] []) : Gf P w K mg base 4 "_law_key" (SpN (fun g : Unit × Nat × Nat => [(fCk 3) g.1, (fD K dN) g.2.1, (fD K dN) g.2.2]) (fun (g : Unit × Nat × Nat) (Q : Mvk → Prop) => (1 ≤ g.2.1 ∧ g.2.1 ≤ 5 ∧ 1 ≤ g.2.2 ∧ g.2.2 ≤ 50) ∧ ∀ k : Mvk, k.1 < g.2.2 → HearOk g.2.1 g.2.2 k.1 k.2 → Q k) (fD K (dP dN (dT dO)))) := by
  refine gw_mk F hm b sc__law_key (fun _ => rfl) (fun _ => inferInstance) fun cdv A outer s H E g hr => ?_
  obtain ⟨v__law_pot, v__law_size, v__law_states⟩ := g
  refine ⟨_, (pss_cons (ps_set (i := 3) sc__law_key.nd rfl (by first | exact Or.inl rfl | exact Or.inr rfl) (p_call c_law_dip hr (by decide) (pa_cons (pv 0) (pa_cons (pv 2) pa_nil))))
    (pss_cons (ps_setLc (i := 4) (own := [("_law_house", 5)]) (g := gName 5) (tt := tYes)  rfl sc__law_key.nd rfl rfl (sw_true rfl rfl rfl (by decide +kernel)) (pi_range1 (by rfl) B.range (pa_cons (pv 1) pa_nil)) (blkOk_by (N := N__law_key) (sc := defScope s__law_key) (by decide +kernel)) (fun _ _ _ _ _ => (pg_name (i := 5) sc__law_key.nd rfl (by first | exact Or.inl rfl | exact Or.inr rfl))) (fun _ _ _ _ _ => pts_nil) (fun _ _ _ _ _ => by exact (p_call c_law_choose_1 hr (by decide) (pa_cons (pv 0) (pa_cons (pe_lst (pa_cons pe_non (pa_cons (p_call c_law_dip hr (by decide) (pa_cons (pv 0) (pa_cons (pv 2) pa_nil))) pa_nil))) pa_nil)))))
    (pss_cons (ps_asg (pv 3) (pg_sub (pv 4) (p_call c_law_dip hr (by decide) (pa_cons (pv 0) (pa_cons (pv 1) pa_nil))) set_list))
    (pss_one (ps_ret (pe_tup (pa_cons (pv 3) (pa_cons (p_tuple B (pa_cons (pv 4) pa_nil)) pa_nil)))))))), _,
    (ts_set (R := (fD K dN)) 3 (tr_call (ta_cons (tr_var (R := (fCk 3)) (a := v__law_pot) rfl) (ta_one (tr_var (R := (fD K dN)) (a := v__law_states) rfl)))) rfl (fun v_law_state_1 => (ts_newC 4 (tn_lc (vs := [5]) (Rd := (fD K dO)) (ti_rangeN (tr_var (R := (fD K dN)) (a := v__law_size) rfl)) (tg_name (R := (fD K dN)) 5) rfl rfl rfl (fun x2 => tt_yes) (fun x2 => (tr_call (ta_cons (tr_var (R := (fCk 3)) (a := v__law_pot) rfl) (ta_one (tr_lst (R := (fD K dO)) (ta_lcons (R := (fD K dO)) (tr_nO (tr_non (K := K))) (ta_lcons (R := (fD K dO)) (tr_sO (tr_call (ta_cons (tr_var (R := (fCk 3)) (a := v__law_pot) rfl) (ta_one (tr_var (R := (fD K dN)) (a := v__law_states) rfl))))) (ta_lnil (R := (fD K dO)))))))))) (fun _ => rfl)) rfl rfl (fun l3 => (ts_putC (R := (fD K dO)) (xs := l3) (tr_sO (tr_var (R := (fD K dN)) (a := v_law_state_1) rfl)) (tr_call (ta_cons (tr_var (R := (fCk 3)) (a := v__law_pot) rfl) (ta_one (tr_var (R := (fD K dN)) (a := v__law_size) rfl)))) (fun y4 n5 => (ts_ret (tr_borT (ow := fun xs => ownL (xs.map (fD K dO))) (i := 4) (g := (l3.set n5 y4)) (tr_pD (tr_pair (tr_var (R := (fD K dN)) (a := v_law_state_1) rfl) (tr_cb c_tupDL (ta_one (tr_lnD (tr_var (R := (fLn (fD K dO))) (a := (l3.set n5 y4)) rfl)))))) rfl rfl (fun _ _ h => h))))))))), ?_⟩
  rintro Q ⟨vs0, F0, hv⟩ hs
  try delta pur
  try dsimp only [spAny] at hs hv ⊢
  obtain ⟨⟨h1, h5, h6, h7⟩, q⟩ := hs
  refine ⟨⟨h6, by omega⟩, fun n hn => ⟨by omega, by rw [List.length_range]; omega, ?_⟩⟩
  refine lcW_all (P := fun _ (o : Option Nat) => ∀ m, o = some m → m < v__law_states) (fun x hx Q hQ => ⟨⟨h6, by omega⟩, fun m hm => ⟨by show 2 ≤ 100000; decide, ⟨by simp, by show 2 ≤ 1000; decide⟩, fun a ha => hQ a fun k hk => ?_⟩⟩) fun xs hl hall => ⟨⟨h1, by omega⟩, fun i hi => ?_⟩
  · subst hk
    rcases List.mem_cons.mp ha with z | ha
    · cases z
    · cases List.mem_singleton.mp ha; exact hm
  · rw [List.length_range] at hl
    refine ⟨by omega, q _ hn (hear_set hl (fun x hx => ?_) hn hi)⟩
    obtain ⟨j, hj⟩ := List.mem_iff_getElem?.mp hx
    have hjl : j < v__law_size := by rw [← hl]; exact (List.getElem?_eq_some_iff.mp hj).1
    exact hall j j _ (List.getElem?_range hjl) hj x rfl
abbrev s__law_decided : Stmt := topS 33
abbrev N__law_decided : List Str := ["_law_pot", "_law_states", "_law_some", "_law_state"]
theorem sc__law_decided : FnScope N__law_decided ["_law_pot", "_law_states"] (defScope s__law_decided) := ⟨rfl, rfl, rfl, by decide +kernel, rfl, by decide +kernel, by decide +kernel⟩
theorem ok__law_decided {f : Addr} {fd : FuncData} (B : Bf mg) (c_law_dip : Gf P w K mg base 1 "_law_dip" (SpN (fun g : Unit × Nat => [(fCk 3) g.1, (fD K dN) g.2]) (fun (g : Unit × Nat) (Q : Nat → Prop) => (1 ≤ g.2 ∧ g.2 ≤ 1000) ∧ ∀ n, n < g.2 → Q n) (fD K dN))) (c_law_shuffled : Gf P w K mg base 2 "_law_shuffled" (SpN (fun g : Unit × (List Nat) => [(fCk 3) g.1, (fLn (fD K dN)) g.2]) spPerm (fLn (fD K dN)))) (F : Fun K "_law_decided" "_law_decided" s__law_decided f fd) (hm : mg "_law_decided" = some (.ref f)) (b : Binds K fd ["_law_pot", "_law_states"] []) : Gf P w K mg base 4 "_law_decided" (SpN (fun g : Unit × Nat => [(fCk 3) g.1, (fD K dN) g.2]) (fun (g : Unit × Nat) (Q : List (Nat × Nat) → Prop) => (1 ≤ g.2 ∧ g.2 ≤ 50) ∧ ∀ ds : List (Nat × Nat), DecsOk g.2 ds → Q ds) (fDZ dN (fD K dN))) := by
  refine gw_mk F hm b sc__law_decided (fun _ => rfl) (fun _ => inferInstance) fun cdv A outer s H E g hr => ?_
  obtain ⟨v__law_pot, v__law_states⟩ := g
  refine ⟨_, (pss_cons (ps_setLc (i := 2) (own := [("_law_state", 3)]) (g := gName 3)  rfl sc__law_decided.nd rfl rfl (sw_true rfl rfl rfl (by decide +kernel)) (pi_range1 (by rfl) B.range (pa_cons (pv 1) pa_nil)) (blkOk_by (N := N__law_decided) (sc := defScope s__law_decided) (by decide +kernel)) (fun _ _ _ _ _ => (pg_name (i := 3) sc__law_decided.nd rfl (by first | exact Or.inl rfl | exact Or.inr rfl))) (fun _ _ _ _ _ => (pts_one (pt_cmpR op_eq (p_call c_law_dip hr (by decide) (pa_cons (pv 0) (pa_cons pe_int pa_nil))) pe_int (nomark _)))) (fun _ _ _ _ _ => by exact (pv 3)))
    (pss_one (ps_ret (pe_lockV (p_dictP rfl B (pa_cons (pe_lc (own := [("_law_state", 3)]) (g := gName 3) (tt := tYes) rfl sc__law_decided.nd (pi_list (p_call c_law_shuffled hr (by decide) (pa_cons (pv 0) (pa_cons (pv 2) pa_nil)))) (blkOk_by (N := N__law_decided) (sc := defScope s__law_decided) (by decide +kernel)) (fun _ _ _ _ _ => (pg_name (i := 3) sc__law_decided.nd rfl (by first | exact Or.inl rfl | exact Or.inr rfl))) (fun _ _ _ _ _ => pts_nil) (fun _ _ _ _ _ => by exact (pe_tup (pa_cons (pv 3) (pa_cons (p_call c_law_dip hr (by decide) (pa_cons (pv 0) (pa_cons pe_int pa_nil))) pa_nil))))) pa_nil)))))), _,
    (ts_set (R := (fLn (fD K dN))) 2 (tr_lc (vs := [3]) (Rd := (fD K dN)) (ti_rangeN (tr_var (R := (fD K dN)) (a := v__law_states) rfl)) (tg_name (R := (fD K dN)) 3) rfl rfl rfl (fun _ => rfl) (fun x1 => (tt_test (tr_op o_eqN (tr_call (ta_cons (tr_var (R := (fCk 3)) (a := v__law_pot) rfl) (ta_one (tr_nat (K := K) 3)))) (tr_nat (K := K) 0)))) (fun x1 => (tr_var (R := (fD K dN)) (a := x1) rfl))) rfl (fun v_law_some_2 => (ts_ret (tr_lockM (ow := ownDI dN (fD K dN)) (tm_dictP (d := dN) (tr_lc (vs := [3]) (Rd := (fD K (dP dN dN))) (ti_lst (tr_call (ta_cons (tr_var (R := (fCk 3)) (a := v__law_pot) rfl) (ta_one (tr_var (R := (fLn (fD K dN))) (a := v_law_some_2) rfl))))) (tg_name (R := (fD K dN)) 3) rfl rfl rfl (fun _ => rfl) (fun x3 => tt_yes) (fun x3 => (tr_pD (tr_pair (tr_var (R := (fD K dN)) (a := x3) rfl) (tr_call (ta_cons (tr_var (R := (fCk 3)) (a := v__law_pot) rfl) (ta_one (tr_nat (K := K) 2))))))))))))), ?_⟩
  rintro Q ⟨vs0, F0, hv⟩ hs
  try delta pur
  try dsimp only [spPerm] at hs hv ⊢
  obtain ⟨⟨h1, h5⟩, q⟩ := hs
  refine ⟨by omega, by rw [List.length_range]; omega, lcW_sub (h := fun y : Nat => y) (ok := fun _ => True) (fun y hy P p0 p1 => ⟨⟨by decide, by decide⟩, fun n hn => ?_⟩) (fun y hy P p => p) fun ys sub _ => ?_⟩
  · cases decide (n = 0) with
    | true => exact p1 True.intro
    | false => exact p0
  · rw [List.map_id']
    have hl : ys.length ≤ v__law_states := by have := sub.length_le; rwa [List.length_range] at this
    refine ⟨by omega, fun zs hz => ⟨by rw [hz.length_eq]; omega, lcW_all (P := fun x (y : Nat × Nat) => y.1 = x ∧ y.2 ≤ 1) (fun x hx Q hQ => ⟨⟨by decide, by decide⟩, fun n hn => hQ _ ⟨rfl, by show n ≤ 1; omega⟩⟩) fun ps hpl hall => ?_⟩⟩
    have e : ps.map (·.1) = zs := by
      apply List.ext_getElem?
      intro j
      rw [List.getElem?_map]
      cases e : ps[j]? with
      | none =>
        have := List.getElem?_eq_none_iff.mp e
        rw [List.getElem?_eq_none (by omega)]; rfl
      | some p =>
        have hj := (List.getElem?_eq_some_iff.mp e).1
        have hz : zs[j]? = some (zs[j]'(by omega)) := List.getElem?_eq_getElem _
        rw [hz]
        exact congrArg some (hall j _ p hz e).1
    have nd : (ps.map (·.1)).Nodup := by rw [e]; exact hz.nodup_iff.mpr (List.Pairwise.sublist sub List.nodup_range)
    rw [putsA_new (kvs := []) (by rw [List.nil_append]; exact nd)]
    refine q ps ⟨nd, by rw [hpl, hz.length_eq]; omega, fun p hp => ?_⟩
    obtain ⟨j, hj⟩ := List.mem_iff_getElem?.mp hp
    have hjl := (List.getElem?_eq_some_iff.mp hj).1
    obtain ⟨g1, g2⟩ := hall j (zs[j]'(by omega)) p (List.getElem?_eq_getElem _) hj
    refine ⟨?_, g2⟩
    rw [g1]
    exact List.mem_range.mp (sub.subset (hz.mem_iff.mp (List.getElem_mem _)))
abbrev s__law_targets : Stmt := topS 34
abbrev N__law_targets : List Str := ["_law_decisions", "_law_state", "_law_states", "_law_one"]
theorem sc__law_targets : FnScope N__law_targets ["_law_decisions", "_law_state", "_law_states"] (defScope s__law_targets) := ⟨rfl, rfl, rfl, by decide +kernel, rfl, by decide +kernel, by decide +kernel⟩
theorem ok__law_targets {f : Addr} {fd : FuncData} (B : Bf mg)  (F : Fun K "_law_targets" "_law_targets" s__law_targets f fd) (hm : mg "_law_targets" = some (.ref f)) (b : Binds K fd ["_law_decisions", "_law_state", "_law_states"] []) : Gf P w K mg base 1 "_law_targets" (SpN (fun g : (List (Nat × Nat)) × Nat × Nat => [(fDZ dN (fD K dN)) g.1, (fD K dN) g.2.1, (fD K dN) g.2.2]) (fun (g : List (Nat × Nat) × Nat × Nat) (Q : List Nat → Prop) => (DecsOk g.2.2 g.1 ∧ g.2.1 < g.2.2 ∧ g.2.2 ≤ 50) ∧ Q (targetsL g.1 g.2.1 g.2.2)) (fLn (fD K dN))) := by
  refine gw_mk F hm b sc__law_targets (fun _ => rfl) (fun _ => inferInstance) fun cdv A outer s H E g hr => ?_
  obtain ⟨v__law_decisions, v__law_state, v__law_states⟩ := g
  refine ⟨_, (pss_cons (ps_if (pt_cmp (pc_dnotin (hu_of hr) (pv 1) (pv 0)))
      (pss_one (ps_ret (p_listRg rfl B (pv 2))))
      pss_nil)
    (pss_one (ps_ret (pe_lc (own := [("_law_one", 3)]) (g := gName 3) rfl sc__law_targets.nd (pi_range1 (by rfl) B.range (pa_cons (pv 2) pa_nil)) (blkOk_by (N := N__law_targets) (sc := defScope s__law_targets) (by decide +kernel)) (fun _ _ _ _ _ => (pg_name (i := 3) sc__law_targets.nd rfl (by first | exact Or.inl rfl | exact Or.inr rfl))) (fun _ _ _ _ _ => (pts_one (pt_cmpR op_eq (pe_dget2 (hu_of hr) (pv 0) (pv 3) pe_int ⟨rfl, rfl, rfl, rfl⟩) (pe_dget (hu_of hr) (pv 0) (pv 1) (fun _ _ => rfl)) (nomark _)))) (fun _ _ _ _ _ => by exact (pv 3)))))), _,
    (ts_ifq (tt_test (tr_dnotin (tr_var (R := (fD K dN)) (a := v__law_state) rfl) (tr_ZI (tr_var (R := (fDZ dN (fD K dN))) (a := v__law_decisions) rfl))))
      (ts_retq (tn_listRg (tr_var (R := (fD K dN)) (a := v__law_states) rfl)).e)
      (ts_nextq (ts_ret (tr_lc (vs := [3]) (Rd := (fD K dN)) (ti_rangeN (tr_var (R := (fD K dN)) (a := v__law_states) rfl)) (tg_name (R := (fD K dN)) 3) rfl rfl rfl (fun _ => rfl) (fun x1 => (tt_test (tr_op o_eqN (tr_getI (tr_ZI (tr_var (R := (fDZ dN (fD K dN))) (a := v__law_decisions) rfl)) (tr_var (R := (fD K dN)) (a := x1) rfl) (tr_nat (K := K) 2)) (tr_dgetZ (tr_var (R := (fDZ dN (fD K dN))) (a := v__law_decisions) rfl) (tr_var (R := (fD K dN)) (a := v__law_state) rfl))))) (fun x1 => (tr_var (R := (fD K dN)) (a := x1) rfl)))))), ?_⟩
  rintro Q ⟨vs0, F0, hv⟩ hs
  try delta pur
  try dsimp only at hs hv ⊢
  obtain ⟨⟨⟨d1, d2, d3⟩, h1, h2⟩, q⟩ := hs
  unfold targetsL at q
  cases e : getA v__law_decisions v__law_state with
  | none =>
    rw [e] at q
    exact ⟨by omega, q⟩
  | some b =>
    rw [e] at q
    refine ⟨by omega, by rw [List.length_range]; omega, lcW_of (f := fun t => decide (getA v__law_decisions t = some b)) (h := fun t => t) (fun x hx P hP => ⟨b, rfl, ?_⟩) (fun x hx _ Q hQ => hQ) (by rw [List.map_id']; simpa using q)⟩
    have hb : b ≤ 1 := (d3 _ (getA_mem e)).2
    have : decide ((getA v__law_decisions x).getD 2 = b) = decide (getA v__law_decisions x = some b) := by
      cases getA v__law_decisions x with
      | none => have : ¬ 2 = b := by omega
                simp [this]
      | some c => simp
    rw [this]
    exact hP
abbrev s__law_moves : Stmt := topS 35
abbrev N__law_moves : List Str := ["_law_pot", "_law_size", "_law_states", "_law_decisions", "_law_many", "_law_found", "_law_turn", "_law_key_here"]
theorem sc__law_moves : FnScope N__law_moves ["_law_pot", "_law_size", "_law_states", "_law_decisions", "_law_many"] (defScope s__law_moves) := ⟨rfl, rfl, rfl, by decide +kernel, rfl, by decide +kernel, by decide +kernel⟩
theorem ok__law_moves {f : Addr} {fd : FuncData} (B : Bf mg) (c_law_dip : Gf P w K mg base 1 "_law_dip" (SpN (fun g : Unit × Nat => [(fCk 3) g.1, (fD K dN) g.2]) (fun (g : Unit × Nat) (Q : Nat → Prop) => (1 ≤ g.2 ∧ g.2 ≤ 1000) ∧ ∀ n, n < g.2 → Q n) (fD K dN))) (c_law_key : Gf P w K mg base 4 "_law_key" (SpN (fun g : Unit × Nat × Nat => [(fCk 3) g.1, (fD K dN) g.2.1, (fD K dN) g.2.2]) (fun (g : Unit × Nat × Nat) (Q : Mvk → Prop) => (1 ≤ g.2.1 ∧ g.2.1 ≤ 5 ∧ 1 ≤ g.2.2 ∧ g.2.2 ≤ 50) ∧ ∀ k : Mvk, k.1 < g.2.2 → HearOk g.2.1 g.2.2 k.1 k.2 → Q k) (fD K (dP dN (dT dO))))) (c_law_targets : Gf P w K mg base 1 "_law_targets" (SpN (fun g : (List (Nat × Nat)) × Nat × Nat => [(fDZ dN (fD K dN)) g.1, (fD K dN) g.2.1, (fD K dN) g.2.2]) (fun (g : List (Nat × Nat) × Nat × Nat) (Q : List Nat → Prop) => (DecsOk g.2.2 g.1 ∧ g.2.1 < g.2.2 ∧ g.2.2 ≤ 50) ∧ Q (targetsL g.1 g.2.1 g.2.2)) (fLn (fD K dN)))) (c_law_choose : Gf P w K mg base 2 "_law_choose" (SpN (fun g : Unit × (List Nat) => [(fCk 3) g.1, (fLn (fD K dN)) g.2]) spAny (fD K dN))) (F : Fun K "_law_moves" "_law_moves" s__law_moves f fd) (hm : mg "_law_moves" = some (.ref f)) (b : Binds K fd ["_law_pot", "_law_size", "_law_states", "_law_decisions", "_law_many"] []) : Gf P w K mg base 6 "_law_moves" (SpN (fun g : Unit × Nat × Nat × (List (Nat × Nat)) × Nat => [(fCk 3) g.1, (fD K dN) g.2.1, (fD K dN) g.2.2.1, (fDZ dN (fD K dN)) g.2.2.2.1, (fD K dN) g.2.2.2.2]) (fun (g : Unit × Nat × Nat × List (Nat × Nat) × Nat) (Q : List (Mvk × Nat) → Prop) => (1 ≤ g.2.1 ∧ g.2.1 ≤ 5 ∧ 1 ≤ g.2.2.1 ∧ g.2.2.1 ≤ 50 ∧ DecsOk g.2.2.1 g.2.2.2.1 ∧ g.2.2.2.2 ≤ 900) ∧ ∀ mv : List (Mvk × Nat), MovesOk g.2.1 g.2.2.1 g.2.2.2.1 mv → mv.length ≤ g.2.2.2.2 → Q mv) (fDKZ K P w (dP dN (dT dO)) (fD K dN))) := by
  refine gw_mk F hm b sc__law_moves (fun _ => rfl) (fun _ => inferInstance) fun cdv A outer s H E g hr => ?_
  obtain ⟨v__law_pot, v__law_size, v__law_states, v__law_decisions, v__law_many⟩ := g
  refine ⟨_, (pss_cons (ps_set (i := 5) sc__law_moves.nd rfl (by first | exact Or.inl rfl | exact Or.inr rfl) (pe_newN P w))
    (pss_cons (ps_for PassesOwn.never rfl (pi_range1 (by rfl) B.range (pa_cons (p_call c_law_dip hr (by decide) (pa_cons (pv 0) (pa_cons (pe_op op_add (pv 4) pe_int) pa_nil))) pa_nil)) (pg_name (i := 6) sc__law_moves.nd rfl (by first | exact Or.inl rfl | exact Or.inr rfl))
      (pss_cons (ps_set (i := 7) sc__law_moves.nd rfl (by first | exact Or.inl rfl | exact Or.inr rfl) (p_call c_law_key hr (by decide) (pa_cons (pv 0) (pa_cons (pv 1) (pa_cons (pv 2) pa_nil)))))
      (pss_one (ps_putN K P w hr.units (pv 5) (pv 7) (p_call c_law_choose hr (by decide) (pa_cons (pv 0) (pa_cons (p_call c_law_targets hr (by decide) (pa_cons (pv 3) (pa_cons (pe_ix ix_tup (pv 7) pe_int (fun _ _ => rfl)) (pa_cons (pv 2) pa_nil)))) pa_nil))) rfl))))
    (pss_one (ps_lockP (ps_ret (pv 5)))))), _,
    (ts_newM (ow := ownDP K P w (dP dN (dT dO)) (fD K dN)) 5 (tm_newP (d := (dP dN (dT dO))) (R := (fD K dN))) rfl rfl (fun l1 => (ts_for (S1 := (List ((Nat × (List (Option Nat))) × Nat))) (ρ1 := fun s2 => [some ((fCk 3) v__law_pot), some ((fD K dN) v__law_size), some ((fD K dN) v__law_states), some ((fDZ dN (fD K dN)) v__law_decisions), some ((fD K dN) v__law_many), none, none, none]) (κ1s := fun s2 => [.one 5 (ownDP K P w (dP dN (dT dO)) (fD K dN) s2)]) l1 (leV_some (leV_some (leV_some (leV_some (leV_some (leV_none (leV_none (leV_none leV_nil)))))))) (fun _ _ _ h => h) (ti_rangeN (tr_call (ta_cons (tr_var (R := (fCk 3)) (a := v__law_pot) rfl) (ta_one (tr_op o_addN (tr_var (R := (fD K dN)) (a := v__law_many) rfl) (tr_nat (K := K) 1)))))) (tg_name (R := (fD K dN)) 6) (fun _ => rfl)
      (fun s2 x3 => (ts_set (R := (fD K (dP dN (dT dO)))) 7 (tr_call (ta_cons (tr_var (R := (fCk 3)) (a := v__law_pot) rfl) (ta_cons (tr_var (R := (fD K dN)) (a := v__law_size) rfl) (ta_one (tr_var (R := (fD K dN)) (a := v__law_states) rfl))))) rfl (fun v_law_key_here_4 => (ts_one (ts_putP (d := (dP dN (dT dO))) (R := (fD K dN)) (kvs := s2) (by decide) (tr_call (ta_cons (tr_var (R := (fCk 3)) (a := v__law_pot) rfl) (ta_one (tr_call (ta_cons (tr_var (R := (fDZ dN (fD K dN))) (a := v__law_decisions) rfl) (ta_cons (tr_fst (tr_var (R := (fD K (dP dN (dT dO)))) (a := v_law_key_here_4) rfl)) (ta_one (tr_var (R := (fD K dN)) (a := v__law_states) rfl)))))))) (tr_var (R := (fD K (dP dN (dT dO)))) (a := v_law_key_here_4) rfl) (fun y5 n6 => (ts_next (putA s2 n6 y5) (leV_some (leV_some (leV_some (leV_some (leV_some (leV_none (leV_none (leV_none leV_nil)))))))) (fun _ _ _ h => h))))))))
      (fun s2 => (ts_lockOwn0 (ow := ownDP K P w (dP dN (dT dO)) (fD K dN)) (i := 5) (g := s2) (ts_ret (tr_var (R := (fDKZ K P w (dP dN (dT dO)) (fD K dN))) (a := s2) rfl)) rfl))))), ?_⟩
  rintro Q ⟨vs0, F0, hv⟩ hs
  try delta pur
  try dsimp only [spAny] at hs hv ⊢
  obtain ⟨⟨h1, h5, h6, h7, hd, h9⟩, q⟩ := hs
  refine ⟨⟨by omega, by omega⟩, fun n hn => ⟨by omega, ?_⟩⟩
  refine forW_inv2 (fun i (s : List (Mvk × Nat)) => s.length ≤ i ∧ MovesOk v__law_size v__law_states v__law_decisions s) ⟨Nat.le_refl _, List.nodup_nil, Nat.zero_le _, fun x hx => nomatch hx⟩ (fun i x s P hx ⟨g1, g2, g3, g4⟩ hP => ?_) fun s ⟨g1, g2⟩ => q s g2 (by rw [List.length_range] at g1; omega)
  obtain ⟨rfl, hi⟩ := range_at hx
  refine ⟨⟨h1, h5, h6, h7⟩, fun k hk hh => ⟨⟨hd, hk, h7⟩, ⟨targets_ne hk, Nat.le_trans targets_len (by omega)⟩, fun a ha => ⟨by omega, hP _ ?_⟩⟩⟩
  obtain ⟨t1, t2⟩ := mem_targets.mp ha
  have hl := putA_len (a := k) (b := a) (ps := s)
  refine ⟨by omega, (putA_nodup g2).1, by omega, fun y hy => ?_⟩
  rcases putA_mem hy with rfl | hy
  · exact ⟨hk, hh, t1, t2⟩
  · exact g4 y hy
abbrev s__law_parts : Stmt := topS 36
abbrev N__law_parts : List Str := ["_law_pot", "_law_size", "_law_most", "_law_many", "_law_states", "_law_starts", "_law_house", "_law_decisions"]
theorem sc__law_parts : FnScope N__law_parts ["_law_pot", "_law_size", "_law_most", "_law_many"] (defScope s__law_parts) := ⟨rfl, rfl, rfl, by decide +kernel, rfl, by decide +kernel, by decide +kernel⟩
theorem ok__law_parts {f : Addr} {fd : FuncData} (B : Bf mg) (c_law_dip : Gf P w K mg base 1 "_law_dip" (SpN (fun g : Unit × Nat => [(fCk 3) g.1, (fD K dN) g.2]) (fun (g : Unit × Nat) (Q : Nat → Prop) => (1 ≤ g.2 ∧ g.2 ≤ 1000) ∧ ∀ n, n < g.2 → Q n) (fD K dN))) (c_law_decided : Gf P w K mg base 4 "_law_decided" (SpN (fun g : Unit × Nat => [(fCk 3) g.1, (fD K dN) g.2]) (fun (g : Unit × Nat) (Q : List (Nat × Nat) → Prop) => (1 ≤ g.2 ∧ g.2 ≤ 50) ∧ ∀ ds : List (Nat × Nat), DecsOk g.2 ds → Q ds) (fDZ dN (fD K dN)))) (c_law_moves : Gf P w K mg base 6 "_law_moves" (SpN (fun g : Unit × Nat × Nat × (List (Nat × Nat)) × Nat => [(fCk 3) g.1, (fD K dN) g.2.1, (fD K dN) g.2.2.1, (fDZ dN (fD K dN)) g.2.2.2.1, (fD K dN) g.2.2.2.2]) (fun (g : Unit × Nat × Nat × List (Nat × Nat) × Nat) (Q : List (Mvk × Nat) → Prop) => (1 ≤ g.2.1 ∧ g.2.1 ≤ 5 ∧ 1 ≤ g.2.2.1 ∧ g.2.2.1 ≤ 50 ∧ DecsOk g.2.2.1 g.2.2.2.1 ∧ g.2.2.2.2 ≤ 900) ∧ ∀ mv : List (Mvk × Nat), MovesOk g.2.1 g.2.2.1 g.2.2.2.1 mv → mv.length ≤ g.2.2.2.2 → Q mv) (fDKZ K P w (dP dN (dT dO)) (fD K dN)))) (F : Fun K "_law_parts" "_law_parts" s__law_parts f fd) (hm : mg "_law_parts" = some (.ref f)) (b : Binds K fd ["_law_pot", "_law_size", "_law_most", "_law_many"] []) : Gf P w K mg base 7 "_law_parts" (SpN (fun g : Unit × Nat × Nat × Nat => [(fCk 3) g.1, (fD K dN) g.2.1, (fD K dN) g.2.2.1, (fD K dN) g.2.2.2]) (fun (g : Unit × Nat × Nat × Nat) (Q : Nat × Rows × List (Mvk × Nat) × List (Nat × Nat) → Prop) => (1 ≤ g.2.1 ∧ g.2.1 ≤ 5 ∧ 1 ≤ g.2.2.1 ∧ g.2.2.1 ≤ 49 ∧ g.2.2.2 ≤ 900) ∧ ∀ p : Nat × Rows × List (Mvk × Nat) × List (Nat × Nat), RawOk (g.2.1, p) → p.1 ≤ g.2.2.1 → p.2.2.1.length ≤ g.2.2.2 → Q p) (fun g : (Nat × (List (List Nat)) × (List ((Nat × (List (Option Nat))) × Nat)) × (List (Nat × Nat))) => Ln [(fD K dN) g.1, (fD K (dT (dT dN))) g.2.1, (fDKZ K P w (dP dN (dT dO)) (fD K dN)) g.2.2.1, (fDZ dN (fD K dN)) g.2.2.2])) := by
  refine gw_mk F hm b sc__law_parts (fun _ => rfl) (fun _ => inferInstance) fun cdv A outer s H E g hr => ?_
  obtain ⟨v__law_pot, v__law_size, v__law_most, v__law_many⟩ := g
  refine ⟨_, (pss_cons (ps_set (i := 4) sc__law_parts.nd rfl (by first | exact Or.inl rfl | exact Or.inr rfl) (pe_op op_add pe_int (p_call c_law_dip hr (by decide) (pa_cons (pv 0) (pa_cons (pv 2) pa_nil)))))
    (pss_cons (ps_set (i := 5) sc__law_parts.nd rfl (by first | exact Or.inl rfl | exact Or.inr rfl) (p_tuple B (pa_cons (pe_lc (own := [("_law_house", 6)]) (g := gName 6) (tt := tYes) rfl sc__law_parts.nd (pi_range1 (by rfl) B.range (pa_cons (pv 1) pa_nil)) (blkOk_by (N := N__law_parts) (sc := defScope s__law_parts) (by decide +kernel)) (fun _ _ _ _ _ => (pg_name (i := 6) sc__law_parts.nd rfl (by first | exact Or.inl rfl | exact Or.inr rfl))) (fun _ _ _ _ _ => pts_nil) (fun _ _ _ _ _ => by exact (pe_tup (pa_cons (p_call c_law_dip hr (by decide) (pa_cons (pv 0) (pa_cons (pv 4) pa_nil))) (pa_cons (p_call c_law_dip hr (by decide) (pa_cons (pv 0) (pa_cons (pv 4) pa_nil))) pa_nil))))) pa_nil)))
    (pss_cons (ps_set (i := 7) sc__law_parts.nd rfl (by first | exact Or.inl rfl | exact Or.inr rfl) (p_call c_law_decided hr (by decide) (pa_cons (pv 0) (pa_cons (pv 4) pa_nil))))
    (pss_one (ps_ret (pe_lst (pa_cons (pv 4) (pa_cons (pv 5) (pa_cons (p_call c_law_moves hr (by decide) (pa_cons (pv 0) (pa_cons (pv 1) (pa_cons (pv 4) (pa_cons (pv 7) (pa_cons (pv 3) pa_nil)))))) (pa_cons (pv 7) pa_nil)))))))))), _,
    (ts_set (R := (fD K dN)) 4 (tr_op o_addN (tr_nat (K := K) 1) (tr_call (ta_cons (tr_var (R := (fCk 3)) (a := v__law_pot) rfl) (ta_one (tr_var (R := (fD K dN)) (a := v__law_most) rfl))))) rfl (fun v_law_states_1 => (ts_set (R := (fD K (dT (dT dN)))) 5 (tr_cb c_tupDL (ta_one (tr_lnD (tr_lc (vs := [6]) (Rd := (fD K (dT dN))) (ti_rangeN (tr_var (R := (fD K dN)) (a := v__law_size) rfl)) (tg_name (R := (fD K dN)) 6) rfl rfl rfl (fun _ => rfl) (fun x2 => tt_yes) (fun x2 => (tr_tpD (tr_tup (R := (fD K dN)) (ta_lcons (R := (fD K dN)) (tr_call (ta_cons (tr_var (R := (fCk 3)) (a := v__law_pot) rfl) (ta_one (tr_var (R := (fD K dN)) (a := v_law_states_1) rfl)))) (ta_lcons (R := (fD K dN)) (tr_call (ta_cons (tr_var (R := (fCk 3)) (a := v__law_pot) rfl) (ta_one (tr_var (R := (fD K dN)) (a := v_law_states_1) rfl)))) (ta_lnil (R := (fD K dN)))))))))))) rfl (fun v_law_starts_3 => (ts_set (R := (fDZ dN (fD K dN))) 7 (tr_call (ta_cons (tr_var (R := (fCk 3)) (a := v__law_pot) rfl) (ta_one (tr_var (R := (fD K dN)) (a := v_law_states_1) rfl)))) rfl (fun v_law_decisions_4 => (ts_ret (tr_lstM (ta_cons (tr_var (R := (fD K dN)) (a := v_law_states_1) rfl) (ta_cons (tr_var (R := (fD K (dT (dT dN)))) (a := v_law_starts_3) rfl) (ta_cons (tr_call (ta_cons (tr_var (R := (fCk 3)) (a := v__law_pot) rfl) (ta_cons (tr_var (R := (fD K dN)) (a := v__law_size) rfl) (ta_cons (tr_var (R := (fD K dN)) (a := v_law_states_1) rfl) (ta_cons (tr_var (R := (fDZ dN (fD K dN))) (a := v_law_decisions_4) rfl) (ta_one (tr_var (R := (fD K dN)) (a := v__law_many) rfl))))))) (ta_one (tr_var (R := (fDZ dN (fD K dN))) (a := v_law_decisions_4) rfl))))))))))))), ?_⟩
  rintro Q ⟨vs0, F0, hv⟩ hs
  try delta pur
  try dsimp only at hs hv ⊢
  obtain ⟨⟨h1, h5, h6, h7, h9⟩, q⟩ := hs
  refine ⟨⟨h6, by omega⟩, fun n hn => ⟨by omega, by rw [List.length_range]; omega, ?_⟩⟩
  refine lcW_all (P := fun _ (y : List Nat) => y.length = 2 ∧ ∀ z ∈ y, z < 1 + n) (fun x hx Q hQ => ⟨⟨by omega, by omega⟩, fun a ha => ⟨⟨by omega, by omega⟩, fun b hb => ⟨by show 2 ≤ 100000; decide, hQ _ ⟨rfl, fun z hz => ?_⟩⟩⟩⟩) fun ss hl hall => ⟨⟨by omega, by omega⟩, fun ds hds => ⟨⟨h1, h5, by omega, by omega, hds, h9⟩, fun mv hmv hml => ⟨by show 4 ≤ 100000; decide, q _ ⟨⟨h1, h5⟩, ⟨by show 1 ≤ 1 + n; omega, by show 1 + n ≤ 400; omega⟩, ?_, hmv, hds⟩ (by show 1 + n ≤ _; omega) hml⟩⟩⟩
  · rcases List.mem_cons.mp hz with rfl | hz
    · exact ha
    · rw [List.mem_singleton.mp hz]; exact hb
  · rw [List.length_range] at hl
    refine ⟨hl, fun p hp => ?_⟩
    obtain ⟨j, hj⟩ := List.mem_iff_getElem?.mp hp
    have hjl : j < v__law_size := by rw [← hl]; exact (List.getElem?_eq_some_iff.mp hj).1
    exact hall j j _ (List.getElem?_range hjl) hj
abbrev s__law_made : Stmt := topS 37
abbrev N__law_made : List Str := ["_law_size", "_law_parts_here"]
theorem sc__law_made : FnScope N__law_made ["_law_size", "_law_parts_here"] (defScope s__law_made) := ⟨rfl, rfl, rfl, by decide +kernel, rfl, by decide +kernel, by decide +kernel⟩
theorem ok__law_made {f : Addr} {fd : FuncData} (B : Bf mg) (c_Program : MkF P w K mg base 8 "Program" C_Program (spProgInit C_Program K P w)) (F : Fun K "_law_made" "_law_made" s__law_made f fd) (hm : mg "_law_made" = some (.ref f)) (b : Binds K fd ["_law_size", "_law_parts_here"] []) : Gf P w K mg base 10 "_law_made" (SpN (fun g : Nat × (Nat × (List (List Nat)) × (List ((Nat × (List (Option Nat))) × Nat)) × (List (Nat × Nat))) => [(fD K dN) g.1, (fun g : (Nat × (List (List Nat)) × (List ((Nat × (List (Option Nat))) × Nat)) × (List (Nat × Nat))) => Ln [(fD K dN) g.1, (fD K (dT (dT dN))) g.2.1, (fDKZ K P w (dP dN (dT dO)) (fD K dN)) g.2.2.1, (fDZ dN (fD K dN)) g.2.2.2]) g.2]) (fun (g : Nat × Nat × Rows × List (Mvk × Nat) × List (Nat × Nat)) (Q : Prg → Prop) => RawOk g ∧ Q (mkP g)) (progP C_Program K P w)) := by
  refine gw_mk F hm b sc__law_made (fun _ => rfl) (fun _ => inferInstance) fun cdv A outer s H E g hr => ?_
  obtain ⟨v__law_size, v__law_parts_here⟩ := g
  refine ⟨_, (pss_one (ps_ret (p_mk c_Program hr (by decide) (pa_cons (pv 0) (pa_cons (pe_ix ix_list (pv 1) pe_int (fun _ _ => rfl)) (pa_cons (pe_ix ix_list (pv 1) pe_int (fun _ _ => rfl)) (pa_cons (pe_ix ix_list (pv 1) pe_int (fun _ _ => rfl)) (pa_cons (pe_ix ix_list (pv 1) pe_int (fun _ _ => rfl)) pa_nil)))))))), _,
    (ts_ret (tr_fact (p := PrOk) ok_prog (tr_map (R := (progP C_Program K P w)) mkP (tr_mk (ta_cons (tr_var (R := (fD K dN)) (a := v__law_size) rfl) (ta_cons (tr_ixM (Rs := fun g : (Nat × (List (List Nat)) × (List ((Nat × (List (Option Nat))) × Nat)) × (List (Nat × Nat))) => [(fD K dN) g.1, (fD K (dT (dT dN))) g.2.1, (fDKZ K P w (dP dN (dT dO)) (fD K dN)) g.2.2.1, (fDZ dN (fD K dN)) g.2.2.2]) (R := (fD K dN)) (fun g => g.1) 0 (tr_var (R := (fun g : (Nat × (List (List Nat)) × (List ((Nat × (List (Option Nat))) × Nat)) × (List (Nat × Nat))) => Ln [(fD K dN) g.1, (fD K (dT (dT dN))) g.2.1, (fDKZ K P w (dP dN (dT dO)) (fD K dN)) g.2.2.1, (fDZ dN (fD K dN)) g.2.2.2])) (a := v__law_parts_here) rfl) (fun _ => rfl)) (ta_cons (tr_ixM (Rs := fun g : (Nat × (List (List Nat)) × (List ((Nat × (List (Option Nat))) × Nat)) × (List (Nat × Nat))) => [(fD K dN) g.1, (fD K (dT (dT dN))) g.2.1, (fDKZ K P w (dP dN (dT dO)) (fD K dN)) g.2.2.1, (fDZ dN (fD K dN)) g.2.2.2]) (R := (fD K (dT (dT dN)))) (fun g => g.2.1) 1 (tr_var (R := (fun g : (Nat × (List (List Nat)) × (List ((Nat × (List (Option Nat))) × Nat)) × (List (Nat × Nat))) => Ln [(fD K dN) g.1, (fD K (dT (dT dN))) g.2.1, (fDKZ K P w (dP dN (dT dO)) (fD K dN)) g.2.2.1, (fDZ dN (fD K dN)) g.2.2.2])) (a := v__law_parts_here) rfl) (fun _ => rfl)) (ta_cons (tr_ixM (Rs := fun g : (Nat × (List (List Nat)) × (List ((Nat × (List (Option Nat))) × Nat)) × (List (Nat × Nat))) => [(fD K dN) g.1, (fD K (dT (dT dN))) g.2.1, (fDKZ K P w (dP dN (dT dO)) (fD K dN)) g.2.2.1, (fDZ dN (fD K dN)) g.2.2.2]) (R := (fDKZ K P w (dP dN (dT dO)) (fD K dN))) (fun g => g.2.2.1) 2 (tr_var (R := (fun g : (Nat × (List (List Nat)) × (List ((Nat × (List (Option Nat))) × Nat)) × (List (Nat × Nat))) => Ln [(fD K dN) g.1, (fD K (dT (dT dN))) g.2.1, (fDKZ K P w (dP dN (dT dO)) (fD K dN)) g.2.2.1, (fDZ dN (fD K dN)) g.2.2.2])) (a := v__law_parts_here) rfl) (fun _ => rfl)) (ta_one (tr_ixM (Rs := fun g : (Nat × (List (List Nat)) × (List ((Nat × (List (Option Nat))) × Nat)) × (List (Nat × Nat))) => [(fD K dN) g.1, (fD K (dT (dT dN))) g.2.1, (fDKZ K P w (dP dN (dT dO)) (fD K dN)) g.2.2.1, (fDZ dN (fD K dN)) g.2.2.2]) (R := (fDZ dN (fD K dN))) (fun g => g.2.2.2) 3 (tr_var (R := (fun g : (Nat × (List (List Nat)) × (List ((Nat × (List (Option Nat))) × Nat)) × (List (Nat × Nat))) => Ln [(fD K dN) g.1, (fD K (dT (dT dN))) g.2.1, (fDKZ K P w (dP dN (dT dO)) (fD K dN)) g.2.2.1, (fDZ dN (fD K dN)) g.2.2.2])) (a := v__law_parts_here) rfl) (fun _ => rfl))))))))))), ?_⟩
  rintro Q ⟨vs0, F0, hv⟩ hs
  try delta pur
  try dsimp only at hs hv ⊢
  exact ⟨hs.1, fun _ => hs.2⟩
end
end Wb

/-! rows put in another order -/
namespace Wb
open PySem PySem.Spec PyProof.Rows L2 SlX StX Rs Ma Sn Tw
variable [Rs.Tabz]
section
variable {υ : Type}
end
section
variable {P : Program} {w : World} {K : PySem.W.Frag} {mg : Str → Option Value} {base : Heap} {C_Web C_Pool : Addr} {υ : Type} {dY : υ → PyData}
end
end Wb

/-! programs changed, and their runs, in plain terms -/
namespace Wb
open PySem PySem.Spec PyProof.Rows L2 SlX StX Rs Ma Sn Tw
variable [Rs.Tabz]
/-! numbers -/
section
variable {ns : List Nat} {n : Nat}
end
/-! dicts whose keys are changed -/
/-! the opposite -/
section
variable {p : Prg} {ns : List Nat}
/-! states turned -/
/-! houses renumbered -/
end
end Wb

/-! programs changed -/
namespace Wb
open PySem PySem.Spec PyProof.Rows L2 SlX StX Rs Ma Sn Tw
variable [Rs.Tabz]
section
variable {P : Program} {w : World} {K : PySem.W.Frag} {mg : Str → Option Value} {base : Heap} {C_Web C_Pool C_Program C_Run : Addr}
abbrev s_Program_size : Stmt := inClass (topS 25) 2
abbrev N_Program_size : List Str := ["self"]
theorem sc_Program_size : FnScope N_Program_size ["self"] (defScope s_Program_size) := ⟨rfl, rfl, rfl, by decide +kernel, rfl, by decide +kernel, by decide +kernel⟩
theorem ok_Program_size {f : Addr} {fd : FuncData} (B : Bf mg) (W_prog : ProgK K C_Program) (F : Fun K "size" "Program.size" s_Program_size f fd) : FnOk P w K mg base CX0 1 f fd ["self"] (SpN (fun g : Prg => [(progP C_Program K P w) g]) (fun (g : Prg) (Q : Nat → Prop) => Q g.size) (fD K dN)) := by
  refine gw_met F sc_Program_size (fun _ => rfl) (fun _ => inferInstance) fun cdv A outer s H E g hr => ?_
  obtain ⟨v_self, hgen⟩ : ∃ x, x = g := ⟨g, rfl⟩
  subst hgen
  refine ⟨_, (pss_one (ps_ret (pe_sl (pv 0)))), _,
    (ts_ret (tr_fld (fl_prog_own_size W_prog) (tr_var (R := (progP C_Program K P w)) (a := v_self) rfl))), ?_⟩
  rintro Q ⟨vs0, F0, hv⟩ hs
  try delta pur
  try dsimp only at hs hv ⊢
  exact hs
abbrev s_Program_states : Stmt := inClass (topS 25) 3
abbrev N_Program_states : List Str := ["self"]
theorem sc_Program_states : FnScope N_Program_states ["self"] (defScope s_Program_states) := ⟨rfl, rfl, rfl, by decide +kernel, rfl, by decide +kernel, by decide +kernel⟩
theorem ok_Program_states {f : Addr} {fd : FuncData} (B : Bf mg) (W_prog : ProgK K C_Program) (F : Fun K "states" "Program.states" s_Program_states f fd) : FnOk P w K mg base CX0 1 f fd ["self"] (SpN (fun g : Prg => [(progP C_Program K P w) g]) (fun (g : Prg) (Q : Nat → Prop) => Q g.states) (fD K dN)) := by
  refine gw_met F sc_Program_states (fun _ => rfl) (fun _ => inferInstance) fun cdv A outer s H E g hr => ?_
  obtain ⟨v_self, hgen⟩ : ∃ x, x = g := ⟨g, rfl⟩
  subst hgen
  refine ⟨_, (pss_one (ps_ret (pe_sl (pv 0)))), _,
    (ts_ret (tr_fld (fl_prog_own_states W_prog) (tr_var (R := (progP C_Program K P w)) (a := v_self) rfl))), ?_⟩
  rintro Q ⟨vs0, F0, hv⟩ hs
  try delta pur
  try dsimp only at hs hv ⊢
  exact hs
end
end Wb

/-! k35: moves and decisions of programs, as new dicts -/
namespace Wb
open PySem PySem.Spec PyProof.Rows L2 SlX StX Rs Ma Sn Tw
variable [Rs.Tabz]
theorem key_O {o : Option Nat} : Keyd.key dO o = kO o := by cases o <;> rfl
theorem key_mv {k : Mvk} : Keyd.key (dP dN (dT dO)) k = .tup [.num (k.1 : Int), .tup (k.2.map kO)] := by
  have e : k.2.map (Keyd.key dO) = k.2.map kO := List.map_congr_left fun o _ => key_O
  show NestedKey.tup [.num (k.1 : Int), .tup (k.2.map (Keyd.key dO))] = _
  rw [e]
theorem hash_mv {w : World} : ∀ {ms : List (Mvk × Nat)}, (ms.map fun p => NestedKey.hash w (Keyd.key (dP dN (dT dO)) p.1)) = (ms.map (·.1)).map hKey
  | [] => by rw [List.map_nil, List.map_nil, List.map_nil]
  | p :: ms => by
    have ih := hash_mv (w := w) (ms := ms)
    simp only [List.map_cons, key_mv, hash_key] at ih ⊢
    rw [ih]
theorem moves_keys {p : Prg} (ok : PrOk p) {s : Nat} (hs : p.states ≤ s) : (p.moves.map (·.1)).Nodup ∧ ∀ k ∈ p.moves.map (·.1), KeyOk s p.size k := by
  obtain ⟨nd, _, all⟩ := ok.moves
  refine ⟨nd, fun k hk => ?_⟩
  obtain ⟨x, hx, rfl⟩ := List.mem_map.mp hk
  obtain ⟨h1, ⟨h2, h3, h4⟩, _⟩ := all x hx
  have h1 : x.1.1 < p.states := h1
  have h2 : x.1.2.length = p.size := h2
  refine ⟨by omega, h2, h4, fun y hy j e => ?_⟩
  have h5 : j < p.states := h3 j (by rw [← e]; exact hy)
  omega
def eqP (a b : Prg) : Bool := decide (a.size = b.size) && (decide (a.states = b.states) && (decide (a.starts = b.starts) && (eqA a.moves b.moves && eqA a.decs b.decs)))
def strP (p : Prg) : PySem.Str := Str.ofString "program for " ++ strN p.size ++ Str.ofString " houses: " ++ strN p.states ++ Str.ofString " states, " ++ strN p.moves.length ++ Str.ofString " moves"
theorem emp_app (x : PySem.Str) : Str.empty ++ x = x := by
  show Str.mk (#[] ++ x.cps) = x
  rw [Array.empty_append]
theorem str_app_len (a b : PySem.Str) : (a ++ b).length = a.length + b.length := by
  show (a.cps ++ b.cps).size = _
  rw [Array.size_append]; rfl
theorem pur_I {ε α : Type} {a : α} {Q : α → Prop} {X : ε → Prop} (h : Q a) : pur a Q X := h
theorem ite_F {c : Bool} {p q : Prop} (h : c = false) (k : q) : if c = true then p else q := by rw [if_neg (by simp [h])]; exact k
theorem andW_and {ε : Type} {mb : Wm ε Bool} {Q : Bool → Prop} {X : ε → Prop} (a b : Bool) (h : Q (a && b)) (k : ∀ P : Bool → Prop, P b → mb P X) : andW (fun Q _ => Q a) mb Q X := by
  cases a with
  | true => exact k Q h
  | false => exact h
theorem strN_4 : ∀ n, n < 1001 → (strN n).length ≤ 4 := by decide +kernel
section
variable {P : Program} {w : World} {K : PySem.W.Frag} {mg : Str → Option Value} {base : Heap} {C_Program C_Web C_Pool : Addr}
abbrev s_Program_starts : Stmt := inClass (topS 25) 4
abbrev N_Program_starts : List Str := ["self"]
theorem sc_Program_starts : FnScope N_Program_starts ["self"] (defScope s_Program_starts) := ⟨rfl, rfl, rfl, by decide +kernel, rfl, by decide +kernel, by decide +kernel⟩
theorem ok_Program_starts {f : Addr} {fd : FuncData} (B : Bf mg) (W_prog : ProgK K C_Program) (F : Fun K "starts" "Program.starts" s_Program_starts f fd) : FnOk P w K mg base CX0 1 f fd ["self"] (SpN (fun g : Prg => [(progP C_Program K P w) g]) (fun (g : Prg) (Q : Rows → Prop) => Q g.starts) (fD K (dT (dT dN)))) := by
  refine gw_met F sc_Program_starts (fun _ => rfl) (fun _ => inferInstance) fun cdv A outer s H E g hr => ?_
  obtain ⟨v_self, hgen⟩ : ∃ x, x = g := ⟨g, rfl⟩
  subst hgen
  refine ⟨_, (pss_one (ps_ret (pe_sl (pv 0)))), _,
    (ts_ret (tr_fld (fl_prog_own_starts W_prog) (tr_var (R := (progP C_Program K P w)) (a := v_self) rfl))), ?_⟩
  rintro Q ⟨vs0, F0, hv⟩ hs
  try delta pur
  try dsimp only at hs hv ⊢
  exact hs
abbrev s_Programu__lenu_ : Stmt := inClass (topS 25) 14
abbrev N_Programu__lenu_ : List Str := ["self"]
theorem sc_Programu__lenu_ : FnScope N_Programu__lenu_ ["self"] (defScope s_Programu__lenu_) := ⟨rfl, rfl, rfl, by decide +kernel, rfl, by decide +kernel, by decide +kernel⟩
theorem ok_Programu__lenu_ {f : Addr} {fd : FuncData} (B : Bf mg) (W_prog : ProgK K C_Program) (F : Fun K "__len__" "Program.__len__" s_Programu__lenu_ f fd) : FnOk P w K mg base CX0 1 f fd ["self"] (SpN (fun g : Prg => [(progP C_Program K P w) g]) (fun (g : Prg) (Q : Nat → Prop) => Q g.moves.length) (fD K dN)) := by
  refine gw_met F sc_Programu__lenu_ (fun _ => rfl) (fun _ => inferInstance) fun cdv A outer s H E g hr => ?_
  obtain ⟨v_self, hgen⟩ : ∃ x, x = g := ⟨g, rfl⟩
  subst hgen
  refine ⟨_, (pss_one (ps_ret (p_lenDK K P w B (pa_cons (pe_sl (pv 0)) pa_nil)))), _,
    (ts_ret (tr_cb (c_lenDK (d := (dP dN (dT dO)))) (ta_one (tr_ZK (tr_fld (fl_prog_own_moves W_prog) (tr_var (R := (progP C_Program K P w)) (a := v_self) rfl)))))), ?_⟩
  rintro Q ⟨vs0, F0, hv⟩ hs
  try delta pur
  try dsimp only at hs hv ⊢
  exact hs
abbrev s_Program_moves : Stmt := inClass (topS 25) 5
abbrev N_Program_moves : List Str := ["self"]
theorem sc_Program_moves : FnScope N_Program_moves ["self"] (defScope s_Program_moves) := ⟨rfl, rfl, rfl, by decide +kernel, rfl, by decide +kernel, by decide +kernel⟩
theorem ok_Program_moves {f : Addr} {fd : FuncData} (B : Bf mg) (W_prog : ProgK K C_Program) (F : Fun K "moves" "Program.moves" s_Program_moves f fd) : FnOk P w K mg base CX0 2 f fd ["self"] (SpO (fun g : Prg => [(progP C_Program K P w) g]) (fun (g : Prg) (Q : List (Mvk × Nat) → Prop) => (PrOk g ∧ g.size ≤ 4 ∧ g.states ≤ 6) ∧ Q g.moves) (ownDP K P w (dP dN (dT dO)) (fD K dN))) := by
  refine gw_okO F sc_Program_moves (fun _ => rfl) (fun _ => inferInstance) fun cdv A outer s H E g hr => ?_
  obtain ⟨v_self, hgen⟩ : ∃ x, x = g := ⟨g, rfl⟩
  subst hgen
  refine ⟨_, (pss_one (ps_ret (Sn.p_dictCP hr B (pa_cons (pe_sl (pv 0)) pa_nil)))), _,
    (tm_dictCP (d := (dP dN (dT dO))) (fun _ => ⟨_, rfl⟩) (tr_ZK (tr_fld (fl_prog_own_moves W_prog) (tr_var (R := (progP C_Program K P w)) (a := v_self) rfl)))), ?_⟩
  rintro Q ⟨vs0, F0, hv⟩ hs
  try delta pur
  try dsimp only at hs hv ⊢
  obtain ⟨⟨ok, s4, s6⟩, q⟩ := hs
  refine ⟨?_, q⟩
  refine (congrArg List.Nodup (hash_mv (w := w) (ms := v_self.moves))).mpr ?_
  exact keys_nd s4 (moves_keys ok s6).1 (moves_keys ok s6).2
abbrev s_Program_decisions : Stmt := inClass (topS 25) 6
abbrev N_Program_decisions : List Str := ["self"]
theorem sc_Program_decisions : FnScope N_Program_decisions ["self"] (defScope s_Program_decisions) := ⟨rfl, rfl, rfl, by decide +kernel, rfl, by decide +kernel, by decide +kernel⟩
theorem ok_Program_decisions {f : Addr} {fd : FuncData} (B : Bf mg) (W_prog : ProgK K C_Program) (F : Fun K "decisions" "Program.decisions" s_Program_decisions f fd) : FnOk P w K mg base CX0 2 f fd ["self"] (SpO (fun g : Prg => [(progP C_Program K P w) g]) (fun (g : Prg) (Q : List (Nat × Nat) → Prop) => Q g.decs) (ownDI dN (fD K dN))) := by
  refine gw_okO F sc_Program_decisions (fun _ => rfl) (fun _ => inferInstance) fun cdv A outer s H E g hr => ?_
  obtain ⟨v_self, hgen⟩ : ∃ x, x = g := ⟨g, rfl⟩
  subst hgen
  refine ⟨_, (pss_one (ps_ret (Sn.p_dictDI B (pa_cons (pe_sl (pv 0)) pa_nil)))), _,
    (tm_dictDI (d := dN) (tr_ZI (tr_fld (fl_prog_own_decisions W_prog) (tr_var (R := (progP C_Program K P w)) (a := v_self) rfl)))), ?_⟩
  rintro Q ⟨vs0, F0, hv⟩ hs
  try delta pur
  try dsimp only at hs hv ⊢
  exact hs
abbrev s_Program_require_key : Stmt := inClass (topS 25) 7
abbrev N_Program_require_key : List Str := ["self", "state", "heard"]
theorem sc_Program_require_key : FnScope N_Program_require_key ["self", "state", "heard"] (defScope s_Program_require_key) := ⟨rfl, rfl, rfl, by decide +kernel, rfl, by decide +kernel, by decide +kernel⟩
theorem ok_Program_require_key {f : Addr} {fd : FuncData} (B : Bf mg) (c_require_number : Gf P w K mg base 3 "require_number" (SpN (fun g : PyData × Int × Int => [(fD K dA) g.1, (fD K dInt) g.2.1, (fD K dInt) g.2.2]) (fun (g : PyData × Int × Int) (Q : Unit → Prop) => isBt g.1 g.2.1 g.2.2 = true ∧ Q ()) (fD K dU))) (W_prog : ProgK K C_Program) (c_is_hearing : Gf P w K mg base 4 "is_hearing" (SpN (fun g : Nat × Nat × Nat × (List (Option Nat)) => [(fD K dN) g.1, (fD K dN) g.2.1, (fD K dN) g.2.2.1, (fD K (dT dO)) g.2.2.2]) (fun (g : Nat × Nat × Nat × Hrd) (Q : Bool → Prop) => (g.1 ≤ 5 ∧ g.2.1 ≤ 400 ∧ HearOk g.1 g.2.1 g.2.2.1 g.2.2.2) ∧ Q true) (fD K dB))) (F : Fun K "require_key" "Program.require_key" s_Program_require_key f fd) : FnOk P w K mg base CX0 5 f fd ["self", "state", "heard"] (SpN (fun g : Prg × Nat × (List (Option Nat)) => [(progP C_Program K P w) g.1, (fD K dN) g.2.1, (fD K (dT dO)) g.2.2]) (fun (g : Prg × Nat × Hrd) (Q : Unit → Prop) => (g.2.1 < g.1.states ∧ g.1.states ≤ 400 ∧ HearOk g.1.size g.1.states g.2.1 g.2.2 ∧ g.1.size ≤ 5) ∧ Q ()) (fD K dU)) := by
  refine gw_metN F sc_Program_require_key (fun _ => rfl) (fun _ => inferInstance) fun cdv A outer s H E g hr => ?_
  obtain ⟨v_self, v_state, v_heard⟩ := g
  refine ⟨_, (pss_cons (ps_expr (p_call c_require_number hr (by decide) (pa_cons (pv 1) (pa_cons pe_int (pa_cons (pe_op op_sub (pe_sl (pv 0)) pe_int) pa_nil)))))
    (pss_one (ps_if (pt_not (pt_val (p_call c_is_hearing hr (by decide) (pa_cons (pe_sl (pv 0)) (pa_cons (pe_sl (pv 0)) (pa_cons (pv 1) (pa_cons (pv 2) pa_nil)))))))
      (pss_one ps_never)
      pss_nil))), _,
    (ts_drop (tr_call (ta_cons (tr_any (tr_var (R := (fD K dN)) (a := v_state) rfl)) (ta_cons (tr_int (K := K)) (ta_one (tr_op o_i0i (tr_ni (tr_fld (fl_prog_own_states W_prog) (tr_var (R := (progP C_Program K P w)) (a := v_self) rfl))) (tr_int (K := K))))))) (ts_one (ts_ifq (tt_not (tt_B (tr_call (ta_cons (tr_fld (fl_prog_own_size W_prog) (tr_var (R := (progP C_Program K P w)) (a := v_self) rfl)) (ta_cons (tr_fld (fl_prog_own_states W_prog) (tr_var (R := (progP C_Program K P w)) (a := v_self) rfl)) (ta_cons (tr_var (R := (fD K dN)) (a := v_state) rfl) (ta_one (tr_var (R := (fD K (dT dO))) (a := v_heard) rfl))))))))
      ts_neverq
      (ts_nextq (ts_next () (leV_none (leV_none (leV_none leV_nil))) (fun _ _ _ h => h)))))), ?_⟩
  rintro Q ⟨vs0, F0, hv⟩ hs
  try delta pur
  try dsimp only at hs hv ⊢
  obtain ⟨⟨h1, h2, h3, h4⟩, q⟩ := hs
  refine ⟨(btI_eq (d := dN v_state)).symm.trans (bt_400 h1 h2), ⟨h4, h2, h3⟩, ?_⟩
  rw [if_neg (by simp)]
  exact q
abbrev s_Program_after : Stmt := inClass (topS 25) 8
abbrev N_Program_after : List Str := ["self", "state", "heard"]
theorem sc_Program_after : FnScope N_Program_after ["self", "state", "heard"] (defScope s_Program_after) := ⟨rfl, rfl, rfl, by decide +kernel, rfl, by decide +kernel, by decide +kernel⟩
theorem ok_Program_after {f : Addr} {fd : FuncData} (B : Bf mg) (c_prog_require_key : MetS P w K mg base 5 C_Program "require_key" (SpN (fun g : Prg × Nat × (List (Option Nat)) => [(progP C_Program K P w) g.1, (fD K dN) g.2.1, (fD K (dT dO)) g.2.2]) (fun (g : Prg × Nat × Hrd) (Q : Unit → Prop) => (g.2.1 < g.1.states ∧ g.1.states ≤ 400 ∧ HearOk g.1.size g.1.states g.2.1 g.2.2 ∧ g.1.size ≤ 5) ∧ Q ()) (fD K dU))) (W_prog : ProgK K C_Program) (F : Fun K "after" "Program.after" s_Program_after f fd) : FnOk P w K mg base CX0 6 f fd ["self", "state", "heard"] (SpN (fun g : Prg × Nat × (List (Option Nat)) => [(progP C_Program K P w) g.1, (fD K dN) g.2.1, (fD K (dT dO)) g.2.2]) (fun (g : Prg × Nat × Hrd) (Q : Nat → Prop) => (PrOk g.1 ∧ g.2.1 < g.1.states ∧ HearOk g.1.size g.1.states g.2.1 g.2.2) ∧ Q ((getA g.1.moves (g.2.1, g.2.2)).getD g.2.1)) (fD K dN)) := by
  refine gw_met F sc_Program_after (fun _ => rfl) (fun _ => inferInstance) fun cdv A outer s H E g hr => ?_
  obtain ⟨v_self, v_state, v_heard⟩ := g
  refine ⟨_, (pss_cons (ps_expr (p_met c_prog_require_key hr (by decide) (pv 0) (pa_cons (pv 1) (pa_cons (pv 2) pa_nil))))
    (pss_one (ps_ret (p_getK K P w hr.units (pe_sl (pv 0)) (pa_cons (pe_tup (pa_cons (pv 1) (pa_cons (pv 2) pa_nil))) (pa_cons (pv 1) pa_nil)))))), _,
    (ts_drop (tr_met (tr_var (R := (progP C_Program K P w)) (a := v_self) rfl) is_prog (ta_cons (tr_var (R := (fD K dN)) (a := v_state) rfl) (ta_one (tr_var (R := (fD K (dT dO))) (a := v_heard) rfl)))) (ts_ret (tr_getDP (d := (dP dN (dT dO))) (by decide) (tr_ZK (tr_fld (fl_prog_own_moves W_prog) (tr_var (R := (progP C_Program K P w)) (a := v_self) rfl))) (ta_cons (tr_pD (tr_pair (tr_var (R := (fD K dN)) (a := v_state) rfl) (tr_var (R := (fD K (dT dO))) (a := v_heard) rfl))) (ta_one (tr_var (R := (fD K dN)) (a := v_state) rfl)))))), ?_⟩
  rintro Q ⟨vs0, F0, hv⟩ hs
  try delta pur
  try dsimp only at hs hv ⊢
  obtain ⟨⟨ok, h1, h2⟩, q⟩ := hs
  exact ⟨⟨h1, ok.st.2, h2, ok.sz.2⟩, q⟩
abbrev s_Programu__equ_ : Stmt := inClass (topS 25) 15
abbrev N_Programu__equ_ : List Str := ["self", "other"]
theorem sc_Programu__equ_ : FnScope N_Programu__equ_ ["self", "other"] (defScope s_Programu__equ_) := ⟨rfl, rfl, rfl, by decide +kernel, rfl, by decide +kernel, by decide +kernel⟩
theorem ok_Programu__equ_ {f : Addr} {fd : FuncData} (B : Bf mg) (m_Program : mg "Program" = some (.ref C_Program)) (W_prog : ProgK K C_Program) (F : Fun K "__eq__" "Program.__eq__" s_Programu__equ_ f fd) : FnOk P w K mg base CX0 2 f fd ["self", "other"] (SpN (fun g : Prg × Prg => [(progP C_Program K P w) g.1, (progP C_Program K P w) g.2]) (fun (g : Prg × Prg) (Q : Bool → Prop) => Q (eqP g.1 g.2)) (fD K dB)) := by
  refine gw_met F sc_Programu__equ_ (fun _ => rfl) (fun _ => inferInstance) fun cdv A outer s H E g hr => ?_
  obtain ⟨v_self, v_other⟩ := g
  refine ⟨_, (pss_one (ps_ret (pe_and (p_isiS (.ref C_Program) B (pa_cons (pv 1) (pa_cons (p_cls (by rfl) m_Program) pa_nil))) (pe_and (pe_cmpR op_eq (pe_sl (pv 0)) (pe_sl (pv 1)) (nomark _)) (pe_and (pe_cmpR op_eq (pe_sl (pv 0)) (pe_sl (pv 1)) (nomark _)) (pe_and (pe_cmpR (op_eqD hr.units) (pe_sl (pv 0)) (pe_sl (pv 1)) (nomark _)) (pe_and (pe_cmpR (op_eqDNK K P w hr.units) (pe_sl (pv 0)) (pe_sl (pv 1)) (nomark _)) (pe_one (pe_cmpR (op_eqDI hr.units) (pe_sl (pv 0)) (pe_sl (pv 1)) (nomark _)))))))))), _,
    (ts_ret (tr_and (tr_cb (c_isiOwn W_prog.sc W_prog.si W_prog.kit is_prog) (ta_cons (tr_var (R := (progP C_Program K P w)) (a := v_other) rfl) (ta_one tr_clsV))) (tr_and (tr_op o_eqN (tr_fld (fl_prog_own_size W_prog) (tr_var (R := (progP C_Program K P w)) (a := v_self) rfl)) (tr_fld (fl_prog_own_size W_prog) (tr_var (R := (progP C_Program K P w)) (a := v_other) rfl))) (tr_and (tr_op o_eqN (tr_fld (fl_prog_own_states W_prog) (tr_var (R := (progP C_Program K P w)) (a := v_self) rfl)) (tr_fld (fl_prog_own_states W_prog) (tr_var (R := (progP C_Program K P w)) (a := v_other) rfl))) (tr_and (tr_op (o_eqD (d := (dT (dT dN)))) (tr_fld (fl_prog_own_starts W_prog) (tr_var (R := (progP C_Program K P w)) (a := v_self) rfl)) (tr_fld (fl_prog_own_starts W_prog) (tr_var (R := (progP C_Program K P w)) (a := v_other) rfl))) (tr_and (tr_op (o_eqDN (d := (dP dN (dT dO)))) (tr_ZK (tr_fld (fl_prog_own_moves W_prog) (tr_var (R := (progP C_Program K P w)) (a := v_self) rfl))) (tr_ZK (tr_fld (fl_prog_own_moves W_prog) (tr_var (R := (progP C_Program K P w)) (a := v_other) rfl)))) (tr_op (o_eqDI (d := dN)) (tr_ZI (tr_fld (fl_prog_own_decisions W_prog) (tr_var (R := (progP C_Program K P w)) (a := v_self) rfl))) (tr_ZI (tr_fld (fl_prog_own_decisions W_prog) (tr_var (R := (progP C_Program K P w)) (a := v_other) rfl)))))))))), ?_⟩
  rintro Q ⟨vs0, F0, hv⟩ hs
  try delta pur
  try dsimp only at hs hv ⊢
  unfold eqP at hs
  refine andW_and true _ hs fun P hP => ?_
  refine andW_and _ _ hP fun P hP => ?_
  refine andW_and _ _ hP fun P hP => ?_
  refine andW_and _ _ hP fun P hP => ?_
  exact andW_and _ _ hP fun P hP => hP
theorem ok_Programu__equ__d {f : Addr} {fd : FuncData} (B : Bf mg) (m_Program : mg "Program" = some (.ref C_Program)) (N_prog : NoD K C_Program) (F : Fun K "__eq__" "Program.__eq__" s_Programu__equ_ f fd) : FnOk P w K mg base CX0 2 f fd ["self", "other"] (SpN (fun g : Prg × PyData => [(progP C_Program K P w) g.1, (fD K dA) g.2]) (fun (g : Prg × PyData) (Q : Bool → Prop) => Q false) (fD K dB)) := by
  refine gw_met F sc_Programu__equ_ (fun _ => rfl) (fun _ => inferInstance) fun cdv A outer s H E g hr => ?_
  obtain ⟨v_self, v_other⟩ := g
  refine ⟨_, (pss_one (ps_ret (pe_and (p_isiS (.ref C_Program) B (pa_cons (pv 1) (pa_cons (p_cls (by rfl) m_Program) pa_nil))) (pe_and (pe_cmpR op_eq (pe_sl (pv 0)) (pe_sl (pv 1)) (nomark _)) (pe_and (pe_cmpR op_eq (pe_sl (pv 0)) (pe_sl (pv 1)) (nomark _)) (pe_and (pe_cmpR (op_eqD hr.units) (pe_sl (pv 0)) (pe_sl (pv 1)) (nomark _)) (pe_and (pe_cmpR (op_eqDNK K P w hr.units) (pe_sl (pv 0)) (pe_sl (pv 1)) (nomark _)) (pe_one (pe_cmpR (op_eqDI hr.units) (pe_sl (pv 0)) (pe_sl (pv 1)) (nomark _)))))))))), _,
    (ts_ret (tr_andF (tr_cb (c_isiObjD (d := dA) N_prog) (ta_cons (tr_var (R := (fD K dA)) (a := v_other) rfl) (ta_one tr_clsV))))), ?_⟩
  rintro Q ⟨vs0, F0, hv⟩ hs
  try delta pur
  try dsimp only at hs hv ⊢
  exact ⟨rfl, hs⟩
abbrev s_Programu__stru_ : Stmt := inClass (topS 25) 16
abbrev N_Programu__stru_ : List Str := ["self"]
theorem sc_Programu__stru_ : FnScope N_Programu__stru_ ["self"] (defScope s_Programu__stru_) := ⟨rfl, rfl, rfl, by decide +kernel, rfl, by decide +kernel, by decide +kernel⟩
theorem ok_Programu__stru_ {f : Addr} {fd : FuncData} (B : Bf mg) (W_prog : ProgK K C_Program) (F : Fun K "__str__" "Program.__str__" s_Programu__stru_ f fd) : FnOk P w K mg base CX0 3 f fd ["self"] (SpN (fun g : Prg => [(progP C_Program K P w) g]) (fun (g : Prg) (Q : PySem.Str → Prop) => (PrOk g) ∧ Q (strP g)) (fD K dS)) := by
  refine gw_met F sc_Programu__stru_ (fun _ => rfl) (fun _ => inferInstance) fun cdv A outer s H E g hr => ?_
  obtain ⟨v_self, hgen⟩ : ∃ x, x = g := ⟨g, rfl⟩
  subst hgen
  refine ⟨_, (pss_one (ps_ret (pe_joined (PJ.cons pe_str (PJ.cons (pe_fmt (pe_sl (pv 0))) (PJ.cons pe_str (PJ.cons (pe_fmt (pe_sl (pv 0))) (PJ.cons pe_str (PJ.cons (pe_fmt (p_lenDK K P w B (pa_cons (pe_sl (pv 0)) pa_nil))) (PJ.cons pe_str PJ.nil)))))))))), _,
    (ts_ret (tr_js (tj_cons (K := K) (tr_str (K := K)) (tj_cons (K := K) (tr_fmtN (tr_fld (fl_prog_own_size W_prog) (tr_var (R := (progP C_Program K P w)) (a := v_self) rfl))) (tj_cons (K := K) (tr_str (K := K)) (tj_cons (K := K) (tr_fmtN (tr_fld (fl_prog_own_states W_prog) (tr_var (R := (progP C_Program K P w)) (a := v_self) rfl))) (tj_cons (K := K) (tr_str (K := K)) (tj_cons (K := K) (tr_fmtN (tr_cb (c_lenDK (d := (dP dN (dT dO)))) (ta_one (tr_ZK (tr_fld (fl_prog_own_moves W_prog) (tr_var (R := (progP C_Program K P w)) (a := v_self) rfl)))))) (tj_cons (K := K) (tr_str (K := K)) tj_nil))))))))), ?_⟩
  rintro Q ⟨vs0, F0, hv⟩ hs
  try delta pur
  try dsimp only at hs hv ⊢
  obtain ⟨ok, q⟩ := hs
  have h5 : v_self.size ≤ 5 := ok.sz.2
  have h4 : v_self.states ≤ 400 := ok.st.2
  have hm : v_self.moves.length ≤ 1000 := ok.moves.2.1
  have l1 := strN_4 v_self.size (by omega)
  have l2 := strN_4 v_self.states (by omega)
  have l3 := strN_4 v_self.moves.length (by omega)
  have k1 : (Str.ofString "program for ").length = 12 := rfl
  have k2 : (Str.ofString " houses: ").length = 9 := rfl
  have k3 : (Str.ofString " states, ").length = 9 := rfl
  have k4 : (Str.ofString " moves").length = 6 := rfl
  unfold strP at q
  simp only [emp_app, str_app_len, k1, k2, k3, k4]
  exact ⟨by omega, by omega, by omega, by omega, by omega, by omega, by omega, by omega, by omega, by omega, q⟩
abbrev s_is_program : Stmt := topS 26
abbrev N_is_program : List Str := ["size", "states", "value"]
theorem sc_is_program : FnScope N_is_program ["size", "states", "value"] (defScope s_is_program) := ⟨rfl, rfl, rfl, by decide +kernel, rfl, by decide +kernel, by decide +kernel⟩
theorem ok_is_program {f : Addr} {fd : FuncData} (B : Bf mg) (g_MAX_HOUSES : GInt mg "MAX_HOUSES" 5) (g_MAX_STATES : GInt mg "MAX_STATES" 400) (c_is_between : Gf P w K mg base 2 "is_between" (SpN (fun g : PyData × Int × Int => [(fD K dA) g.1, (fD K dInt) g.2.1, (fD K dInt) g.2.2]) (fun (g : PyData × Int × Int) (Q : Bool → Prop) => Q (btI g.1 g.2.1 g.2.2)) (fD K dB))) (c_are_parts : Gf P w K mg base 6 "are_parts" (SpN (fun g : Nat × Nat × (List (List Nat)) × (List ((Nat × (List (Option Nat))) × Nat)) × (List (Nat × Nat)) => [(fD K dN) g.1, (fD K dN) g.2.1, (fD K (dT (dT dN))) g.2.2.1, (fDKZ K P w (dP dN (dT dO)) (fD K dN)) g.2.2.2.1, (fDZ dN (fD K dN)) g.2.2.2.2]) (fun (g : Nat × Nat × Rows × List (Mvk × Nat) × List (Nat × Nat)) (Q : Bool → Prop) => RawOk g ∧ Q true) (fD K dB))) (F : Fun K "is_program" "is_program" s_is_program f fd) (hm : mg "is_program" = some (.ref f)) (b : Binds K fd ["size", "states", "value"] []) : Gf P w K mg base 7 "is_program" (SpN (fun g : Nat × Nat × ((List (List Nat)) × (List ((Nat × (List (Option Nat))) × Nat)) × (List (Nat × Nat))) => [(fD K dN) g.1, (fD K dN) g.2.1, (fT3 K (fD K (dT (dT dN))) (fDKZ K P w (dP dN (dT dO)) (fD K dN)) (fDZ dN (fD K dN))) g.2.2]) (fun (g : Nat × Nat × Rows × List (Mvk × Nat) × List (Nat × Nat)) (Q : Bool → Prop) => RawOk g ∧ Q true) (fD K dB)) := by
  refine gw_mk F hm b sc_is_program (fun _ => rfl) (fun _ => inferInstance) fun cdv A outer s H E g hr => ?_
  obtain ⟨v_size, v_states, v_value⟩ := g
  refine ⟨_, (pss_cons (ps_if (pt_not (pt_val (p_call c_is_between hr (by decide) (pa_cons (pv 0) (pa_cons pe_int (pa_cons (p_gint g_MAX_HOUSES) pa_nil))))))
      (pss_one ps_never)
      pss_nil)
    (pss_cons (ps_if (pt_not (pt_val (p_call c_is_between hr (by decide) (pa_cons (pv 1) (pa_cons pe_int (pa_cons (p_gint g_MAX_STATES) pa_nil))))))
      (pss_one ps_never)
      pss_nil)
    (pss_cons (ps_if (PW.pt (pw_or (pt_not (pt_val (p_isi B (pa_cons (pv 2) (pa_cons (p_ty (by rfl) B.tuple boot_tuple) pa_nil))))) (pw_or1 (pt_cmpR op_ne (p_len B (pa_cons (pv 2) pa_nil)) pe_int (nomark _)))))
      (pss_one (ps_ret pe_bl))
      pss_nil)
    (pss_one (ps_ret (p_call c_are_parts hr (by decide) (pa_cons (pv 0) (pa_cons (pv 1) (pa_cons (pe_ix ix_tup (pv 2) pe_int (fun _ _ => rfl)) (pa_cons (pe_ix ix_tup (pv 2) pe_int (fun _ _ => rfl)) (pa_cons (pe_ix ix_tup (pv 2) pe_int (fun _ _ => rfl)) pa_nil))))))))))), _,
    (ts_ifq (tt_not (tt_B (tr_call (ta_cons (tr_any (tr_var (R := (fD K dN)) (a := v_size) rfl)) (ta_cons (tr_int (K := K)) (ta_one (tr_ni (tr_nat (K := K) 5))))))))
      ts_neverq
      (ts_nextq (ts_ifq (tt_not (tt_B (tr_call (ta_cons (tr_any (tr_var (R := (fD K dN)) (a := v_states) rfl)) (ta_cons (tr_int (K := K)) (ta_one (tr_ni (tr_nat (K := K) 400))))))))
      ts_neverq
      (ts_nextq (ts_ifq (tt_or (tt_not (tt_B (tr_cb c_isiTp (ta_cons (tr_U3 (tr_var (R := (fT3 K (fD K (dT (dT dN))) (fDKZ K P w (dP dN (dT dO)) (fD K dN)) (fDZ dN (fD K dN)))) (a := v_value) rfl)) (ta_one tr_ty))))) (tt_test (tr_op o_neN (tr_cb c_lenT (ta_one (tr_U3 (tr_var (R := (fT3 K (fD K (dT (dT dN))) (fDKZ K P w (dP dN (dT dO)) (fD K dN)) (fDZ dN (fD K dN)))) (a := v_value) rfl)))) (tr_nat (K := K) 3))))
      (ts_retq (tr_bl (K := K)))
      (ts_nextq (ts_ret (tr_call (ta_cons (tr_var (R := (fD K dN)) (a := v_size) rfl) (ta_cons (tr_var (R := (fD K dN)) (a := v_states) rfl) (ta_cons (tr_ixU0 (tr_var (R := (fT3 K (fD K (dT (dT dN))) (fDKZ K P w (dP dN (dT dO)) (fD K dN)) (fDZ dN (fD K dN)))) (a := v_value) rfl)) (ta_cons (tr_ixU1 (tr_var (R := (fT3 K (fD K (dT (dT dN))) (fDKZ K P w (dP dN (dT dO)) (fD K dN)) (fDZ dN (fD K dN)))) (a := v_value) rfl)) (ta_one (tr_ixU2 (tr_var (R := (fT3 K (fD K (dT (dT dN))) (fDKZ K P w (dP dN (dT dO)) (fD K dN)) (fDZ dN (fD K dN)))) (a := v_value) rfl))))))))))))))), ?_⟩
  rintro Q ⟨vs0, F0, hv⟩ hs
  obtain ⟨ok, q⟩ := hs
  obtain ⟨a, b, c⟩ := v_value
  have h1 : btI (dN v_size) 1 ((5 : Nat) : Int) = true := bt_in (lo := 1) ok.sz.1 ok.sz.2 (by decide)
  have h2 : btI (dN v_states) 1 ((400 : Nat) : Int) = true := bt_in (lo := 1) ok.st.1 ok.st.2 (by decide)
  iterate 3 refine pur_I ?_
  refine ite_F (congrArg (!·) h1) ?_
  iterate 3 refine pur_I ?_
  refine ite_F (congrArg (!·) h2) ?_
  refine orW_of false false (fun P hP => ?_) (fun _ P hP => ?_) ?_
  · exact pur_I (pur_I (pur_I hP))
  · exact pur_I (pur_I (pur_I hP))
  refine ite_F rfl ?_
  iterate 5 refine pur_I ?_
  exact ⟨ok, q⟩
abbrev s__law_place : Stmt := topS 38
abbrev N__law_place : List Str := ["_law_key_here", "_law_states", "_law_one"]
theorem sc__law_place : FnScope N__law_place ["_law_key_here", "_law_states"] (defScope s__law_place) := ⟨rfl, rfl, rfl, by decide +kernel, rfl, by decide +kernel, by decide +kernel⟩
theorem ok__law_place {f : Addr} {fd : FuncData} (B : Bf mg)  (F : Fun K "_law_place" "_law_place" s__law_place f fd) (hm : mg "_law_place" = some (.ref f)) (b : Binds K fd ["_law_key_here", "_law_states"] []) : Gf P w K mg base 1 "_law_place" (SpN (fun g : (Nat × (List (Option Nat))) × Nat => [(fD K (dP dN (dT dO))) g.1, (fD K dN) g.2]) (fun (g : Mvk × Nat) (Q : Nat × List Nat → Prop) => g.1.2.length ≤ 5 ∧ Q (placeOf g.2 g.1)) (fD K (dP dN (dT dN)))) := by
  refine gw_mk F hm b sc__law_place (fun _ => rfl) (fun _ => inferInstance) fun cdv A outer s H E g hr => ?_
  obtain ⟨v__law_key_here, v__law_states⟩ := g
  refine ⟨_, (pss_one (ps_ret (pe_tup (pa_cons (pe_ix ix_tup (pv 0) pe_int (fun _ _ => rfl)) (pa_cons (p_tuple B (pa_cons (pe_lc (own := [("_law_one", 2)]) (g := gName 2) (tt := tYes) rfl sc__law_place.nd (pi_tup (pe_ix ix_tup (pv 0) pe_int (fun _ _ => rfl))) (blkOk_by (N := N__law_place) (sc := defScope s__law_place) (by decide +kernel)) (fun _ _ _ _ _ => (pg_name (i := 2) sc__law_place.nd rfl (by first | exact Or.inl rfl | exact Or.inr rfl))) (fun _ _ _ _ _ => pts_nil) (fun _ _ _ _ _ => by exact (pe_ifExp (pt_cmp (pc_isN (pv 2))) (pv 1) (pv 2)))) pa_nil)) pa_nil))))), _,
    (ts_ret (tr_pD (tr_pair (tr_fst (tr_var (R := (fD K (dP dN (dT dO)))) (a := v__law_key_here) rfl)) (tr_cb c_tupDL (ta_one (tr_lnD (tr_lc (vs := [2]) (Rd := (fD K dN)) (ti_tupD (tr_snd (tr_var (R := (fD K (dP dN (dT dO)))) (a := v__law_key_here) rfl))) (tg_name (R := (fD K dO)) 2) rfl rfl rfl (fun _ => rfl) (fun x1 => tt_yes) (fun x1 => (tr_if (tt_B (tr_isNO (tr_var (R := (fD K dO)) (a := x1) rfl))) (tr_var (R := (fD K dN)) (a := v__law_states) rfl) (tr_oN (tr_var (R := (fD K dO)) (a := x1) rfl))))))))))), ?_⟩
  rintro Q ⟨vs0, F0, hv⟩ hs
  try delta pur
  try dsimp only at hs hv ⊢
  obtain ⟨h5, q⟩ := hs
  refine ⟨by omega, lcW_map (h := fun o : Option Nat => o.getD v__law_states) (fun o ho Q hQ => ?_) (show Q (v__law_key_here.1, v__law_key_here.2.map fun o => o.getD v__law_states) from q)⟩
  cases o with
  | none => exact hQ
  | some n => exact ⟨n, rfl, hQ⟩
abbrev s__law_is_rising : Stmt := topS 39
abbrev N__law_is_rising : List Str := ["_law_keys", "_law_states", "_law_places", "_law_key_here"]
theorem sc__law_is_rising : FnScope N__law_is_rising ["_law_keys", "_law_states"] (defScope s__law_is_rising) := ⟨rfl, rfl, rfl, by decide +kernel, rfl, by decide +kernel, by decide +kernel⟩
theorem ok__law_is_rising {f : Addr} {fd : FuncData} (B : Bf mg) (c_law_place : Gf P w K mg base 1 "_law_place" (SpN (fun g : (Nat × (List (Option Nat))) × Nat => [(fD K (dP dN (dT dO))) g.1, (fD K dN) g.2]) (fun (g : Mvk × Nat) (Q : Nat × List Nat → Prop) => g.1.2.length ≤ 5 ∧ Q (placeOf g.2 g.1)) (fD K (dP dN (dT dN))))) (F : Fun K "_law_is_rising" "_law_is_rising" s__law_is_rising f fd) (hm : mg "_law_is_rising" = some (.ref f)) (b : Binds K fd ["_law_keys", "_law_states"] []) : Gf P w K mg base 2 "_law_is_rising" (SpN (fun g : (List (Nat × (List (Option Nat)))) × Nat => [(fD K (dL (dP dN (dT dO)))) g.1, (fD K dN) g.2]) (fun (g : List Mvk × Nat) (Q : Bool → Prop) => (g.1.length < 64 ∧ ∀ k ∈ g.1, k.2.length ≤ 5) ∧ (g.1.map (placeOf g.2)).Pairwise (fun a b => plLe a b = true) ∧ Q true) (fD K dB)) := by
  refine gw_mk F hm b sc__law_is_rising (fun _ => rfl) (fun _ => inferInstance) fun cdv A outer s H E g hr => ?_
  obtain ⟨v__law_keys, v__law_states⟩ := g
  refine ⟨_, (pss_cons (ps_setLc (i := 2) (own := [("_law_key_here", 3)]) (g := gName 3) (tt := tYes)  rfl sc__law_is_rising.nd rfl rfl (sw_true rfl rfl rfl (by decide +kernel)) (pi_list (pv 0)) (blkOk_by (N := N__law_is_rising) (sc := defScope s__law_is_rising) (by decide +kernel)) (fun _ _ _ _ _ => (pg_name (i := 3) sc__law_is_rising.nd rfl (by first | exact Or.inl rfl | exact Or.inr rfl))) (fun _ _ _ _ _ => pts_nil) (fun _ _ _ _ _ => by exact (p_call c_law_place hr (by decide) (pa_cons (pv 3) (pa_cons (pv 1) pa_nil)))))
    (pss_one (ps_ret (pe_cmpR (op_eqD hr.units) (pv 2) (p_sortedDt hr B (pa_cons (pv 2) pa_nil)) (nomark _))))), _,
    (ts_set (R := (fLn (fD K (dP dN (dT dN))))) 2 (tr_lc (vs := [3]) (Rd := (fD K (dP dN (dT dN)))) (ti_lstD (tr_var (R := (fD K (dL (dP dN (dT dO))))) (a := v__law_keys) rfl)) (tg_name (R := (fD K (dP dN (dT dO)))) 3) rfl rfl rfl (fun _ => rfl) (fun x1 => tt_yes) (fun x1 => (tr_call (ta_cons (tr_var (R := (fD K (dP dN (dT dO)))) (a := x1) rfl) (ta_one (tr_var (R := (fD K dN)) (a := v__law_states) rfl)))))) rfl (fun v_law_places_2 => (ts_ret (tr_op (o_eqD (d := (dL (dP dN (dT dN))))) (tr_lnD (tr_var (R := (fLn (fD K (dP dN (dT dN))))) (a := v_law_places_2) rfl)) (tr_cb c_sortedPl (ta_one (tr_lnD (tr_var (R := (fLn (fD K (dP dN (dT dN))))) (a := v_law_places_2) rfl)))))))), ?_⟩
  rintro Q ⟨vs0, F0, hv⟩ hs
  try delta pur
  try dsimp only at hs hv ⊢
  obtain ⟨⟨h1, h2⟩, h3, q⟩ := hs
  refine ⟨by omega, lcW_map (h := placeOf v__law_states) (fun k hk Q hQ => ⟨h2 k hk, hQ⟩) ?_⟩
  rw [sortD_pl h3, decide_eq_true rfl]
  exact q
abbrev s__law_turned : Stmt := topS 40
abbrev N__law_turned : List Str := ["_law_pot", "_law_found"]
theorem sc__law_turned : FnScope N__law_turned ["_law_pot", "_law_found"] (defScope s__law_turned) := ⟨rfl, rfl, rfl, by decide +kernel, rfl, by decide +kernel, by decide +kernel⟩
theorem ok__law_turned {f : Addr} {fd : FuncData} (B : Bf mg) (c_law_shuffled_1 : Gf P w K mg base 2 "_law_shuffled" (SpN (fun g : Unit × (List ((Nat × (List (Option Nat))) × Nat)) => [(fCk 3) g.1, (fLn (fP K (fD K (dP dN (dT dO))) (fD K dN))) g.2]) spPerm (fLn (fP K (fD K (dP dN (dT dO))) (fD K dN))))) (F : Fun K "_law_turned" "_law_turned" s__law_turned f fd) (hm : mg "_law_turned" = some (.ref f)) (b : Binds K fd ["_law_pot", "_law_found"] []) : Gf P w K mg base 3 "_law_turned" (SpO (fun g : Unit × (List ((Nat × (List (Option Nat))) × Nat)) => [(fCk 3) g.1, (fDKZ K P w (dP dN (dT dO)) (fD K dN)) g.2]) (fun (g : Unit × List (Mvk × Nat)) (Q : List (Mvk × Nat) → Prop) => (g.2.length ≤ 900 ∧ (g.2.map (·.1)).Nodup) ∧ ∀ ps : List (Mvk × Nat), ps.Perm g.2 → Q ps) (ownDP K P w (dP dN (dT dO)) (fD K dN))) := by
  refine gw_mkO F hm b sc__law_turned (fun _ => rfl) (fun _ => inferInstance) fun cdv A outer s H E g hr => ?_
  obtain ⟨v__law_pot, v__law_found⟩ := g
  refine ⟨_, (pss_one (ps_ret (Sn.p_dictPN rfl hr B (pa_cons (p_call c_law_shuffled_1 hr (by decide) (pa_cons (pv 0) (pa_cons (Sn.p_itemsL K P w rfl B (pv 1)) pa_nil))) pa_nil)))), _,
    (tm_dictPN (d := (dP dN (dT dO))) (R := (fD K dN)) (by decide) (tr_call (ta_cons (tr_var (R := (fCk 3)) (a := v__law_pot) rfl) (ta_one (tr_itemsL (d := (dP dN (dT dO))) (tr_var (R := (fDKZ K P w (dP dN (dT dO)) (fD K dN))) (a := v__law_found) rfl)))))), ?_⟩
  rintro Q ⟨vs0, F0, hv⟩ hs
  try delta pur
  try dsimp only [spPerm] at hs hv ⊢
  obtain ⟨⟨hl, nd⟩, q⟩ := hs
  refine ⟨hl, fun ys hy => ⟨(hy.map _).nodup_iff.mpr nd, by rw [hy.length_eq]; omega, q ys hy⟩⟩
theorem ok__law_turned_v1 {f : Addr} {fd : FuncData} (B : Bf mg) (c_law_shuffled_2 : Gf P w K mg base 2 "_law_shuffled" (SpN (fun g : Unit × (List (Nat × Nat)) => [(fCk 3) g.1, (fLn (fD K (dP dN dN))) g.2]) spPerm (fLn (fD K (dP dN dN))))) (F : Fun K "_law_turned" "_law_turned" s__law_turned f fd) (hm : mg "_law_turned" = some (.ref f)) (b : Binds K fd ["_law_pot", "_law_found"] []) : Gf P w K mg base 3 "_law_turned" (SpO (fun g : Unit × (List (Nat × Nat)) => [(fCk 3) g.1, (fDZ dN (fD K dN)) g.2]) (fun (g : Unit × List (Nat × Nat)) (Q : List (Nat × Nat) → Prop) => (g.2.length ≤ 900 ∧ (g.2.map (·.1)).Nodup) ∧ ∀ ps : List (Nat × Nat), ps.Perm g.2 → Q ps) (ownDI dN (fD K dN))) := by
  refine gw_mkO F hm b sc__law_turned (fun _ => rfl) (fun _ => inferInstance) fun cdv A outer s H E g hr => ?_
  obtain ⟨v__law_pot, v__law_found⟩ := g
  refine ⟨_, (pss_one (ps_ret (p_dictP rfl B (pa_cons (p_call c_law_shuffled_2 hr (by decide) (pa_cons (pv 0) (pa_cons (Sn.p_itemsI rfl B (pv 1)) pa_nil))) pa_nil)))), _,
    (tm_dictP (d := dN) (tr_call (ta_cons (tr_var (R := (fCk 3)) (a := v__law_pot) rfl) (ta_one (tr_itemsI (tr_var (R := (fDZ dN (fD K dN))) (a := v__law_found) rfl)))))), ?_⟩
  rintro Q ⟨vs0, F0, hv⟩ hs
  try delta pur
  try dsimp only [spPerm] at hs hv ⊢
  obtain ⟨⟨hl, nd⟩, q⟩ := hs
  refine ⟨hl, fun ys hy => ?_⟩
  rw [putsA_new (kvs := []) (by rw [List.nil_append]; exact (hy.map _).nodup_iff.mpr nd)]
  exact q ys hy
end
end Wb

/-! programs: their parts -/
namespace Wb
open PySem PySem.Spec PyProof.Rows L2 SlX StX Rs Ma Sn Tw
variable [Rs.Tabz]
section
variable {P : Program} {w : World} {K : PySem.W.Frag} {mg : Str → Option Value} {base : Heap} {C_Web C_Pool C_Program : Addr}
theorem tag_mem {γ : Type} {D : Addr} {fam : γ → VP} {g : γ} {F : Hp} {x : Option (Option V)} (hf : ∀ g v F, fam g v F → ∃ D o, v = V.ref D ∧ F D = some o) (h : ∃ v, x = some (some v) ∧ tagR D fam g v F ∧ Mono (tagR D fam g)) : ∃ o, F D = some o := by
  obtain ⟨v, _, ⟨e, h1⟩, _⟩ := h
  obtain ⟨D', o, e', h2⟩ := hf _ _ _ h1
  subst e; cases e'
  exact ⟨o, h2⟩
theorem prog_ofX {Ds : List Addr} {p : Prg} {F : Hp} {a dx : Addr} {vs : List (Option V)} {v1 v2 v3 v4 v5 : V} (ok : PrOk p) (h1 : F a = some (SlO a C_Program dx vs)) (h2 : F dx = some (.xd [])) (g : Got [2, 4, 3, 1, 0] [v1, v2, v3, v4, v5] vs)
    (r1 : fD K dN p.size v1 F) (r2 : fD K dN p.states v2 F) (r3 : fD K (dT (dT dN)) p.starts v3 F) (r4 : newR Ds (fDKZ K P w (dP dN (dT dO)) (fD K dN)) p.moves v4 F) (r5 : newR Ds (fDZ dN (fD K dN)) p.decs v5 F) :
    progX C_Program K P w Ds p (.ref a) F := ⟨ok, a, dx, vs, [v1, v2, v3, v4, v5], rfl, h1, h2, g, r1, r2, r3, r4, r5, True.intro⟩
theorem ok_sorted_movesO {f : Addr} {fd : FuncData} (B : Bf mg) (c_first_of : Gf P w K mg base 1 "first_of" (SpN (fun g : (PyData × PyData) => [(fD K (dP dA dA)) g]) (fun (g : PyData × PyData) (Q : PyData → Prop) => Q g.1) (fD K dA))) (c_place_of_move : Gf P w K mg base 1 "place_of_move" (SpN (fun g : (Nat × (List (Option Nat))) × Nat => [(fD K (dP dN (dT dO))) g.1, (fD K dN) g.2]) (fun (g : Mvk × Nat) (Q : Nat × List Nat → Prop) => g.1.2.length ≤ 5 ∧ Q (placeOf g.2 g.1)) (fD K (dP dN (dT dN))))) (F : Fun K "sorted_moves" "sorted_moves" s_sorted_moves f fd) (hm : mg "sorted_moves" = some (.ref f)) (b : Binds K fd ["moves", "states"] []) : Gf P w K mg base 3 "sorted_moves" (SpO (fun g : (List ((Nat × (List (Option Nat))) × Nat)) × Nat => [(fDKZ K P w (dP dN (dT dO)) (fD K dN)) g.1, (fD K dN) g.2]) (fun (g : List (Mvk × Nat) × Nat) (Q : List (Mvk × Nat) → Prop) => (g.1.length ≤ 1000 ∧ (g.1.map (·.1)).Nodup ∧ ∀ x ∈ g.1, x.1.2.length ≤ 5) ∧ Q (sortMoves g.2 g.1)) (ownDP K P w (dP dN (dT dO)) (fD K dN))) := by
  refine gw_mkQ F hm b sc_sorted_moves (fun _ => rfl) (fun _ => inferInstance) fun cdv A outer s H E g hr => ?_
  obtain ⟨ff_first_of, h_first_of⟩ := Sn.gf_at c_first_of
  obtain ⟨v_moves, v_states⟩ := g
  refine ⟨_, (pss_cons (ps_set (i := 2) sc_sorted_moves.nd rfl (by first | exact Or.inl rfl | exact Or.inr rfl) (p_sortF h_first_of K hr (by decide) B (pa_cons (pe_lc (own := [("key", 3)]) (g := gName 3) (tt := tYes) rfl sc_sorted_moves.nd (pi_keysN P w (pv 0)) (blkOk_by (N := N_sorted_moves) (sc := defScope s_sorted_moves) (by decide +kernel)) (fun _ _ _ _ _ => (pg_name (i := 3) sc_sorted_moves.nd rfl (by first | exact Or.inl rfl | exact Or.inr rfl))) (fun _ _ _ _ _ => pts_nil) (fun _ _ _ _ _ => by exact (pe_tup (pa_cons (p_call c_place_of_move hr (by decide) (pa_cons (pv 3) (pa_cons (pv 1) pa_nil))) (pa_cons (pv 3) pa_nil))))) pa_nil)))
    (pss_one (ps_ret (pe_dcK (own := [("place", 4), ("key", 3)]) (g := gTup K 2 (gCons (gName 4) (gCons (gName 3) gNil))) (tt := tYes) rfl hr.units sc_sorted_moves.nd (pi_list (pv 2)) (blkOk_by (N := N_sorted_moves) (sc := defScope s_sorted_moves) (by decide +kernel)) (fun _ _ _ _ _ => (pg_tup rfl (pgs_cons (pg_name (i := 4) sc_sorted_moves.nd rfl (by first | exact Or.inl rfl | exact Or.inr rfl)) (pgs_cons (pg_name (i := 3) sc_sorted_moves.nd rfl (by first | exact Or.inl rfl | exact Or.inr rfl)) pgs_nil)))) (fun _ _ _ _ _ => pts_nil) (fun _ _ _ _ _ => by exact (pv 3)) (fun _ _ _ _ _ => by exact (p_ixNK K P w hr.units (pv 0) (pv 3) (fun _ _ => rfl))))))), _,
    (tq_set (R := (fD K (dL (dP (dP dN (dT dN)) (dP dN (dT dO)))))) 2 (tr_sortF (dv := (dP dN (dT dO))) (tr_lnD (tr_lc (vs := [3]) (Rd := (fD K (dP (dP dN (dT dN)) (dP dN (dT dO))))) (ti_keysN (d := (dP dN (dT dO))) (tr_var (R := (fDKZ K P w (dP dN (dT dO)) (fD K dN))) (a := v_moves) rfl)) (tg_name (R := (fD K (dP dN (dT dO)))) 3) rfl rfl rfl (fun _ => rfl) (fun x1 => tt_yes) (fun x1 => (tr_pD (tr_pair (tr_call (ta_cons (tr_var (R := (fD K (dP dN (dT dO)))) (a := x1) rfl) (ta_one (tr_var (R := (fD K dN)) (a := v_states) rfl)))) (tr_var (R := (fD K (dP dN (dT dO)))) (a := x1) rfl))))))) rfl (fun v_rows_2 => (tq_ret (tm_dcN (d := (dP dN (dT dO))) (vs := [4, 3]) (Rb := (fD K dN)) (by decide) (ti_lstD (tr_var (R := (fD K (dL (dP (dP dN (dT dN)) (dP dN (dT dO)))))) (a := v_rows_2) rfl)) (tg_pairD (tg_name (R := (fD K (dP dN (dT dN)))) 4) (tg_name (R := (fD K (dP dN (dT dO)))) 3)) rfl rfl rfl (fun _ => rfl) (fun x3 => tt_yes) (fun x3 => (tr_var (R := (fD K (dP dN (dT dO)))) (a := x3.2) rfl)) (fun x3 => (tr_op (o_ixDP (d := (dP dN (dT dO)))) (tr_ZK (tr_var (R := (fDKZ K P w (dP dN (dT dO)) (fD K dN))) (a := v_moves) rfl)) (tr_var (R := (fD K (dP dN (dT dO)))) (a := x3.2) rfl))))))), ?_⟩
  rintro Q ⟨vs0, F0, hv⟩ hs
  try delta pur
  try dsimp only at hs hv ⊢
  obtain ⟨⟨hl, hn, h5⟩, q⟩ := hs
  have hlk : (v_moves.map (·.1)).length ≤ 1000 := by rw [List.length_map]; exact hl
  refine ⟨by omega, lcW_map (h := fun k => (placeOf v_states k, k)) (fun k hk Q hQ => ?_) ?_⟩
  · obtain ⟨x, hx, rfl⟩ := List.mem_map.mp hk
    exact ⟨h5 x hx, hQ⟩
  have e1 : sortPl ((v_moves.map (·.1)).map fun k => (placeOf v_states k, k)) = (sortPl (v_moves.map fun x => (placeOf v_states x.1, x))).map fun r => (r.1, r.2.1) := by
    have : ((v_moves.map (·.1)).map fun k => (placeOf v_states k, k)) = (v_moves.map fun x => (placeOf v_states x.1, x)).map fun r => (r.1, r.2.1) := by
      rw [List.map_map, List.map_map]; rfl
    rw [this, sortPl, sortPl, List.map_mergeSort]
    intro a ha b hb
    rfl
  rw [e1]
  have pm := sortMoves_perm (states := v_states) (mv := v_moves)
  refine ⟨by rw [List.length_map, sortPl_perm.length_eq, List.length_map]; omega, lcW_of (f := fun _ => true) (h := fun r => (r.2, (getA v_moves r.2).getD 0)) (fun _ _ _ q => q) (fun r hr _ Q hQ => ?_) ?_⟩
  · obtain ⟨z, hz, rfl⟩ := List.mem_map.mp hr
    obtain ⟨x, hx, rfl⟩ := List.mem_map.mp (sortPl_perm.mem_iff.mp hz)
    have e := getA_of hn hx
    refine ⟨_, e, ?_⟩
    dsimp only at hQ
    rw [e] at hQ
    exact hQ
  · rw [List.filter_eq_self.mpr fun _ _ => rfl, List.map_map]
    have e2 : (sortPl (v_moves.map fun x => (placeOf v_states x.1, x))).map ((fun r : (Nat × List Nat) × Mvk => (r.2, (getA v_moves r.2).getD 0)) ∘ fun r => (r.1, r.2.1)) = sortMoves v_states v_moves := by
      refine List.map_congr_left fun z hz => ?_
      obtain ⟨x, hx, rfl⟩ := List.mem_map.mp (sortPl_perm.mem_iff.mp hz)
      show (x.1, (getA v_moves x.1).getD 0) = x
      rw [getA_of hn hx]; rfl
    rw [e2, putsA_new (kvs := []) (by rw [List.nil_append]; exact (pm.map _).nodup_iff.mpr hn)]
    exact q
-- Program.__init__: 0:self 1:size 2:states 3:starts 4:moves 5:decisions 6:state
theorem ok_prog_initT {f : Addr} {fd : FuncData} (B : Bf mg) (W_prog : ProgK K C_Program) (g_MAX_HOUSES : GInt mg "MAX_HOUSES" 5) (g_MAX_STATES : GInt mg "MAX_STATES" 400) (c_is_between : Gf P w K mg base 2 "is_between" (SpN (fun g : PyData × Int × Int => [(fD K dA) g.1, (fD K dInt) g.2.1, (fD K dInt) g.2.2]) (fun (g : PyData × Int × Int) (Q : Bool → Prop) => Q (btI g.1 g.2.1 g.2.2)) (fD K dB))) (c_are_parts : Gf P w K mg base 6 "are_parts" (SpN (fun g : Nat × Nat × (List (List Nat)) × (List ((Nat × (List (Option Nat))) × Nat)) × (List (Nat × Nat)) => [(fD K dN) g.1, (fD K dN) g.2.1, (fD K (dT (dT dN))) g.2.2.1, (fDKZ K P w (dP dN (dT dO)) (fD K dN)) g.2.2.2.1, (fDZ dN (fD K dN)) g.2.2.2.2]) (fun (g : Nat × Nat × Rows × List (Mvk × Nat) × List (Nat × Nat)) (Q : Bool → Prop) => RawOk g ∧ Q true) (fD K dB))) (c_sorted_moves : Gf P w K mg base 3 "sorted_moves" (SpO (fun g : (List ((Nat × (List (Option Nat))) × Nat)) × Nat => [(fDKZ K P w (dP dN (dT dO)) (fD K dN)) g.1, (fD K dN) g.2]) (fun (g : List (Mvk × Nat) × Nat) (Q : List (Mvk × Nat) → Prop) => (g.1.length ≤ 1000 ∧ (g.1.map (·.1)).Nodup ∧ ∀ x ∈ g.1, x.1.2.length ≤ 5) ∧ Q (sortMoves g.2 g.1)) (ownDP K P w (dP dN (dT dO)) (fD K dN)))) (F : Fun K "__init__" "Program.__init__" s_Programu__initu_ f fd) :
    FnOk P w K mg base CX0 8 f fd ["self", "size", "states", "starts", "moves", "decisions"] (spProgT C_Program K P w) := by
  refine init_ok F sc_Programu__initu_ (fun _ => rfl) fun cdv A outer s H E g a dx vs F0 hr ok hv => ?_
  obtain ⟨⟨v_size, v_states, v_starts, v_moves, v_decisions⟩, D1, D2⟩ := g
  obtain ⟨v1, v2, v3, v4, v5, rfl, h1, h2, h3, h4, h5⟩ := each5 hv
  replace h4 : tagR D1 (fDKZ K P w (dP dN (dT dO)) (fD K dN)) v_moves v4 F0 := h4
  replace h5 : tagR D2 (fDZ dN (fD K dN)) v_decisions v5 F0 := h5
  replace ok : RawOk (v_size, v_states, v_starts, v_moves, v_decisions) := ok
  refine ⟨_, (pss_cons (ps_if (PW.pt (pw_or (pt_not (pt_val (p_call c_is_between hr (by decide) (pa_cons (pv 1) (pa_cons pe_int (pa_cons (p_gint g_MAX_HOUSES) pa_nil)))))) (pw_or1 (pt_not (pt_val (p_call c_is_between hr (by decide) (pa_cons (pv 2) (pa_cons pe_int (pa_cons (p_gint g_MAX_STATES) pa_nil)))))))))
        (pss_one ps_never)
        pss_nil)
      (pss_cons (ps_if (pt_not (pt_val (p_call c_are_parts hr (by decide) (pa_cons (pv 1) (pa_cons (pv 2) (pa_cons (pv 3) (pa_cons (pv 4) (pa_cons (pv 5) pa_nil))))))))
        (pss_one ps_never)
        pss_nil)
      (pss_cons (ps_sl (pv 0) (pv 1))
      (pss_cons (ps_sl (pv 0) (pv 2))
      (pss_cons (ps_sl (pv 0) (pv 3))
      (pss_cons (ps_sl (pv 0) (pe_lockV (p_call c_sorted_moves hr (by decide) (pa_cons (pv 4) (pa_cons (pv 2) pa_nil)))))
      (pss_one (ps_sl (pv 0) (pe_lockV (pe_dc (own := [("state", 6)]) (g := gName 6) (tt := tYes) rfl sc_Programu__initu_.nd (pi_list (p_sortedDI rfl B (pa_cons (pv 5) pa_nil))) (blkOk_by (N := N_Programu__initu_) (sc := defScope s_Programu__initu_) (by decide +kernel)) (fun _ _ _ _ _ => (pg_name (i := 6) sc_Programu__initu_.nd rfl (by first | exact Or.inl rfl | exact Or.inr rfl))) (fun _ _ _ _ _ => pts_nil) (fun _ _ _ _ _ => by exact (pv 6)) (fun _ _ _ _ _ => by exact (pe_dget (hu_of hr) (pv 5) (pv 6) (fun _ _ => rfl))))))))))))), ?_⟩
  have sv : SatV [none, some (fD K dN v_size), some (fD K dN v_states), some (fD K (dT (dT dN)) v_starts), some (tagR D1 (fDKZ K P w (dP dN (dT dO)) (fD K dN)) v_moves), some (tagR D2 (fDZ dN (fD K dN)) v_decisions), none] [some (.ref a), some v1, some v2, some v3, some v4, some v5, none] F0 := ⟨⟨v1, rfl, h1, inferInstance⟩, ⟨v2, rfl, h2, inferInstance⟩, ⟨v3, rfl, h3, inferInstance⟩, ⟨v4, rfl, h4, inferInstance⟩, ⟨v5, rfl, h5, inferInstance⟩, True.intro⟩
  have sv : SatV [none, some (fD K dN v_size), some (fD K dN v_states), some (fD K (dT (dT dN)) v_starts), some (tagR D1 (fDKZ K P w (dP dN (dT dO)) (fD K dN)) v_moves), some (tagR D2 (fDZ dN (fD K dN)) v_decisions), none] (start N_Programu__initu_ [.ref a, v1, v2, v3, v4, v5]) F0 := sv
  have hD : ∀ σ F, SatV [none, some (fD K dN v_size), some (fD K dN v_states), some (fD K (dT (dT dN)) v_starts), some (tagR D1 (fDKZ K P w (dP dN (dT dO)) (fD K dN)) v_moves), some (tagR D2 (fDZ dN (fD K dN)) v_decisions), none] σ F → ∀ D ∈ [D1, D2], ∃ o, F D = some o := fun σ F sv D hm => by
    simp only [List.mem_cons, List.not_mem_nil, or_false] at hm
    rcases hm with rfl | rfl
    · exact tag_mem (fun g v F h => by obtain ⟨D, o, zs, h1, h2, _⟩ := h; exact ⟨D, _, h1, h2⟩) (satV_get (i := 4) sv rfl)
    · exact tag_mem (fun g v F h => by obtain ⟨D, o, zs, h1, h2, _⟩ := h; exact ⟨D, _, h1, h2⟩) (satV_get (i := 5) sv rfl)
  refine q_if (b := false) (Run.weak (run0 (((tt_or (tt_not (tt_B (tr_call (ta_cons (tr_any (tr_var (R := (fD K dN)) (a := v_size) rfl)) (ta_cons (tr_int (K := K)) (ta_one (tr_ni (tr_nat (K := K) 5)))))))) (tt_not (tt_B (tr_call (ta_cons (tr_any (tr_var (R := (fD K dN)) (a := v_states) rfl)) (ta_cons (tr_int (K := K)) (ta_one (tr_ni (tr_nat (K := K) 400))))))))) : TrT Z0 _ [] _ _).run _ F0 _ sv True.intro (fun b => b = false) X0 ?_)) fun b F1 e h => h) (fun z => nomatch z) fun _ => q_next ?_
  · refine orW_of false false (fun P hP => ?_) (fun _ P hP => ?_) rfl
    · show P (!btI (dN v_size) ((1 : Nat) : Int) ((5 : Nat) : Int))
      rw [bt_in ok.sz.1 ok.sz.2 (by decide)]; exact hP
    · show P (!btI (dN v_states) ((1 : Nat) : Int) ((400 : Nat) : Int))
      rw [bt_in ok.st.1 ok.st.2 (by decide)]; exact hP
  refine q_if (b := false) (Run.weak (run0 (((tt_not (tt_B (tr_call (ta_cons (tr_var (R := (fD K dN)) (a := v_size) rfl) (ta_cons (tr_var (R := (fD K dN)) (a := v_states) rfl) (ta_cons (tr_var (R := (fD K (dT (dT dN)))) (a := v_starts) rfl) (ta_cons (tr_untag (tr_var (R := (tagR D1 (fDKZ K P w (dP dN (dT dO)) (fD K dN)))) (a := v_moves) rfl)) (ta_one (tr_untag (tr_var (R := (tagR D2 (fDZ dN (fD K dN)))) (a := v_decisions) rfl)))))))))) : TrT Z0 _ [] _ _).run _ F0 _ sv True.intro (fun b => b = false) X0 ?_)) fun b F1 e h => h) (fun z => nomatch z) fun _ => q_next ?_
  · exact ⟨ok, rfl⟩
  refine q_slW (R := fD K dN) W_prog.size .new rfl (tr_var (R := (fD K dN)) (a := v_size) rfl) sv (Q := fun x => x = v_size) rfl fun x1 w1 F1 e1 hx1 g1 => ?_
  refine q_slW (R := fD K dN) W_prog.states (.old _) rfl (tr_var (R := (fD K dN)) (a := v_states) rfl) (satV_up e1 sv) (Q := fun x => x = v_states) rfl fun x2 w2 F2 e2 hx2 g2 => ?_
  refine q_slW (R := fD K (dT (dT dN))) W_prog.starts (.old _) rfl (tr_var (R := (fD K (dT (dT dN)))) (a := v_starts) rfl) (satV_up (e1.trans e2) sv) (Q := fun x => x = v_starts) rfl fun x3 w3 F3 e3 hx3 g3 => ?_
  refine q_slW (R := newR [D1, D2] (fDKZ K P w (dP dN (dT dO)) (fD K dN))) W_prog.moves (.old _) rfl (tr_lockN [D1, D2] hD (ow := ownDP K P w (dP dN (dT dO)) (fD K dN)) (tm_call (ow := ownDP K P w (dP dN (dT dO)) (fD K dN)) (ta_cons (tr_untag (tr_var (R := (tagR D1 (fDKZ K P w (dP dN (dT dO)) (fD K dN)))) (a := v_moves) rfl)) (ta_one (tr_var (R := (fD K dN)) (a := v_states) rfl))))) (satV_up ((e1.trans e2).trans e3) sv) (Q := fun x => x = sortMoves v_states v_moves) ?_ fun x4 w4 F4 e4 hx4 g4 => ?_
  · refine ⟨⟨ok.moves.2.1, ok.moves.1, fun x hx => ?_⟩, rfl⟩
    have h9 := (ok.moves.2.2 x hx).2.1.1
    have h8 := ok.sz.2
    dsimp only at h9 h8
    omega
  refine s_slW (R := newR [D1, D2] (fDZ dN (fD K dN))) W_prog.decs (.old _) rfl (tr_lockN [D1, D2] hD (ow := ownDI dN (fD K dN)) (tm_dcI (d := dN) (vs := [6]) (Rb := (fD K dN)) (ti_lstD (tr_cb c_sortedDZ (ta_one (tr_ZI (tr_untag (tr_var (R := (tagR D2 (fDZ dN (fD K dN)))) (a := v_decisions) rfl)))))) (tg_name (R := (fD K dN)) 6) rfl rfl rfl (fun _ => rfl) (fun x1 => tt_yes) (fun x1 => (tr_var (R := (fD K dN)) (a := x1) rfl)) (fun x1 => (tr_dgetZ (tr_untag (tr_var (R := (tagR D2 (fDZ dN (fD K dN)))) (a := v_decisions) rfl)) (tr_var (R := (fD K dN)) (a := x1) rfl))))) (satV_up (((e1.trans e2).trans e3).trans e4) sv) (Q := fun x => x = sortDecs v_decisions) ?_ fun x5 w5 F5 e5 hx5 g5 => ?_
  · obtain ⟨d1, d2, d3⟩ := ok.decs
    dsimp only at d1 d2 d3
    refine ⟨d2, ?_, lcW_map (h := fun s => (s, (getA v_decisions s).getD 0)) (fun s hs Q hQ => ?_) ?_⟩
    · rw [sortN_perm.length_eq, List.length_map]; omega
    · obtain ⟨p, hp, rfl, e⟩ := key_at_mem d1 (sortN_perm.mem_iff.mp hs)
      refine ⟨_, e, ?_⟩
      rw [e] at hQ
      exact hQ
    · exact putsA_new (kvs := []) (by rw [List.nil_append]; exact ((sortDecs_perm d1).map _).nodup_iff.mpr d1)
  subst hx1 hx2 hx3 hx4 hx5
  refine ⟨_, _, rfl, fun G e o1 o2 => prog_ofX (mkP_ok ok) o1 o2 (((((got_nil.put (by decide)).put (by decide)).put (by decide)).put (by decide)).put (by decide)) (Mono.go g1 ((((e2.trans e3).trans e4).trans e5).trans e)) (Mono.go g2 (((e3.trans e4).trans e5).trans e)) (Mono.go g3 ((e4.trans e5).trans e)) (Mono.go g4 (e5.trans e)) (Mono.go g5 e)⟩
end
end Wb

/-! k35: what a drawn program tells -/
namespace Wb
open PySem PySem.Spec PyProof.Rows L2 SlX StX Rs Ma Sn Tw
variable [Rs.Tabz]
theorem eqA_refl {α : Type} [DecidableEq α] {ps : List (α × Nat)} (hn : (ps.map (·.1)).Nodup) : eqA ps ps = true := eqA_iff.mpr ⟨rfl, fun p hp => getA_of hn hp⟩
theorem eqA_perm {α : Type} [DecidableEq α] {ps ps' qs qs' : List (α × Nat)} (h : ps.Perm ps') (h2 : qs.Perm qs') (hn : (qs'.map (·.1)).Nodup) : eqA ps qs = eqA ps' qs' := by
  rw [Bool.eq_iff_iff, eqA_iff, eqA_iff, h.length_eq, h2.length_eq]
  refine and_congr Iff.rfl ⟨fun z p hp => ?_, fun z p hp => ?_⟩
  · rw [← getA_perm h2 hn]; exact z p (h.mem_iff.mpr hp)
  · rw [getA_perm h2 hn]; exact z p (h.mem_iff.mp hp)
theorem eqA_one {α : Type} [DecidableEq α] {ps qs ms : List (α × Nat)} (h : ps.Perm ms) (h2 : qs.Perm ms) (hn : (ms.map (·.1)).Nodup) : eqA ps qs = true := by
  rw [eqA_perm h h2 hn]; exact eqA_refl hn
theorem letB_perm {ds ds' : List (Nat × Nat)} (h : ds.Perm ds') (hn : (ds'.map (·.1)).Nodup) (s t : Nat) : letB ds s t = letB ds' s t := by
  unfold letB
  rw [getA_perm h hn, getA_perm h hn]
theorem raw_perm {n st : Nat} {ss : Rows} {ms ms' : List (Mvk × Nat)} {ds ds' : List (Nat × Nat)} (h : RawOk (n, st, ss, ms, ds)) (pm : ms'.Perm ms) (pd : ds'.Perm ds) : RawOk (n, st, ss, ms', ds') := by
  obtain ⟨h1, h2, h3, ⟨m1, m2, m3⟩, ⟨d1, d2, d3⟩⟩ := h
  dsimp only at h1 h2 h3 m1 m2 m3 d1 d2 d3
  refine ⟨h1, h2, h3, ⟨(pm.map _).nodup_iff.mpr m1, by dsimp only; rw [pm.length_eq]; exact m2, fun x hx => ?_⟩, ⟨(pd.map _).nodup_iff.mpr d1, by dsimp only; rw [pd.length_eq]; exact d2, fun p hp => d3 p (pd.mem_iff.mp hp)⟩⟩
  obtain ⟨a, b, c, d⟩ := m3 x (pm.mem_iff.mp hx)
  exact ⟨a, b, c, by dsimp only; rw [letB_perm pd d1]; exact d⟩
/-- one state more -/
theorem raw_wide {n st : Nat} {ss : Rows} {ms : List (Mvk × Nat)} {ds : List (Nat × Nat)} (h : RawOk (n, st, ss, ms, ds)) (hs : st < 400) : RawOk (n, st + 1, ss, ms, ds) := by
  obtain ⟨h1, h2, ⟨s1, s2⟩, ⟨m1, m2, m3⟩, ⟨d1, d2, d3⟩⟩ := h
  dsimp only at h1 h2 s1 s2 m1 m2 m3 d1 d2 d3
  refine ⟨h1, ⟨by dsimp only; omega, by dsimp only; omega⟩, ⟨s1, fun p hp => ⟨(s2 p hp).1, fun x hx => Nat.lt_succ_of_lt ((s2 p hp).2 x hx)⟩⟩, ⟨m1, m2, fun x hx => ?_⟩, ⟨d1, d2, fun p hp => ⟨Nat.lt_succ_of_lt (d3 p hp).1, (d3 p hp).2⟩⟩⟩
  obtain ⟨a, ⟨b1, b2, b3⟩, c, d⟩ := m3 x hx
  exact ⟨Nat.lt_succ_of_lt a, ⟨b1, fun y hy => Nat.lt_succ_of_lt (b2 y hy), b3⟩, Nat.lt_succ_of_lt c, d⟩
theorem moves_asc {st : Nat} {ms : List (Mvk × Nat)} : (((sortMoves st ms).map (·.1)).map (placeOf st)).Pairwise (fun a b => plLe a b = true) := by
  unfold sortMoves
  rw [List.map_map, List.map_map]
  have e : (sortPl (ms.map fun x => (placeOf st x.1, x))).map ((placeOf st ∘ fun x : Mvk × Nat => x.1) ∘ fun x => x.2) = (sortPl (ms.map fun x => (placeOf st x.1, x))).map (·.1) := by
    refine List.map_congr_left fun z hz => ?_
    obtain ⟨x, _, rfl⟩ := List.mem_map.mp (sortPl_perm.mem_iff.mp hz)
    rfl
  rw [e]
  exact List.pairwise_map.mpr sortPl_asc
theorem decs_keys {ds ds' : List (Nat × Nat)} (h : ds'.Perm ds) : (sortDecs ds').map (·.1) = sortN (ds.map (·.1)) := by
  unfold sortDecs
  rw [List.map_map, show ((fun x : Nat × Nat => x.1) ∘ fun s => (s, (getA ds' s).getD 0)) = id from rfl, List.map_id]
  exact (sortN_eq sortN_asc (sortN_perm.trans (h.map _))).symm
theorem says_up {d : PyData} {n w n' w' : Nat} (h : Says d n w) (hn : n ≤ n') (hw : w ≤ w') : Says d n' w' := ⟨h.sh, h.nd, Nat.le_trans h.dp hn, h.lv, Nat.le_trans h.wt hw⟩
theorem say_head {n st : Nat} {ss : Rows} (hn : n ≤ 5) (hst : st ≤ 400) (hs : StartsOk n st ss) : Sayable (dM3 dN dN (dT (dT dN)) (n, st, ss)) := by
  obtain ⟨s1, s2⟩ := hs
  have hss : Says (dT (dT dN) ss) 2 15 := says_T (w := 2) (m := 5) (fun p hp => says_T (w := 0) (m := 2) (fun x hx => says_N (by have := (s2 p hp).2 x hx; omega)) (Nat.le_of_eq (s2 p hp).1)) (by omega)
  refine Says.ok (n := 3) (w := 3 * 16) (says_L (d := dA) (w := 15) (m := 3) (xs := [dN n, dN st, dT (dT dN) ss]) (fun x hx => ?_) (Nat.le_refl _)) (by decide) (by decide)
  show Says x 2 15
  simp only [List.mem_cons, List.not_mem_nil, or_false] at hx
  rcases hx with rfl | rfl | rfl
  · exact says_up (says_N (by omega)) (by decide) (by decide)
  · exact says_up (says_N (by omega)) (by decide) (by decide)
  · exact hss
section
variable {P : Program} {w : World} {K : PySem.W.Frag} {mg : Str → Option Value} {base : Heap} {C_Program C_Web C_Pool : Addr}
abbrev s__law_right : Stmt := topS 41
abbrev N__law_right : List Str := ["_law_pot", "_law_size", "_law_states", "_law_starts", "_law_moves_here", "_law_decisions", "_law_mine", "_law_own", "_law_program", "_law_again", "_law_told", "_law_key_here", "_law_turn", "_law_other", "_law_wide", "_law_text"]
theorem sc__law_right : FnScope N__law_right ["_law_pot"] (defScope s__law_right) := ⟨rfl, rfl, rfl, by decide +kernel, rfl, by decide +kernel, by decide +kernel⟩
theorem ok__law_right {f : Addr} {fd : FuncData} (B : Bf mg) (c_law_dip : Gf P w K mg base 1 "_law_dip" (SpN (fun g : Unit × Nat => [(fCk 3) g.1, (fD K dN) g.2]) (fun (g : Unit × Nat) (Q : Nat → Prop) => (1 ≤ g.2 ∧ g.2 ≤ 1000) ∧ ∀ n, n < g.2 → Q n) (fD K dN))) (c_law_parts : Gf P w K mg base 7 "_law_parts" (SpN (fun g : Unit × Nat × Nat × Nat => [(fCk 3) g.1, (fD K dN) g.2.1, (fD K dN) g.2.2.1, (fD K dN) g.2.2.2]) (fun (g : Unit × Nat × Nat × Nat) (Q : Nat × Rows × List (Mvk × Nat) × List (Nat × Nat) → Prop) => (1 ≤ g.2.1 ∧ g.2.1 ≤ 5 ∧ 1 ≤ g.2.2.1 ∧ g.2.2.1 ≤ 49 ∧ g.2.2.2 ≤ 900) ∧ ∀ p : Nat × Rows × List (Mvk × Nat) × List (Nat × Nat), RawOk (g.2.1, p) → p.1 ≤ g.2.2.1 → p.2.2.1.length ≤ g.2.2.2 → Q p) (fun g : (Nat × (List (List Nat)) × (List ((Nat × (List (Option Nat))) × Nat)) × (List (Nat × Nat))) => Ln [(fD K dN) g.1, (fD K (dT (dT dN))) g.2.1, (fDKZ K P w (dP dN (dT dO)) (fD K dN)) g.2.2.1, (fDZ dN (fD K dN)) g.2.2.2]))) (c_law_turned : Gf P w K mg base 3 "_law_turned" (SpO (fun g : Unit × (List ((Nat × (List (Option Nat))) × Nat)) => [(fCk 3) g.1, (fDKZ K P w (dP dN (dT dO)) (fD K dN)) g.2]) (fun (g : Unit × List (Mvk × Nat)) (Q : List (Mvk × Nat) → Prop) => (g.2.length ≤ 900 ∧ (g.2.map (·.1)).Nodup) ∧ ∀ ps : List (Mvk × Nat), ps.Perm g.2 → Q ps) (ownDP K P w (dP dN (dT dO)) (fD K dN)))) (c_law_turned_1 : Gf P w K mg base 3 "_law_turned" (SpO (fun g : Unit × (List (Nat × Nat)) => [(fCk 3) g.1, (fDZ dN (fD K dN)) g.2]) (fun (g : Unit × List (Nat × Nat)) (Q : List (Nat × Nat) → Prop) => (g.2.length ≤ 900 ∧ (g.2.map (·.1)).Nodup) ∧ ∀ ps : List (Nat × Nat), ps.Perm g.2 → Q ps) (ownDI dN (fD K dN)))) (c_ProgramT : MkF P w K mg base 8 "Program" C_Program (spProgT C_Program K P w)) (c_prog_size : PrpS P w K mg base 1 C_Program "size" (SpN (fun g : Prg => [(progP C_Program K P w) g]) (fun (g : Prg) (Q : Nat → Prop) => Q g.size) (fD K dN))) (c_prog_states : PrpS P w K mg base 1 C_Program "states" (SpN (fun g : Prg => [(progP C_Program K P w) g]) (fun (g : Prg) (Q : Nat → Prop) => Q g.states) (fD K dN))) (c_prog_starts : PrpS P w K mg base 1 C_Program "starts" (SpN (fun g : Prg => [(progP C_Program K P w) g]) (fun (g : Prg) (Q : Rows → Prop) => Q g.starts) (fD K (dT (dT dN))))) (c_prog_moves : PrpS P w K mg base 2 C_Program "moves" (SpO (fun g : Prg => [(progP C_Program K P w) g]) (fun (g : Prg) (Q : List (Mvk × Nat) → Prop) => (PrOk g ∧ g.size ≤ 4 ∧ g.states ≤ 6) ∧ Q g.moves) (ownDP K P w (dP dN (dT dO)) (fD K dN)))) (c_prog_decisions : PrpS P w K mg base 2 C_Program "decisions" (SpO (fun g : Prg => [(progP C_Program K P w) g]) (fun (g : Prg) (Q : List (Nat × Nat) → Prop) => Q g.decs) (ownDI dN (fD K dN)))) (c_law_is_rising : Gf P w K mg base 2 "_law_is_rising" (SpN (fun g : (List (Nat × (List (Option Nat)))) × Nat => [(fD K (dL (dP dN (dT dO)))) g.1, (fD K dN) g.2]) (fun (g : List Mvk × Nat) (Q : Bool → Prop) => (g.1.length < 64 ∧ ∀ k ∈ g.1, k.2.length ≤ 5) ∧ (g.1.map (placeOf g.2)).Pairwise (fun a b => plLe a b = true) ∧ Q true) (fD K dB))) (c_law_key : Gf P w K mg base 4 "_law_key" (SpN (fun g : Unit × Nat × Nat => [(fCk 3) g.1, (fD K dN) g.2.1, (fD K dN) g.2.2]) (fun (g : Unit × Nat × Nat) (Q : Mvk → Prop) => (1 ≤ g.2.1 ∧ g.2.1 ≤ 5 ∧ 1 ≤ g.2.2 ∧ g.2.2 ≤ 50) ∧ ∀ k : Mvk, k.1 < g.2.2 → HearOk g.2.1 g.2.2 k.1 k.2 → Q k) (fD K (dP dN (dT dO))))) (c_prog_after : MetS P w K mg base 6 C_Program "after" (SpN (fun g : Prg × Nat × (List (Option Nat)) => [(progP C_Program K P w) g.1, (fD K dN) g.2.1, (fD K (dT dO)) g.2.2]) (fun (g : Prg × Nat × Hrd) (Q : Nat → Prop) => (PrOk g.1 ∧ g.2.1 < g.1.states ∧ HearOk g.1.size g.1.states g.2.1 g.2.2) ∧ Q ((getA g.1.moves (g.2.1, g.2.2)).getD g.2.1)) (fD K dN))) (c_law_made : Gf P w K mg base 10 "_law_made" (SpN (fun g : Nat × (Nat × (List (List Nat)) × (List ((Nat × (List (Option Nat))) × Nat)) × (List (Nat × Nat))) => [(fD K dN) g.1, (fun g : (Nat × (List (List Nat)) × (List ((Nat × (List (Option Nat))) × Nat)) × (List (Nat × Nat))) => Ln [(fD K dN) g.1, (fD K (dT (dT dN))) g.2.1, (fDKZ K P w (dP dN (dT dO)) (fD K dN)) g.2.2.1, (fDZ dN (fD K dN)) g.2.2.2]) g.2]) (fun (g : Nat × Nat × Rows × List (Mvk × Nat) × List (Nat × Nat)) (Q : Prg → Prop) => RawOk g ∧ Q (mkP g)) (progP C_Program K P w))) (N_prog : NoD K C_Program) (c_prog_eqD : EqS P w K mg base 2 C_Program (SpN (fun g : Prg × PyData => [(progP C_Program K P w) g.1, (fD K dA) g.2]) (fun (g : Prg × PyData) (Q : Bool → Prop) => Q false) (fD K dB))) (nf_prog : PySem.W.notFirst K C_Program (.ref C_Program) = true) (c_prog_eq : EqS P w K mg base 2 C_Program (SpN (fun g : Prg × Prg => [(progP C_Program K P w) g.1, (progP C_Program K P w) g.2]) (fun (g : Prg × Prg) (Q : Bool → Prop) => Q (eqP g.1 g.2)) (fD K dB))) (c_is_program : Gf P w K mg base 7 "is_program" (SpN (fun g : Nat × Nat × ((List (List Nat)) × (List ((Nat × (List (Option Nat))) × Nat)) × (List (Nat × Nat))) => [(fD K dN) g.1, (fD K dN) g.2.1, (fT3 K (fD K (dT (dT dN))) (fDKZ K P w (dP dN (dT dO)) (fD K dN)) (fDZ dN (fD K dN))) g.2.2]) (fun (g : Nat × Nat × Rows × List (Mvk × Nat) × List (Nat × Nat)) (Q : Bool → Prop) => RawOk g ∧ Q true) (fD K dB))) (Bs : mg "str" = none) (c_prog_len : OwnS P w K mg base "__len__" 1 C_Program (SpN (fun g : Prg => [(progP C_Program K P w) g]) (fun (g : Prg) (Q : Nat → Prop) => Q g.moves.length) (fD K dN))) (c_prog_str : OwnS P w K mg base "__str__" 3 C_Program (SpN (fun g : Prg => [(progP C_Program K P w) g]) (fun (g : Prg) (Q : PySem.Str → Prop) => (PrOk g) ∧ Q (strP g)) (fD K dS))) (F : Fun K "_law_right" "_law_right" s__law_right f fd) (hm : mg "_law_right" = some (.ref f)) (b : Binds K fd ["_law_pot"] []) : GfG P w K mg base 13 "_law_right" (SpN (fun g : Unit => [(fCk 3) g]) (fun (g : Unit) (Q : Bool → Prop) => Q true) (fD K dB)) := by
  refine gwG_mk F hm b sc__law_right (fun _ => rfl) (fun _ => inferInstance) fun cdv A outer s H E g hgu hr => ?_
  obtain ⟨v__law_pot, hgen⟩ : ∃ x, x = g := ⟨g, rfl⟩
  subst hgen
  refine ⟨_, (pss_cons (ps_set (i := 1) sc__law_right.nd rfl (by first | exact Or.inl rfl | exact Or.inr rfl) (pe_op op_add pe_int (p_call c_law_dip hr (by decide) (pa_cons (pv 0) (pa_cons pe_int pa_nil)))))
    (pss_cons (ps_asg (p_call c_law_parts hr (by decide) (pa_cons (pv 0) (pa_cons (pv 1) (pa_cons pe_int (pa_cons pe_int pa_nil))))) (pg_lst rfl (pgs_cons (pg_name (i := 2) sc__law_right.nd rfl (by first | exact Or.inl rfl | exact Or.inr rfl)) (pgs_cons (pg_name (i := 3) sc__law_right.nd rfl (by first | exact Or.inl rfl | exact Or.inr rfl)) (pgs_cons (pg_name (i := 4) sc__law_right.nd rfl (by first | exact Or.inl rfl | exact Or.inr rfl)) (pgs_cons (pg_name (i := 5) sc__law_right.nd rfl (by first | exact Or.inl rfl | exact Or.inr rfl)) pgs_nil))))))
    (pss_cons (ps_par (i := 6) (j := 7) rfl sc__law_right.nd rfl rfl (by decide) rfl rfl (pa_cons (p_call c_law_turned hr (by decide) (pa_cons (pv 0) (pa_cons (pv 4) pa_nil))) (pa_cons (p_call c_law_turned_1 hr (by decide) (pa_cons (pv 0) (pa_cons (pv 5) pa_nil))) pa_nil)) (by rfl))
    (pss_cons (ps_set (i := 8) sc__law_right.nd rfl (by first | exact Or.inl rfl | exact Or.inr rfl) (Sn.pe_lend (Sn.pe_lend (p_mk c_ProgramT hr (by decide) (pa_cons (pv 1) (pa_cons (pv 2) (pa_cons (pv 3) (pa_cons (pv 6) (pa_cons (pv 7) pa_nil)))))))))
    (pss_cons (ps_expr (Sn.p_clearN K P w (pv 6)))
    (pss_cons (ps_expr (pe_dclear (pv 7)))
    (pss_cons (ps_for PassesOwn.never rfl (pi_range1 (by rfl) B.range (pa_cons pe_int pa_nil)) (pg_name (i := 9) sc__law_right.nd rfl (by first | exact Or.inl rfl | exact Or.inr rfl))
      (pss_cons (ps_set (i := 10) sc__law_right.nd rfl (by first | exact Or.inl rfl | exact Or.inr rfl) (pe_lst (pa_cons (p_prp c_prog_size hr (by decide) (pv 8)) (pa_cons (p_prp c_prog_states hr (by decide) (pv 8)) (pa_cons (p_prp c_prog_starts hr (by decide) (pv 8)) (pa_cons (p_prp c_prog_moves hr (by decide) (pv 8)) (pa_cons (p_prp c_prog_decisions hr (by decide) (pv 8)) pa_nil)))))))
      (pss_cons (ps_if (PW.pt (pw_or (pt_cmpR (op_neM K P w hr) (pv 10) (pe_lst (pa_cons (pv 1) (pa_cons (pv 2) (pa_cons (pv 3) (pa_cons (pv 4) (pa_cons (pv 5) pa_nil)))))) (nomark _)) (pw_or1 (pt_not (pt_val (p_call c_law_is_rising hr (by decide) (pa_cons (Sn.p_listDK rfl B (pa_cons (pe_ix ix_list (pv 10) pe_int (fun _ _ => rfl)) pa_nil)) (pa_cons (pv 2) pa_nil))))))))
        (pss_one (ps_ret pe_bl))
        pss_nil)
      (pss_cons (ps_if (PW.pt (pw_or (pt_cmpR (op_neD hr.units) (Sn.p_listDI rfl B (pa_cons (pe_ix ix_list (pv 10) pe_int (fun _ _ => rfl)) pa_nil)) (p_sortedDI rfl B (pa_cons (pv 5) pa_nil)) (nomark _)) (pw_or1 (pt_cmpR op_ne (p_repr hgu hr.units B (pa_cons (pe_slice sl_list (pv 10) po_none (po_some pe_int)) pa_nil)) (p_repr hgu hr.units B (pa_cons (pe_lst (pa_cons (pv 1) (pa_cons (pv 2) (pa_cons (pv 3) pa_nil)))) pa_nil)) (nomark _)))))
        (pss_one (ps_ret pe_bl))
        pss_nil)
      (pss_cons (ps_expr (Sn.p_clearN K P w (pe_ix ix_list (pv 10) pe_int (fun _ _ => rfl))))
      (pss_one (ps_expr (pe_dclear (pe_ix ix_list (pv 10) pe_int (fun _ _ => rfl))))))))))
    (pss_cons (ps_for PassesOwn.never rfl (pi_list (pe_op op_cat (Sn.p_listDK rfl B (pa_cons (pv 4) pa_nil)) (pe_lc (own := [("_law_turn", 12)]) (g := gName 12) (tt := tYes) rfl sc__law_right.nd (pi_range1 (by rfl) B.range (pa_cons pe_int pa_nil)) (blkOk_by (N := N__law_right) (sc := defScope s__law_right) (by decide +kernel)) (fun _ _ _ _ _ => (pg_name (i := 12) sc__law_right.nd rfl (by first | exact Or.inl rfl | exact Or.inr rfl))) (fun _ _ _ _ _ => pts_nil) (fun _ _ _ _ _ => by exact (p_call c_law_key hr (by decide) (pa_cons (pv 0) (pa_cons (pv 1) (pa_cons (pv 2) pa_nil)))))))) (pg_name (i := 11) sc__law_right.nd rfl (by first | exact Or.inl rfl | exact Or.inr rfl))
      (pss_one (ps_if (pt_cmpR op_ne (p_met c_prog_after hr (by decide) (pv 8) (pa_cons (pe_ix ix_tup (pv 11) pe_int (fun _ _ => rfl)) (pa_cons (pe_ix ix_tup (pv 11) pe_int (fun _ _ => rfl)) pa_nil))) (p_getK K P w hr.units (pv 4) (pa_cons (pv 11) (pa_cons (pe_ix ix_tup (pv 11) pe_int (fun _ _ => rfl)) pa_nil))) (nomark _))
        (pss_one (ps_ret pe_bl))
        pss_nil)))
    (pss_cons (ps_set (i := 13) sc__law_right.nd rfl (by first | exact Or.inl rfl | exact Or.inr rfl) (p_call c_law_made hr (by decide) (pa_cons (pv 1) (pa_cons (pe_lst (pa_cons (pv 2) (pa_cons (pv 3) (pa_cons (pe_lockV (p_call c_law_turned hr (by decide) (pa_cons (pv 0) (pa_cons (pv 4) pa_nil)))) (pa_cons (pe_lockV (p_call c_law_turned_1 hr (by decide) (pa_cons (pv 0) (pa_cons (pv 5) pa_nil)))) pa_nil))))) pa_nil))))
    (pss_cons (ps_if (PW.pt (pw_or (pt_not (pt_cmpR (op_eqO c_prog_eq hr (by decide)) (pv 8) (pv 13) (nomark _))) (pw_or (pt_cmpR (op_neO c_prog_eq hr (by decide)) (pv 8) (pv 13) (nomark _)) (pw_or (pt_cmpR (op_eqSl c_prog_eqD hr (by decide)) (pv 8) (pv 3) (nomark _)) (pw_or1 (pt_cmpR (op_eqSl c_prog_eqD hr (by decide)) (pv 8) pe_int (nomark _)))))))
      (pss_one (ps_ret pe_bl))
      pss_nil)
    (pss_cons (ps_set (i := 14) sc__law_right.nd rfl (by first | exact Or.inl rfl | exact Or.inr rfl) (p_call c_law_made hr (by decide) (pa_cons (pv 1) (pa_cons (pe_lst (pa_cons (pe_op op_add (pv 2) pe_int) (pa_cons (pv 3) (pa_cons (pv 4) (pa_cons (pv 5) pa_nil))))) pa_nil))))
    (pss_cons (ps_if (PW.pt (pw_or (pt_cmpR (op_eqO c_prog_eq hr (by decide)) (pv 8) (pv 14) (nomark _)) (pw_or1 (pt_cmpR op_notBl (p_call c_is_program hr (by decide) (pa_cons (pv 1) (pa_cons (pv 2) (pa_cons (pe_tup (pa_cons (pv 3) (pa_cons (pv 4) (pa_cons (pv 5) pa_nil)))) pa_nil)))) pe_bl (nomark _)))))
      (pss_one (ps_ret pe_bl))
      pss_nil)
    (pss_cons (ps_set (i := 15) sc__law_right.nd rfl (by first | exact Or.inl rfl | exact Or.inr rfl) (pe_op op_add_str (pe_op op_add_str (pe_op op_add_str (pe_op op_add_str pe_str (p_str B Bs (pa_cons (pv 1) pa_nil))) pe_str) (p_str B Bs (pa_cons (pv 2) pa_nil))) pe_str))
    (pss_one (ps_ret (pe_and (pe_cmpR op_eq (p_lenO B c_prog_len hr (by decide) (pa_cons (pv 8) pa_nil)) (p_lenDK K P w B (pa_cons (pv 4) pa_nil)) (nomark _)) (pe_one (pe_cmpR op_eq (p_strO Bs c_prog_str hr (by decide) (pa_cons (pv 8) pa_nil)) (pe_op op_add_str (pe_op op_add_str (pv 15) (p_str B Bs (pa_cons (p_lenDK K P w B (pa_cons (pv 4) pa_nil)) pa_nil))) pe_str) (nomark _))))))))))))))))))), _,
    (ts_set (R := (fD K dN)) 1 (tr_op o_addN (tr_nat (K := K) 1) (tr_call (ta_cons (tr_var (R := (fCk 3)) (a := v__law_pot) rfl) (ta_one (tr_nat (K := K) 4))))) rfl (fun v_law_size_1 => (ts_asg (tr_call (ta_cons (tr_var (R := (fCk 3)) (a := v__law_pot) rfl) (ta_cons (tr_var (R := (fD K dN)) (a := v_law_size_1) rfl) (ta_cons (tr_nat (K := K) 6) (ta_one (tr_nat (K := K) 20)))))) (tg_M4 (tg_name (R := (fD K dN)) 2) (tg_name (R := (fD K (dT (dT dN)))) 3) (tg_name (R := (fDKZ K P w (dP dN (dT dO)) (fD K dN))) 4) (tg_name (R := (fDZ dN (fD K dN))) 5)) rfl (fun p2 => (ts_par2M (tm_call (ow := ownDP K P w (dP dN (dT dO)) (fD K dN)) (ta_cons (tr_var (R := (fCk 3)) (a := v__law_pot) rfl) (ta_one (tr_var (R := (fDKZ K P w (dP dN (dT dO)) (fD K dN))) (a := p2.2.2.1) rfl)))) (tm_call (ow := ownDI dN (fD K dN)) (ta_cons (tr_var (R := (fCk 3)) (a := v__law_pot) rfl) (ta_one (tr_var (R := (fDZ dN (fD K dN))) (a := p2.2.2.2) rfl)))) rfl rfl rfl rfl (fun l3 l4 => (ts_set (R := (progP C_Program K P w)) 8 (tr_perm2 (tr_lendP (i := 6) (j := 7) (C := C_Program) (mvs := l3) (dvs := l4) (fun D1 D2 => (ta_cons (tr_var (R := (fD K dN)) (a := v_law_size_1) rfl) (ta_cons (tr_var (R := (fD K dN)) (a := p2.1) rfl) (ta_cons (tr_var (R := (fD K (dT (dT dN)))) (a := p2.2.1) rfl) (ta_cons (tr_var (R := (tagR D1 (fDKZ K P w (dP dN (dT dO)) (fD K dN)))) (a := l3) rfl) (ta_one (tr_var (R := (tagR D2 (fDZ dN (fD K dN)))) (a := l4) rfl))))))) (fun _ _ h => h) rfl rfl rfl (fun _ => rfl))) rfl (fun v_law_program_5 => (ts_perm2 (ts_clearP (d := (dP dN (dT dO))) (R := (fD K dN)) (kvs := l3) (ts_perm2 (ts_clearI (d := dN) (R := (fD K dN)) (kvs := l4) (ts_for (S1 := Unit) (ρ1 := fun s6 => [some ((fCk 3) v__law_pot), some ((fD K dN) v_law_size_1), some ((fD K dN) p2.1), some ((fD K (dT (dT dN))) p2.2.1), some ((fDKZ K P w (dP dN (dT dO)) (fD K dN)) p2.2.2.1), some ((fDZ dN (fD K dN)) p2.2.2.2), none, none, some ((progP C_Program K P w) v_law_program_5), none, none, none, none, none, none, none]) (κ1s := fun s6 => [.one 7 (ownDI dN (fD K dN) []), .one 6 (ownDP K P w (dP dN (dT dO)) (fD K dN) [])]) () (leV_some (leV_some (leV_some (leV_some (leV_some (leV_some (leV_none (leV_none (leV_some (leV_none (leV_none (leV_none (leV_none (leV_none (leV_none (leV_none leV_nil)))))))))))))))) (fun _ _ _ h => h) (ti_rangeN (tr_nat (K := K) 2)) (tg_name (R := (fD K dN)) 9) (fun _ => rfl)
      (fun s6 x7 => (ts_newTl (R0 := (fD K dN)) (R1 := (fD K dN)) (R2 := (fD K (dT (dT dN)))) (dk := (dP dN (dT dO))) (dd := dN) 10 (tr_prp (Ra := (progP C_Program K P w)) (hS := is_prog) (tr_var (R := (progP C_Program K P w)) (a := v_law_program_5) rfl)) (tr_prp (Ra := (progP C_Program K P w)) (hS := is_prog) (tr_var (R := (progP C_Program K P w)) (a := v_law_program_5) rfl)) (tr_prp (Ra := (progP C_Program K P w)) (hS := is_prog) (tr_var (R := (progP C_Program K P w)) (a := v_law_program_5) rfl)) (tm_prp (ow := ownDP K P w (dP dN (dT dO)) (fD K dN)) (Ra := (progP C_Program K P w)) (hS := is_prog) (tr_var (R := (progP C_Program K P w)) (a := v_law_program_5) rfl)) (tm_prp (ow := ownDI dN (fD K dN)) (Ra := (progP C_Program K P w)) (hS := is_prog) (tr_var (R := (progP C_Program K P w)) (a := v_law_program_5) rfl)) rfl rfl (fun t8 => (ts_ifq (tt_or (tt_test (tr_borTl (i := 10) (g := t8) (R0 := (fD K dN)) (R1 := (fD K dN)) (R2 := (fD K (dT (dT dN)))) (dk := (dP dN (dT dO))) (dd := dN) (tr_op (o_neM5 (K := K) (P := P) (w := w)) (tr_var (R := (fun g : (Nat × Nat × (List (List Nat)) × (List ((Nat × (List (Option Nat))) × Nat)) × (List (Nat × Nat))) => Ln [(fD K dN) g.1, (fD K dN) g.2.1, (fD K (dT (dT dN))) g.2.2.1, (fDK K P w (dP dN (dT dO)) (fD K dN)) g.2.2.2.1, (fDI dN (fD K dN)) g.2.2.2.2])) (a := t8) rfl) (tr_lstM (ta_cons (tr_var (R := (fD K dN)) (a := v_law_size_1) rfl) (ta_cons (tr_var (R := (fD K dN)) (a := p2.1) rfl) (ta_cons (tr_var (R := (fD K (dT (dT dN)))) (a := p2.2.1) rfl) (ta_cons (tr_var (R := (fDKZ K P w (dP dN (dT dO)) (fD K dN))) (a := p2.2.2.1) rfl) (ta_one (tr_var (R := (fDZ dN (fD K dN))) (a := p2.2.2.2) rfl)))))))) rfl rfl (fun _ _ h => h))) (tt_not (tt_B (tr_borTl (i := 10) (g := t8) (R0 := (fD K dN)) (R1 := (fD K dN)) (R2 := (fD K (dT (dT dN)))) (dk := (dP dN (dT dO))) (dd := dN) (tr_call (ta_cons (tr_cb (c_listDK (d := (dP dN (dT dO)))) (ta_one (tr_ixM (Rs := fun g : (Nat × Nat × (List (List Nat)) × (List ((Nat × (List (Option Nat))) × Nat)) × (List (Nat × Nat))) => [(fD K dN) g.1, (fD K dN) g.2.1, (fD K (dT (dT dN))) g.2.2.1, (fDK K P w (dP dN (dT dO)) (fD K dN)) g.2.2.2.1, (fDI dN (fD K dN)) g.2.2.2.2]) (R := (fDK K P w (dP dN (dT dO)) (fD K dN))) (fun g => g.2.2.2.1) 3 (tr_var (R := (fun g : (Nat × Nat × (List (List Nat)) × (List ((Nat × (List (Option Nat))) × Nat)) × (List (Nat × Nat))) => Ln [(fD K dN) g.1, (fD K dN) g.2.1, (fD K (dT (dT dN))) g.2.2.1, (fDK K P w (dP dN (dT dO)) (fD K dN)) g.2.2.2.1, (fDI dN (fD K dN)) g.2.2.2.2])) (a := t8) rfl) (fun _ => rfl)))) (ta_one (tr_var (R := (fD K dN)) (a := p2.1) rfl)))) rfl rfl (fun _ _ h => h)))))
      (ts_retq (tr_bl (K := K)))
      (ts_nextq (ts_ifq (tt_or (tt_test (tr_borTl (i := 10) (g := t8) (R0 := (fD K dN)) (R1 := (fD K dN)) (R2 := (fD K (dT (dT dN)))) (dk := (dP dN (dT dO))) (dd := dN) (tr_op (o_neD (d := (dL dN))) (tr_cb (c_listDI (K := K)) (ta_one (tr_ixM (Rs := fun g : (Nat × Nat × (List (List Nat)) × (List ((Nat × (List (Option Nat))) × Nat)) × (List (Nat × Nat))) => [(fD K dN) g.1, (fD K dN) g.2.1, (fD K (dT (dT dN))) g.2.2.1, (fDK K P w (dP dN (dT dO)) (fD K dN)) g.2.2.2.1, (fDI dN (fD K dN)) g.2.2.2.2]) (R := (fDI dN (fD K dN))) (fun g => g.2.2.2.2) 4 (tr_var (R := (fun g : (Nat × Nat × (List (List Nat)) × (List ((Nat × (List (Option Nat))) × Nat)) × (List (Nat × Nat))) => Ln [(fD K dN) g.1, (fD K dN) g.2.1, (fD K (dT (dT dN))) g.2.2.1, (fDK K P w (dP dN (dT dO)) (fD K dN)) g.2.2.2.1, (fDI dN (fD K dN)) g.2.2.2.2])) (a := t8) rfl) (fun _ => rfl)))) (tr_cb c_sortedDZ (ta_one (tr_ZI (tr_var (R := (fDZ dN (fD K dN))) (a := p2.2.2.2) rfl))))) rfl rfl (fun _ _ h => h))) (tt_test (tr_borTl (i := 10) (g := t8) (R0 := (fD K dN)) (R1 := (fD K dN)) (R2 := (fD K (dT (dT dN)))) (dk := (dP dN (dT dO))) (dd := dN) (tr_op o_neS (tr_cb (c_repr (d := (dM3 dN dN (dT (dT dN))))) (ta_one (tr_M3e (tr_sl5 (R0 := (fD K dN)) (R1 := (fD K dN)) (R2 := (fD K (dT (dT dN)))) (R3 := (fDK K P w (dP dN (dT dO)) (fD K dN))) (R4 := (fDI dN (fD K dN))) (tr_var (R := (fun g : (Nat × Nat × (List (List Nat)) × (List ((Nat × (List (Option Nat))) × Nat)) × (List (Nat × Nat))) => Ln [(fD K dN) g.1, (fD K dN) g.2.1, (fD K (dT (dT dN))) g.2.2.1, (fDK K P w (dP dN (dT dO)) (fD K dN)) g.2.2.2.1, (fDI dN (fD K dN)) g.2.2.2.2])) (a := t8) rfl) to_no (to_some (tr_nat (K := K) 3)))))) (tr_cb (c_repr (d := (dM3 dN dN (dT (dT dN))))) (ta_one (tr_M3e (tr_lstM (ta_cons (tr_var (R := (fD K dN)) (a := v_law_size_1) rfl) (ta_cons (tr_var (R := (fD K dN)) (a := p2.1) rfl) (ta_one (tr_var (R := (fD K (dT (dT dN)))) (a := p2.2.1) rfl))))))))) rfl rfl (fun _ _ h => h))))
      (ts_retq (tr_bl (K := K)))
      (ts_nextq (ts_clearT3 (a0 := t8.1) (a1 := t8.2.1) (a2 := t8.2.2.1) (kvs := t8.2.2.2.1) (ds := t8.2.2.2.2) (ts_one (ts_clearT4 (a0 := t8.1) (a1 := t8.2.1) (a2 := t8.2.2.1) (kvs := []) (ds := t8.2.2.2.2) (ts_dropC (ts_next () (leV_some (leV_some (leV_some (leV_some (leV_some (leV_some (leV_none (leV_none (leV_some (leV_none (leV_none (leV_none (leV_none (leV_none (leV_none (leV_none leV_nil)))))))))))))))) (fun _ _ _ h => h)))))))))))))
      (fun s6 => (ts_for (S1 := Unit) (ρ1 := fun s10 => [some ((fCk 3) v__law_pot), some ((fD K dN) v_law_size_1), some ((fD K dN) p2.1), some ((fD K (dT (dT dN))) p2.2.1), some ((fDKZ K P w (dP dN (dT dO)) (fD K dN)) p2.2.2.1), some ((fDZ dN (fD K dN)) p2.2.2.2), none, none, some ((progP C_Program K P w) v_law_program_5), none, none, none, none, none, none, none]) (κ1s := fun s10 => [.one 7 (ownDI dN (fD K dN) []), .one 6 (ownDP K P w (dP dN (dT dO)) (fD K dN) [])]) () (leV_some (leV_some (leV_some (leV_some (leV_some (leV_some (leV_none (leV_none (leV_some (leV_none (leV_none (leV_none (leV_none (leV_none (leV_none (leV_none leV_nil)))))))))))))))) (fun _ _ _ h => h) (ti_lst (tr_op (o_cat (R := (fD K (dP dN (dT dO))))) (tr_cb (c_listDKl (d := (dP dN (dT dO)))) (ta_one (tr_ZK (tr_var (R := (fDKZ K P w (dP dN (dT dO)) (fD K dN))) (a := p2.2.2.1) rfl)))) (tr_lc (vs := [12]) (Rd := (fD K (dP dN (dT dO)))) (ti_rangeN (tr_nat (K := K) 6)) (tg_name (R := (fD K dN)) 12) rfl rfl rfl (fun _ => rfl) (fun x9 => tt_yes) (fun x9 => (tr_call (ta_cons (tr_var (R := (fCk 3)) (a := v__law_pot) rfl) (ta_cons (tr_var (R := (fD K dN)) (a := v_law_size_1) rfl) (ta_one (tr_var (R := (fD K dN)) (a := p2.1) rfl))))))))) (tg_name (R := (fD K (dP dN (dT dO)))) 11) (fun _ => rfl)
      (fun s10 x11 => (ts_one (ts_ifq (tt_test (tr_op o_neN (tr_met (tr_var (R := (progP C_Program K P w)) (a := v_law_program_5) rfl) is_prog (ta_cons (tr_fst (tr_var (R := (fD K (dP dN (dT dO)))) (a := x11) rfl)) (ta_one (tr_snd (tr_var (R := (fD K (dP dN (dT dO)))) (a := x11) rfl))))) (tr_getDP (d := (dP dN (dT dO))) (by decide) (tr_ZK (tr_var (R := (fDKZ K P w (dP dN (dT dO)) (fD K dN))) (a := p2.2.2.1) rfl)) (ta_cons (tr_var (R := (fD K (dP dN (dT dO)))) (a := x11) rfl) (ta_one (tr_fst (tr_var (R := (fD K (dP dN (dT dO)))) (a := x11) rfl)))))))
      (ts_retq (tr_bl (K := K)))
      (ts_nextq (ts_next () (leV_some (leV_some (leV_some (leV_some (leV_some (leV_some (leV_none (leV_none (leV_some (leV_none (leV_none (leV_none (leV_none (leV_none (leV_none (leV_none leV_nil)))))))))))))))) (fun _ _ _ h => h))))))
      (fun s10 => (ts_set (R := (progP C_Program K P w)) 13 (tr_fact (p := PrOk) ok_prog (tr_call (ta_cons (tr_var (R := (fD K dN)) (a := v_law_size_1) rfl) (ta_one (tr_lstM (ta_cons (tr_var (R := (fD K dN)) (a := p2.1) rfl) (ta_cons (tr_var (R := (fD K (dT (dT dN)))) (a := p2.2.1) rfl) (ta_cons (tr_lockM (ow := ownDP K P w (dP dN (dT dO)) (fD K dN)) (tm_call (ow := ownDP K P w (dP dN (dT dO)) (fD K dN)) (ta_cons (tr_var (R := (fCk 3)) (a := v__law_pot) rfl) (ta_one (tr_var (R := (fDKZ K P w (dP dN (dT dO)) (fD K dN))) (a := p2.2.2.1) rfl))))) (ta_one (tr_lockM (ow := ownDI dN (fD K dN)) (tm_call (ow := ownDI dN (fD K dN)) (ta_cons (tr_var (R := (fCk 3)) (a := v__law_pot) rfl) (ta_one (tr_var (R := (fDZ dN (fD K dN))) (a := p2.2.2.2) rfl)))))))))))))) rfl (fun v_law_other_12 => (ts_ifq (tt_or (tt_not (tt_test (tr_op (o_eqOwn nf_prog is_prog is_prog) (tr_var (R := (progP C_Program K P w)) (a := v_law_program_5) rfl) (tr_var (R := (progP C_Program K P w)) (a := v_law_other_12) rfl)))) (tt_or (tt_test (tr_op (o_neOwn nf_prog is_prog is_prog) (tr_var (R := (progP C_Program K P w)) (a := v_law_program_5) rfl) (tr_var (R := (progP C_Program K P w)) (a := v_law_other_12) rfl))) (tt_or (tt_test (tr_op (o_eqSlD (K := K) (d := dA) N_prog is_prog) (tr_var (R := (progP C_Program K P w)) (a := v_law_program_5) rfl) (tr_any (tr_var (R := (fD K (dT (dT dN)))) (a := p2.2.1) rfl)))) (tt_test (tr_op (o_eqSlD (K := K) (d := dA) N_prog is_prog) (tr_var (R := (progP C_Program K P w)) (a := v_law_program_5) rfl) (tr_any (tr_nat (K := K) 0)))))))
      (ts_retq (tr_bl (K := K)))
      (ts_nextq (ts_set (R := (progP C_Program K P w)) 14 (tr_fact (p := PrOk) ok_prog (tr_call (ta_cons (tr_var (R := (fD K dN)) (a := v_law_size_1) rfl) (ta_one (tr_lstM (ta_cons (tr_op o_addN (tr_var (R := (fD K dN)) (a := p2.1) rfl) (tr_nat (K := K) 1)) (ta_cons (tr_var (R := (fD K (dT (dT dN)))) (a := p2.2.1) rfl) (ta_cons (tr_var (R := (fDKZ K P w (dP dN (dT dO)) (fD K dN))) (a := p2.2.2.1) rfl) (ta_one (tr_var (R := (fDZ dN (fD K dN))) (a := p2.2.2.2) rfl)))))))))) rfl (fun v_law_wide_13 => (ts_ifq (tt_or (tt_test (tr_op (o_eqOwn nf_prog is_prog is_prog) (tr_var (R := (progP C_Program K P w)) (a := v_law_program_5) rfl) (tr_var (R := (progP C_Program K P w)) (a := v_law_wide_13) rfl))) (tt_test (tr_op o_notB (tr_call (ta_cons (tr_var (R := (fD K dN)) (a := v_law_size_1) rfl) (ta_cons (tr_var (R := (fD K dN)) (a := p2.1) rfl) (ta_one (tr_tupU (tr_var (R := (fD K (dT (dT dN)))) (a := p2.2.1) rfl) (tr_var (R := (fDKZ K P w (dP dN (dT dO)) (fD K dN))) (a := p2.2.2.1) rfl) (tr_var (R := (fDZ dN (fD K dN))) (a := p2.2.2.2) rfl)))))) (tr_bl (K := K)))))
      (ts_retq (tr_bl (K := K)))
      (ts_nextq (ts_set (R := (fD K dS)) 15 (tr_op o_addS (tr_op o_addS (tr_op o_addS (tr_op o_addS (tr_str (K := K)) (tr_cb c_str (ta_one (tr_var (R := (fD K dN)) (a := v_law_size_1) rfl)))) (tr_str (K := K))) (tr_cb c_str (ta_one (tr_var (R := (fD K dN)) (a := p2.1) rfl)))) (tr_str (K := K))) rfl (fun v_law_text_14 => (ts_ret (tr_and (tr_op o_eqN (tr_cb (c_lenOwn is_prog) (ta_one (tr_var (R := (progP C_Program K P w)) (a := v_law_program_5) rfl))) (tr_cb (c_lenDK (d := (dP dN (dT dO)))) (ta_one (tr_ZK (tr_var (R := (fDKZ K P w (dP dN (dT dO)) (fD K dN))) (a := p2.2.2.1) rfl))))) (tr_op o_eqS (tr_cb (c_strOwn is_prog) (ta_one (tr_var (R := (progP C_Program K P w)) (a := v_law_program_5) rfl))) (tr_op o_addS (tr_op o_addS (tr_var (R := (fD K dS)) (a := v_law_text_14) rfl) (tr_cb c_str (ta_one (tr_cb (c_lenDK (d := (dP dN (dT dO)))) (ta_one (tr_ZK (tr_var (R := (fDKZ K P w (dP dN (dT dO)) (fD K dN))) (a := p2.2.2.1) rfl))))))) (tr_str (K := K)))))))))))))))))))))))))))))))), ?_⟩
  rintro Q ⟨vs0, F0, hv⟩ hs
  try delta pur
  try dsimp only at hs hv ⊢
  refine ⟨⟨by decide, by decide⟩, fun n hn => ⟨⟨by omega, by omega, by decide, by decide, by decide⟩, fun p raw h6 h20 => ?_⟩⟩
  obtain ⟨st, ss, ms, ds⟩ := p
  dsimp only at raw h6 h20 ⊢
  have nm : (ms.map (·.1)).Nodup := raw.moves.1
  have nd : (ds.map (·.1)).Nodup := raw.decs.1
  have dl : ds.length < 64 := raw.decs.2.1
  have st1 : 1 ≤ st := raw.st.1
  have sok : StartsOk (1 + n) st ss := raw.starts
  refine ⟨⟨by omega, nm⟩, fun ps pm => ⟨⟨by omega, nd⟩, fun qs pd => ?_⟩⟩
  have raw' : RawOk (1 + n, st, ss, ps, qs) := raw_perm raw pm pd
  have ok : PrOk (mkP (1 + n, st, ss, ps, qs)) := mkP_ok raw'
  have ndq : (qs.map (·.1)).Nodup := (pd.map _).nodup_iff.mpr nd
  have fm : (mkP (1 + n, st, ss, ps, qs)).moves.Perm ms := sortMoves_perm.trans pm
  have fd : (mkP (1 + n, st, ss, ps, qs)).decs.Perm ds := (sortDecs_perm ndq).trans pd
  have ga : ∀ k, getA (mkP (1 + n, st, ss, ps, qs)).moves k = getA ms k := fun k => getA_perm fm nm k
  have kr : (((mkP (1 + n, st, ss, ps, qs)).moves.map (·.1)).map (placeOf st)).Pairwise (fun a b => plLe a b = true) := moves_asc
  have kd : (mkP (1 + n, st, ss, ps, qs)).decs.map (·.1) = sortN (ds.map (·.1)) := decs_keys pd
  have z1 : (mkP (1 + n, st, ss, ps, qs)).size = 1 + n := rfl
  have z2 : (mkP (1 + n, st, ss, ps, qs)).states = st := rfl
  have z3 : (mkP (1 + n, st, ss, ps, qs)).starts = ss := rfl
  have fl : (mkP (1 + n, st, ss, ps, qs)).moves.length = ms.length := fm.length_eq
  refine ⟨raw', by decide, ?_⟩
  generalize hpr : mkP (1 + n, st, ss, ps, qs) = pr at ok fm fd ga kr kd z1 z2 z3 fl ⊢
  have r5 : recEq5 (pr.size, pr.states, pr.starts, pr.moves, pr.decs) (1 + n, st, ss, ms, ds) = true := by
    unfold recEq5
    rw [z1, z2, z3, eqA_one fm (.refl _) nm, eqA_one fd (.refl _) nd]
    simp
  have sy := say_head (by omega : 1 + n ≤ 5) (by omega : st ≤ 400) sok
  refine forW_at (f := fun _ => ()) (fun i x hx P hP => ?_) ?_
  · refine ⟨⟨ok, by omega, by omega⟩, ?_⟩
    refine orW_of false false (fun P hP => ⟨by show 5 ≤ 100000; decide, by rw [r5]; exact hP⟩) (fun _ P hP => ⟨⟨by rw [List.length_map, fl]; omega, fun k hk => ?_⟩, kr, hP⟩) ?_
    · obtain ⟨y, hy, rfl⟩ := List.mem_map.mp hk
      have := (raw.moves.2.2 y (fm.mem_iff.mp hy)).2.1.1
      dsimp only at this
      omega
    rw [Bool.or_false, if_neg Bool.false_ne_true]
    refine orW_of false false (fun P hP => ⟨dl, by rw [kd, decide_eq_true rfl]; exact hP⟩) (fun _ P hP => ?_) ?_
    · rw [z1, z2, z3]
      exact ⟨sy, by show 3 ≤ 100000; decide, sy, by rw [decide_eq_true rfl]; exact hP⟩
    rw [Bool.or_false, if_neg Bool.false_ne_true]
    exact hP
  refine ⟨by decide, by decide, lcW_all (P := fun _ (k : Mvk) => k.1 < st ∧ HearOk (1 + n) st k.1 k.2) (fun x hx Q hQ => ⟨⟨by omega, by omega, st1, by omega⟩, fun k h1 h2 => hQ k ⟨h1, h2⟩⟩) fun bs hbl hb => ⟨by rw [List.length_map, hbl, List.length_range]; omega, ?_⟩⟩
  refine forW_at (f := fun _ => ()) (fun i k hk P hP => ?_) ?_
  · have hk : k.1 < st ∧ HearOk (1 + n) st k.1 k.2 := by
      rcases List.mem_append.mp (List.mem_of_getElem? hk) with h | h
      · obtain ⟨y, hy, rfl⟩ := List.mem_map.mp h
        obtain ⟨a, b, _⟩ := raw.moves.2.2 y hy
        exact ⟨a, b⟩
      · obtain ⟨j, hj⟩ := List.mem_iff_getElem?.mp h
        have hjl := (List.getElem?_eq_some_iff.mp hj).1
        rw [List.length_range] at hbl
        exact hb j j k (List.getElem?_range (by omega)) hj
    refine ⟨⟨ok, by rw [z2]; exact hk.1, by rw [z1, z2]; exact hk.2⟩, ?_⟩
    have e9 : (getA pr.moves (k.1, k.2)).getD k.1 = (getA ms k).getD k.1 := by rw [ga]
    rw [decide_eq_true e9, if_neg (by simp)]
    exact hP
  refine ⟨⟨by omega, nm⟩, fun ps2 pm2 => ⟨⟨by omega, nd⟩, fun qs2 pd2 => ⟨by show 4 ≤ 100000; decide, raw_perm raw pm2 pd2, fun _ => ?_⟩⟩⟩
  have ndq2 : (qs2.map (·.1)).Nodup := (pd2.map _).nodup_iff.mpr nd
  have e2 : eqP pr (mkP (1 + n, st, ss, ps2, qs2)) = true := by
    unfold eqP
    have c1 : eqA pr.moves (mkP (1 + n, st, ss, ps2, qs2)).moves = true := eqA_one fm (sortMoves_perm.trans pm2) nm
    have c2 : eqA pr.decs (mkP (1 + n, st, ss, ps2, qs2)).decs = true := eqA_one fd ((sortDecs_perm ndq2).trans pd2) nd
    have b1 : pr.size = (mkP (1 + n, st, ss, ps2, qs2)).size := z1
    have b2 : pr.states = (mkP (1 + n, st, ss, ps2, qs2)).states := z2
    have b3 : pr.starts = (mkP (1 + n, st, ss, ps2, qs2)).starts := z3
    rw [c1, c2, decide_eq_true b1, decide_eq_true b2, decide_eq_true b3]
    rfl
  refine orW_of false false (fun P hP => by rw [e2]; exact hP) (fun _ P hP => orW_of false false (fun P hP => by rw [e2]; exact hP) (fun _ P hP => orW_of false false (fun P hP => hP) (fun _ P hP => hP) hP) hP) ?_
  rw [Bool.or_false, if_neg Bool.false_ne_true]
  refine ⟨by show 4 ≤ 100000; decide, raw_wide raw (by omega), fun _ => ?_⟩
  have e3 : eqP pr (mkP (1 + n, st + 1, ss, ms, ds)) = false := by
    unfold eqP
    rw [z2, show (mkP (1 + n, st + 1, ss, ms, ds)).states = st + 1 from rfl, decide_eq_false (by omega : ¬ st = st + 1)]
    simp
  refine orW_of false false (fun P hP => by rw [e3]; exact hP) (fun _ P hP => ⟨raw, by rw [decide_eq_true rfl]; exact hP⟩) ?_
  rw [Bool.or_false, if_neg Bool.false_ne_true]
  have l1 := strN_4 (1 + n) (by omega)
  have l2 := strN_4 st (by omega)
  have l3 := strN_4 ms.length (by omega)
  have k1 : (Str.ofString "program for ").length = 12 := rfl
  have k2 : (Str.ofString " houses: ").length = 9 := rfl
  have k3 : (Str.ofString " states, ").length = 9 := rfl
  have k4 : (Str.ofString " moves").length = 6 := rfl
  have e4 : strP pr = Str.ofString "program for " ++ strN (1 + n) ++ Str.ofString " houses: " ++ strN st ++ Str.ofString " states, " ++ strN ms.length ++ Str.ofString " moves" := by
    unfold strP
    rw [z1, z2, fl]
  refine ⟨by omega, by omega, by rw [str_app_len]; omega, by omega, by simp only [str_app_len]; omega, by simp only [str_app_len]; omega, ?_⟩
  refine andW_of true true (fun P hP => ⟨by omega, by rw [decide_eq_true fl]; exact hP⟩) (fun _ P hP => ⟨ok, by omega, by simp only [str_app_len]; omega, by simp only [str_app_len]; omega, by rw [decide_eq_true e4]; exact hP⟩) hs
end
end Wb

/-! k35: the law -/
namespace Wb
open PySem PySem.Spec PyProof.Rows L2 SlX StX Rs Ma Sn Tw
variable [Rs.Tabz]
def hearB (size states s : Nat) (h : Hrd) : Bool := decide (h.length = size) && (h.all fun o => decide (o.getD 0 < states)) && decide (some s ∈ h)
theorem hearB_ok {size states s : Nat} {h : Hrd} (e : hearB size states s h = true) : HearOk size states s h := by
  unfold hearB at e
  rw [Bool.and_eq_true, Bool.and_eq_true] at e
  exact ⟨of_decide_eq_true e.1.1, fun x hx => of_decide_eq_true (List.all_eq_true.mp e.1.2 _ hx), of_decide_eq_true e.2⟩
def rawB (g : Nat × Nat × Rows × List (Mvk × Nat) × List (Nat × Nat)) : Bool :=
  decide (1 ≤ g.1 ∧ g.1 ≤ 5 ∧ 1 ≤ g.2.1 ∧ g.2.1 ≤ 400) && (decide (g.2.2.1.length = g.1) && (g.2.2.1.all (fun p => decide (p.length = 2) && p.all fun x => decide (x < g.2.1)) &&
    (decide ((g.2.2.2.1.map (·.1)).Nodup) && (decide (g.2.2.2.1.length ≤ 1000) && (g.2.2.2.1.all (fun x => decide (x.1.1 < g.2.1) && (hearB g.1 g.2.1 x.1.1 x.1.2 && (decide (x.2 < g.2.1) && letB g.2.2.2.2 x.1.1 x.2))) &&
      (decide ((g.2.2.2.2.map (·.1)).Nodup) && (decide (g.2.2.2.2.length < 64) && g.2.2.2.2.all fun p => decide (p.1 < g.2.1 ∧ p.2 ≤ 1))))))))
theorem rawB_ok {g : Nat × Nat × Rows × List (Mvk × Nat) × List (Nat × Nat)} (e : rawB g = true) : RawOk g := by
  unfold rawB at e
  simp only [Bool.and_eq_true, decide_eq_true_eq, List.all_eq_true] at e
  obtain ⟨⟨a1, a2, a3, a4⟩, b1, b2, c1, c2, c3, d1, d2, d3⟩ := e
  exact ⟨⟨a1, a2⟩, ⟨a3, a4⟩, ⟨b1, fun p hp => ⟨(b2 p hp).1, fun x hx => (b2 p hp).2 x hx⟩⟩, ⟨c1, c2, fun x hx => ⟨(c3 x hx).1, hearB_ok (c3 x hx).2.1, (c3 x hx).2.2.1, (c3 x hx).2.2.2⟩⟩, ⟨d1, d2, fun p hp => d3 p hp⟩⟩
theorem sortMoves_eq {st : Nat} {ms ys : List (Mvk × Nat)} (h1 : ys.Pairwise fun a b => plLe (placeOf st a.1) (placeOf st b.1) = true) (h2 : ys.Perm ms) (h3 : ∀ a ∈ ys, ∀ b ∈ ys, plLe (placeOf st a.1) (placeOf st b.1) = true → plLe (placeOf st b.1) (placeOf st a.1) = true → a = b) : sortMoves st ms = ys := by
  have h4 : (sortMoves st ms).Pairwise fun a b => plLe (placeOf st a.1) (placeOf st b.1) = true := by
    have := moves_asc (st := st) (ms := ms)
    rw [List.map_map, List.pairwise_map] at this
    exact this
  have h5 : (sortMoves st ms).Perm ys := sortMoves_perm.trans h2.symm
  exact List.Perm.eq_of_pairwise (le := fun a b => plLe (placeOf st a.1) (placeOf st b.1) = true) (fun a b ha hb x y => h3 a (h5.mem_iff.mp ha) b (hb) x y) h4 h1 h5
def tellG : Nat × Nat × Rows × List (Mvk × Nat) × List (Nat × Nat) := (2, 5, [[0, 1], [2, 2]], putA (putA (putsA [] [((0, [some 0, none]), 3), ((1, [some 1, none]), 4), ((0, [some 0, some 2]), 3), ((1, [some 1, some 2]), 4), ((2, [some 0, some 2]), 3), ((2, [some 1, some 2]), 4)]) (2, [some 4, some 2]) 4) (2, [some 3, some 2]) 3, putsA [] [(4, 1), (3, 0)])
def tellM : List (Mvk × Nat) := [((0, [some 0, some 2]), 3), ((0, [some 0, none]), 3), ((1, [some 1, some 2]), 4), ((1, [some 1, none]), 4), ((2, [some 0, some 2]), 3), ((2, [some 1, some 2]), 4), ((2, [some 3, some 2]), 3), ((2, [some 4, some 2]), 4)]
def tellP : Prg := ⟨2, 5, [[0, 1], [2, 2]], tellM, [(3, 0), (4, 1)]⟩
theorem tell_raw : RawOk tellG := rawB_ok (by decide +kernel)
theorem tell_m : sortMoves 5 tellG.2.2.2.1 = tellM := sortMoves_eq (by decide +kernel) (of_decide_eq_true (by decide +kernel : decide (tellM.Perm tellG.2.2.2.1) = true)) (by decide +kernel)
theorem sort34 : sortN [4, 3] = [3, 4] := sortN_eq (by decide) (List.Perm.swap _ _ _)
theorem tell_d : sortDecs tellG.2.2.2.2 = [(3, 0), (4, 1)] := by
  unfold sortDecs
  rw [show tellG.2.2.2.2.map (·.1) = [4, 3] from rfl, sort34]
  rfl
theorem tell_eq : mkP tellG = tellP := by
  show (⟨2, 5, [[0, 1], [2, 2]], sortMoves 5 tellG.2.2.2.1, sortDecs tellG.2.2.2.2⟩ : Prg) = tellP
  rw [tell_m, tell_d]; rfl
def wideG : Nat × Nat × Rows × List (Mvk × Nat) × List (Nat × Nat) := (5, 2, List.replicate 5 [0, 0], putsA [] [((0, [some 0, none, some 1, none, some 0]), 1)], [])
def wideP : Prg := ⟨5, 2, List.replicate 5 [0, 0], [((0, [some 0, none, some 1, none, some 0]), 1)], []⟩
theorem wide_raw : RawOk wideG := rawB_ok (by decide +kernel)
theorem wide_eq : mkP wideG = wideP := by
  show (⟨5, 2, List.replicate 5 [0, 0], sortMoves 2 wideG.2.2.2.1, sortDecs []⟩ : Prg) = wideP
  rw [show sortMoves 2 wideG.2.2.2.1 = [((0, [some 0, none, some 1, none, some 0]), 1)] from List.perm_singleton.mp sortMoves_perm]
  have : sortDecs [] = [] := List.perm_nil.mp (sortDecs_perm List.nodup_nil)
  rw [this]; rfl
theorem tell_s : strP tellP = Str.ofString "program for 2 houses: 5 states, 8 moves" := by decide +kernel
def dueL : List PyData := [dN 4, dN 2, dS (Str.ofString "program for 2 houses: 5 states, 8 moves"), dL (dP dN (dT dO)) [(0, [some 0, some 2]), (0, [some 0, none]), (1, [some 1, some 2])], dL dN [3, 4]] ++ [dN 1, dN 0, dN 5]
def toldL (p q : Prg) : List PyData := [dN ((getA p.moves (2, [some 1, some 2])).getD 2), dN ((getA p.moves (2, [none, some 2])).getD 2), dS (strP p), dL (dP dN (dT dO)) (cutL (List.map (fun x => x.1) p.moves) none (some 3)), dL dN (List.map (fun x => x.1) p.decs)] ++ [dN ((getA q.moves (0, [some 0, none, some 1, none, some 0])).getD 0), dN ((getA q.moves (0, [some 0, none, some 0, none, some 1])).getD 0), dN q.size]
theorem told_due : toldL tellP wideP = dueL := by
  unfold toldL
  rw [tell_s]
  rfl
theorem due_sh : SeqAt.shaped (dL dA dueL) = true := by decide +kernel
theorem due_ev : (dL dA dueL).eqv (dL dA dueL) = true := by decide +kernel
section
variable {P : Program} {w : World} {K : PySem.W.Frag} {mg : Str → Option Value} {base : Heap} {C_Program C_Web C_Pool : Addr}
abbrev s_law : Stmt := topS 42
abbrev N_law : List Str := ["_law_script", "_law_at", "_law_pot", "_law_turn", "_law_moves_here", "_law_tell", "_law_told", "_law_due", "_law_wide"]
theorem sc_law : FnScope N_law ["_law_script"] (defScope s_law) := ⟨rfl, rfl, rfl, by decide +kernel, rfl, by decide +kernel, by decide +kernel⟩
theorem ok_law {f : Addr} {fd : FuncData} (B : Bf mg) (g_MAX_STATES : GInt mg "MAX_STATES" 400) (g_MAX_MOVES : GInt mg "MAX_MOVES" 4000) (c_law_filled : Gf P w K mg base 1 "_law_filled" (SpN (fun g : (List Int) × Nat => [(fD K (dL dInt)) g.1, (fD K dN) g.2]) (fun (g : List Int × Nat) (Q : Unit → Prop) => g.1.length ≤ 63 ∧ Q ()) (fCk 3))) (c_law_right : GfG P w K mg base 13 "_law_right" (SpN (fun g : Unit => [(fCk 3) g]) (fun (g : Unit) (Q : Bool → Prop) => Q true) (fD K dB))) (c_Program : MkF P w K mg base 8 "Program" C_Program (spProgInit C_Program K P w)) (c_prog_after : MetS P w K mg base 6 C_Program "after" (SpN (fun g : Prg × Nat × (List (Option Nat)) => [(progP C_Program K P w) g.1, (fD K dN) g.2.1, (fD K (dT dO)) g.2.2]) (fun (g : Prg × Nat × Hrd) (Q : Nat → Prop) => (PrOk g.1 ∧ g.2.1 < g.1.states ∧ HearOk g.1.size g.1.states g.2.1 g.2.2) ∧ Q ((getA g.1.moves (g.2.1, g.2.2)).getD g.2.1)) (fD K dN))) (Bs : mg "str" = none) (c_prog_str : OwnS P w K mg base "__str__" 3 C_Program (SpN (fun g : Prg => [(progP C_Program K P w) g]) (fun (g : Prg) (Q : PySem.Str → Prop) => (PrOk g) ∧ Q (strP g)) (fD K dS))) (c_prog_moves : PrpS P w K mg base 2 C_Program "moves" (SpO (fun g : Prg => [(progP C_Program K P w) g]) (fun (g : Prg) (Q : List (Mvk × Nat) → Prop) => (PrOk g ∧ g.size ≤ 4 ∧ g.states ≤ 6) ∧ Q g.moves) (ownDP K P w (dP dN (dT dO)) (fD K dN)))) (c_prog_decisions : PrpS P w K mg base 2 C_Program "decisions" (SpO (fun g : Prg => [(progP C_Program K P w) g]) (fun (g : Prg) (Q : List (Nat × Nat) → Prop) => Q g.decs) (ownDI dN (fD K dN)))) (c_prog_size : PrpS P w K mg base 1 C_Program "size" (SpN (fun g : Prg => [(progP C_Program K P w) g]) (fun (g : Prg) (Q : Nat → Prop) => Q g.size) (fD K dN))) (F : Fun K "law" "law" s_law f fd) : FnG P w K mg base 14 f fd ["_law_script"] (SpN (fun g : (List Int) => [(fD K (dL dInt)) g]) (fun (g : List Int) (Q : Bool → Prop) => g.length ≤ 63 ∧ Q true) (fD K dB)) := by
  refine gwG_ok F sc_law (fun _ => rfl) (fun _ => inferInstance) fun cdv A outer s H E g hgu hr => ?_
  obtain ⟨v__law_script, hgen⟩ : ∃ x, x = g := ⟨g, rfl⟩
  subst hgen
  refine ⟨_, (pss_cons (ps_for PassesOwn.never rfl (pi_range1 (by rfl) B.range (pa_cons (p_max2 rfl B (pa_cons pe_int (pa_cons (p_min2 rfl B (pa_cons pe_int (pa_cons (p_len B (pa_cons (pv 0) pa_nil)) pa_nil))) pa_nil))) pa_nil)) (pg_name (i := 1) sc_law.nd rfl (by first | exact Or.inl rfl | exact Or.inr rfl))
      (pss_cons (ps_set (i := 2) sc_law.nd rfl (by first | exact Or.inl rfl | exact Or.inr rfl) (p_call c_law_filled hr (by decide) (pa_cons (pv 0) (pa_cons (pv 1) pa_nil))))
      (pss_one (ps_for PassesOwn.never rfl (pi_range1 (by rfl) B.range (pa_cons pe_int pa_nil)) (pg_name (i := 3) sc_law.nd rfl (by first | exact Or.inl rfl | exact Or.inr rfl))
        (pss_one (ps_if (pt_not (pt_val (p_callG c_law_right hgu hr (by decide) (pa_cons (pv 2) pa_nil))))
          (pss_one (ps_ret pe_bl))
          pss_nil))))))
    (pss_cons (ps_set (i := 4) sc_law.nd rfl (by first | exact Or.inl rfl | exact Or.inr rfl) (pe_dispN K P w hr.units (pps_cons (pe_tup (pa_cons pe_int (pa_cons (pe_tup (pa_cons pe_int (pa_cons pe_non pa_nil))) pa_nil))) pe_int (pps_cons (pe_tup (pa_cons pe_int (pa_cons (pe_tup (pa_cons pe_int (pa_cons pe_non pa_nil))) pa_nil))) pe_int (pps_cons (pe_tup (pa_cons pe_int (pa_cons (pe_tup (pa_cons pe_int (pa_cons pe_int pa_nil))) pa_nil))) pe_int (pps_cons (pe_tup (pa_cons pe_int (pa_cons (pe_tup (pa_cons pe_int (pa_cons pe_int pa_nil))) pa_nil))) pe_int (pps_cons (pe_tup (pa_cons pe_int (pa_cons (pe_tup (pa_cons pe_int (pa_cons pe_int pa_nil))) pa_nil))) pe_int (pps_cons (pe_tup (pa_cons pe_int (pa_cons (pe_tup (pa_cons pe_int (pa_cons pe_int pa_nil))) pa_nil))) pe_int pps_nil)))))) (by rfl) (by rfl) (by simp) (by decide)))
    (pss_cons (ps_asg (pe_tup (pa_cons pe_int (pa_cons pe_int pa_nil))) (pg_tup rfl (pgs_cons (pg_sub (pv 4) (pe_tup (pa_cons pe_int (pa_cons (pe_tup (pa_cons pe_int (pa_cons pe_int pa_nil))) pa_nil))) (set_dictN K P w hr.units)) (pgs_cons (pg_sub (pv 4) (pe_tup (pa_cons pe_int (pa_cons (pe_tup (pa_cons pe_int (pa_cons pe_int pa_nil))) pa_nil))) (set_dictN K P w hr.units)) pgs_nil))))
    (pss_cons (ps_lockP (ps_set (i := 5) sc_law.nd rfl (by first | exact Or.inl rfl | exact Or.inr rfl) (p_mk c_Program hr (by decide) (pa_cons pe_int (pa_cons pe_int (pa_cons (pe_tup (pa_cons (pe_tup (pa_cons pe_int (pa_cons pe_int pa_nil))) (pa_cons (pe_tup (pa_cons pe_int (pa_cons pe_int pa_nil))) pa_nil))) (pa_cons (pv 4) (pa_cons (pe_lockV (pe_disp (pps_cons pe_int pe_int (pps_cons pe_int pe_int pps_nil)) (by rfl) (by rfl) (by simp) (by decide))) pa_nil))))))))
    (pss_cons (ps_set (i := 6) sc_law.nd rfl (by first | exact Or.inl rfl | exact Or.inr rfl) (pe_lst (pa_cons (p_met c_prog_after hr (by decide) (pv 5) (pa_cons pe_int (pa_cons (pe_tup (pa_cons pe_int (pa_cons pe_int pa_nil))) pa_nil))) (pa_cons (p_met c_prog_after hr (by decide) (pv 5) (pa_cons pe_int (pa_cons (pe_tup (pa_cons pe_non (pa_cons pe_int pa_nil))) pa_nil))) (pa_cons (p_strO Bs c_prog_str hr (by decide) (pa_cons (pv 5) pa_nil)) (pa_cons (pe_slice sl_list (Sn.p_listDK rfl B (pa_cons (pe_lockV (p_prp c_prog_moves hr (by decide) (pv 5))) pa_nil)) po_none (po_some pe_int)) (pa_cons (Sn.p_listDI rfl B (pa_cons (pe_lockV (p_prp c_prog_decisions hr (by decide) (pv 5))) pa_nil)) pa_nil)))))))
    (pss_cons (ps_set (i := 7) sc_law.nd rfl (by first | exact Or.inl rfl | exact Or.inr rfl) (pe_lst (pa_cons pe_int (pa_cons pe_int (pa_cons pe_str (pa_cons (pe_lst (pa_cons (pe_tup (pa_cons pe_int (pa_cons (pe_tup (pa_cons pe_int (pa_cons pe_int pa_nil))) pa_nil))) (pa_cons (pe_tup (pa_cons pe_int (pa_cons (pe_tup (pa_cons pe_int (pa_cons pe_non pa_nil))) pa_nil))) (pa_cons (pe_tup (pa_cons pe_int (pa_cons (pe_tup (pa_cons pe_int (pa_cons pe_int pa_nil))) pa_nil))) pa_nil)))) (pa_cons (pe_lst (pa_cons pe_int (pa_cons pe_int pa_nil))) pa_nil)))))))
    (pss_cons (ps_set (i := 8) sc_law.nd rfl (by first | exact Or.inl rfl | exact Or.inr rfl) (p_mk c_Program hr (by decide) (pa_cons pe_int (pa_cons pe_int (pa_cons (pe_op op_repTA (pe_tup (pa_cons (pe_tup (pa_cons pe_int (pa_cons pe_int pa_nil))) pa_nil)) pe_int) (pa_cons (pe_lockV (pe_dispN K P w hr.units (pps_cons (pe_tup (pa_cons pe_int (pa_cons (pe_tup (pa_cons pe_int (pa_cons pe_non (pa_cons pe_int (pa_cons pe_non (pa_cons pe_int pa_nil)))))) pa_nil))) pe_int pps_nil) (by rfl) (by rfl) (by simp) (by decide))) (pa_cons (pe_lockV pe_dnewK) pa_nil)))))))
    (pss_cons (ps_set (i := 6) sc_law.nd rfl (by first | exact Or.inl rfl | exact Or.inr rfl) (pe_op op_cat (pv 6) (pe_lst (pa_cons (p_met c_prog_after hr (by decide) (pv 8) (pa_cons pe_int (pa_cons (pe_tup (pa_cons pe_int (pa_cons pe_non (pa_cons pe_int (pa_cons pe_non (pa_cons pe_int pa_nil)))))) pa_nil))) (pa_cons (p_met c_prog_after hr (by decide) (pv 8) (pa_cons pe_int (pa_cons (pe_tup (pa_cons pe_int (pa_cons pe_non (pa_cons pe_int (pa_cons pe_non (pa_cons pe_int pa_nil)))))) pa_nil))) (pa_cons (p_prp c_prog_size hr (by decide) (pv 8)) pa_nil))))))
    (pss_one (ps_ret (pe_and (pe_cmpR (op_eqD hr.units) (pv 6) (pe_op op_cat (pv 7) (pe_lst (pa_cons pe_int (pa_cons pe_int (pa_cons pe_int pa_nil))))) (nomark _)) (pe_one (pe_cmpR (op_eqD hr.units) (pe_lst (pa_cons (p_gint g_MAX_STATES) (pa_cons (p_gint g_MAX_MOVES) pa_nil))) (pe_lst (pa_cons pe_int (pa_cons pe_int pa_nil))) (nomark _)))))))))))))), _,
    (ts_for (S1 := Unit) (ρ1 := fun s1 => [some ((fD K (dL dInt)) v__law_script), none, none, none, none, none, none, none, none]) (κ1s := fun s1 => []) () (leV_some (leV_none (leV_none (leV_none (leV_none (leV_none (leV_none (leV_none (leV_none leV_nil))))))))) (fun _ _ _ h => h) (ti_rangeN (tr_cb c_maxN (ta_cons (tr_nat (K := K) 1) (ta_one (tr_cb c_minN (ta_cons (tr_nat (K := K) 5) (ta_one (tr_cb c_lenDL (ta_one (tr_var (R := (fD K (dL dInt))) (a := v__law_script) rfl)))))))))) (tg_name (R := (fD K dN)) 1) (fun _ => rfl)
      (fun s1 x2 => (ts_set (R := (fCk 3)) 2 (tr_call (ta_cons (tr_var (R := (fD K (dL dInt))) (a := v__law_script) rfl) (ta_one (tr_var (R := (fD K dN)) (a := x2) rfl)))) rfl (fun v_law_pot_3 => (ts_one (ts_for (S1 := Unit) (ρ1 := fun s4 => [some ((fD K (dL dInt)) v__law_script), some ((fD K dN) x2), some ((fCk 3) v_law_pot_3), none, none, none, none, none, none]) (κ1s := fun s4 => []) () (leV_some (leV_some (leV_some (leV_none (leV_none (leV_none (leV_none (leV_none (leV_none leV_nil))))))))) (fun _ _ _ h => h) (ti_rangeN (tr_nat (K := K) 4)) (tg_name (R := (fD K dN)) 3) (fun _ => rfl)
      (fun s4 x5 => (ts_one (ts_ifq (tt_not (tt_B (tr_call (ta_one (tr_var (R := (fCk 3)) (a := v_law_pot_3) rfl)))))
      (ts_retq (tr_bl (K := K)))
      (ts_nextq (ts_next () (leV_some (leV_some (leV_some (leV_none (leV_none (leV_none (leV_none (leV_none (leV_none leV_nil))))))))) (fun _ _ _ h => h))))))
      (fun s4 => (ts_next () (leV_some (leV_none (leV_none (leV_none (leV_none (leV_none (leV_none (leV_none (leV_none leV_nil))))))))) (fun _ _ _ h => h))))))))
      (fun s1 => (ts_newM (ow := ownDP K P w (dP dN (dT dO)) (fD K dN)) 4 (tm_dispP (d := (dP dN (dT dO))) (R := (fD K dN)) (by decide) (tps_cons (tr_pD (tr_pair (tr_nat (K := K) 0) (tr_tpD (tr_tup (R := (fD K dO)) (ta_lcons (R := (fD K dO)) (tr_sO (tr_nat (K := K) 0)) (ta_lcons (R := (fD K dO)) (tr_nO (tr_non (K := K))) (ta_lnil (R := (fD K dO))))))))) (tr_nat (K := K) 3) (tps_cons (tr_pD (tr_pair (tr_nat (K := K) 1) (tr_tpD (tr_tup (R := (fD K dO)) (ta_lcons (R := (fD K dO)) (tr_sO (tr_nat (K := K) 1)) (ta_lcons (R := (fD K dO)) (tr_nO (tr_non (K := K))) (ta_lnil (R := (fD K dO))))))))) (tr_nat (K := K) 4) (tps_cons (tr_pD (tr_pair (tr_nat (K := K) 0) (tr_tpD (tr_tup (R := (fD K dO)) (ta_lcons (R := (fD K dO)) (tr_sO (tr_nat (K := K) 0)) (ta_lcons (R := (fD K dO)) (tr_sO (tr_nat (K := K) 2)) (ta_lnil (R := (fD K dO))))))))) (tr_nat (K := K) 3) (tps_cons (tr_pD (tr_pair (tr_nat (K := K) 1) (tr_tpD (tr_tup (R := (fD K dO)) (ta_lcons (R := (fD K dO)) (tr_sO (tr_nat (K := K) 1)) (ta_lcons (R := (fD K dO)) (tr_sO (tr_nat (K := K) 2)) (ta_lnil (R := (fD K dO))))))))) (tr_nat (K := K) 4) (tps_cons (tr_pD (tr_pair (tr_nat (K := K) 2) (tr_tpD (tr_tup (R := (fD K dO)) (ta_lcons (R := (fD K dO)) (tr_sO (tr_nat (K := K) 0)) (ta_lcons (R := (fD K dO)) (tr_sO (tr_nat (K := K) 2)) (ta_lnil (R := (fD K dO))))))))) (tr_nat (K := K) 3) (tps_cons (tr_pD (tr_pair (tr_nat (K := K) 2) (tr_tpD (tr_tup (R := (fD K dO)) (ta_lcons (R := (fD K dO)) (tr_sO (tr_nat (K := K) 1)) (ta_lcons (R := (fD K dO)) (tr_sO (tr_nat (K := K) 2)) (ta_lnil (R := (fD K dO))))))))) (tr_nat (K := K) 4) tps_nil))))))) rfl rfl (fun l6 => (ts_putP2 (d := (dP dN (dT dO))) (R := (fD K dN)) (kvs := l6) (by decide) (tr_nat (K := K) 4) (tr_nat (K := K) 3) (tr_pD (tr_pair (tr_nat (K := K) 2) (tr_tpD (tr_tup (R := (fD K dO)) (ta_lcons (R := (fD K dO)) (tr_sO (tr_nat (K := K) 4)) (ta_lcons (R := (fD K dO)) (tr_sO (tr_nat (K := K) 2)) (ta_lnil (R := (fD K dO))))))))) (fun _ _ => (tr_pD (tr_pair (tr_nat (K := K) 2) (tr_tpD (tr_tup (R := (fD K dO)) (ta_lcons (R := (fD K dO)) (tr_sO (tr_nat (K := K) 3)) (ta_lcons (R := (fD K dO)) (tr_sO (tr_nat (K := K) 2)) (ta_lnil (R := (fD K dO)))))))))) (fun y7 y8 n9 n10 => (ts_lockOwnq (ow := ownDP K P w (dP dN (dT dO)) (fD K dN)) (i := 4) (g := (putA (putA l6 n9 y7) n10 y8)) (ts_set (R := (progP C_Program K P w)) 5 (tr_fact (p := PrOk) ok_prog (tr_map (R := (progP C_Program K P w)) mkP (tr_mk (ta_cons (tr_nat (K := K) 2) (ta_cons (tr_nat (K := K) 5) (ta_cons (tr_tpD (tr_tup (R := (fD K (dT dN))) (ta_lcons (R := (fD K (dT dN))) (tr_tpD (tr_tup (R := (fD K dN)) (ta_lcons (R := (fD K dN)) (tr_nat (K := K) 0) (ta_lcons (R := (fD K dN)) (tr_nat (K := K) 1) (ta_lnil (R := (fD K dN))))))) (ta_lcons (R := (fD K (dT dN))) (tr_tpD (tr_tup (R := (fD K dN)) (ta_lcons (R := (fD K dN)) (tr_nat (K := K) 2) (ta_lcons (R := (fD K dN)) (tr_nat (K := K) 2) (ta_lnil (R := (fD K dN))))))) (ta_lnil (R := (fD K (dT dN)))))))) (ta_cons (tr_var (R := (fDKZ K P w (dP dN (dT dO)) (fD K dN))) (a := (putA (putA l6 n9 y7) n10 y8)) rfl) (ta_one (tr_lockM (ow := ownDI dN (fD K dN)) (tm_dispI (d := dN) (R := (fD K dN)) (tps_cons (tr_nat (K := K) 4) (tr_nat (K := K) 1) (tps_cons (tr_nat (K := K) 3) (tr_nat (K := K) 0) tps_nil)))))))))))) rfl (fun v_law_tell_11 => (ts_set (R := (fLn (fD K dA))) 6 (tr_lst (R := (fD K dA)) (ta_lcons (R := (fD K dA)) (tr_any (tr_met (tr_var (R := (progP C_Program K P w)) (a := v_law_tell_11) rfl) is_prog (ta_cons (tr_nat (K := K) 2) (ta_one (tr_tpD (tr_tup (R := (fD K dO)) (ta_lcons (R := (fD K dO)) (tr_sO (tr_nat (K := K) 1)) (ta_lcons (R := (fD K dO)) (tr_sO (tr_nat (K := K) 2)) (ta_lnil (R := (fD K dO))))))))))) (ta_lcons (R := (fD K dA)) (tr_any (tr_met (tr_var (R := (progP C_Program K P w)) (a := v_law_tell_11) rfl) is_prog (ta_cons (tr_nat (K := K) 2) (ta_one (tr_tpD (tr_tup (R := (fD K dO)) (ta_lcons (R := (fD K dO)) (tr_nO (tr_non (K := K))) (ta_lcons (R := (fD K dO)) (tr_sO (tr_nat (K := K) 2)) (ta_lnil (R := (fD K dO))))))))))) (ta_lcons (R := (fD K dA)) (tr_any (tr_cb (c_strOwn is_prog) (ta_one (tr_var (R := (progP C_Program K P w)) (a := v_law_tell_11) rfl)))) (ta_lcons (R := (fD K dA)) (tr_any (tr_lnD (tr_slL (tr_cb (c_listDKl (d := (dP dN (dT dO)))) (ta_one (tr_ZK (tr_lockM (ow := ownDP K P w (dP dN (dT dO)) (fD K dN)) (tm_prp (ow := ownDP K P w (dP dN (dT dO)) (fD K dN)) (Ra := (progP C_Program K P w)) (hS := is_prog) (tr_var (R := (progP C_Program K P w)) (a := v_law_tell_11) rfl)))))) to_no (to_some (tr_nat (K := K) 3))))) (ta_lcons (R := (fD K dA)) (tr_any (tr_lnD (tr_cb (c_listDIl (K := K)) (ta_one (tr_ZI (tr_lockM (ow := ownDI dN (fD K dN)) (tm_prp (ow := ownDI dN (fD K dN)) (Ra := (progP C_Program K P w)) (hS := is_prog) (tr_var (R := (progP C_Program K P w)) (a := v_law_tell_11) rfl)))))))) (ta_lnil (R := (fD K dA))))))))) rfl (fun v_law_told_12 => (ts_set (R := (fLn (fD K dA))) 7 (tr_lst (R := (fD K dA)) (ta_lcons (R := (fD K dA)) (tr_any (tr_nat (K := K) 4)) (ta_lcons (R := (fD K dA)) (tr_any (tr_nat (K := K) 2)) (ta_lcons (R := (fD K dA)) (tr_any (tr_str (K := K))) (ta_lcons (R := (fD K dA)) (tr_any (tr_lnD (tr_lst (R := (fD K (dP dN (dT dO)))) (ta_lcons (R := (fD K (dP dN (dT dO)))) (tr_pD (tr_pair (tr_nat (K := K) 0) (tr_tpD (tr_tup (R := (fD K dO)) (ta_lcons (R := (fD K dO)) (tr_sO (tr_nat (K := K) 0)) (ta_lcons (R := (fD K dO)) (tr_sO (tr_nat (K := K) 2)) (ta_lnil (R := (fD K dO))))))))) (ta_lcons (R := (fD K (dP dN (dT dO)))) (tr_pD (tr_pair (tr_nat (K := K) 0) (tr_tpD (tr_tup (R := (fD K dO)) (ta_lcons (R := (fD K dO)) (tr_sO (tr_nat (K := K) 0)) (ta_lcons (R := (fD K dO)) (tr_nO (tr_non (K := K))) (ta_lnil (R := (fD K dO))))))))) (ta_lcons (R := (fD K (dP dN (dT dO)))) (tr_pD (tr_pair (tr_nat (K := K) 1) (tr_tpD (tr_tup (R := (fD K dO)) (ta_lcons (R := (fD K dO)) (tr_sO (tr_nat (K := K) 1)) (ta_lcons (R := (fD K dO)) (tr_sO (tr_nat (K := K) 2)) (ta_lnil (R := (fD K dO))))))))) (ta_lnil (R := (fD K (dP dN (dT dO))))))))))) (ta_lcons (R := (fD K dA)) (tr_any (tr_lnD (tr_lst (R := (fD K dN)) (ta_lcons (R := (fD K dN)) (tr_nat (K := K) 3) (ta_lcons (R := (fD K dN)) (tr_nat (K := K) 4) (ta_lnil (R := (fD K dN)))))))) (ta_lnil (R := (fD K dA))))))))) rfl (fun v_law_due_13 => (ts_set (R := (progP C_Program K P w)) 8 (tr_fact (p := PrOk) ok_prog (tr_map (R := (progP C_Program K P w)) mkP (tr_mk (ta_cons (tr_nat (K := K) 5) (ta_cons (tr_nat (K := K) 2) (ta_cons (tr_op o_rep1 (tr_tpD (tr_tup (R := (fD K (dT dN))) (ta_lcons (R := (fD K (dT dN))) (tr_tpD (tr_tup (R := (fD K dN)) (ta_lcons (R := (fD K dN)) (tr_nat (K := K) 0) (ta_lcons (R := (fD K dN)) (tr_nat (K := K) 0) (ta_lnil (R := (fD K dN))))))) (ta_lnil (R := (fD K (dT dN))))))) (tr_nat (K := K) 5)) (ta_cons (tr_lockM (ow := ownDP K P w (dP dN (dT dO)) (fD K dN)) (tm_dispP (d := (dP dN (dT dO))) (R := (fD K dN)) (by decide) (tps_cons (tr_pD (tr_pair (tr_nat (K := K) 0) (tr_tpD (tr_tup (R := (fD K dO)) (ta_lcons (R := (fD K dO)) (tr_sO (tr_nat (K := K) 0)) (ta_lcons (R := (fD K dO)) (tr_nO (tr_non (K := K))) (ta_lcons (R := (fD K dO)) (tr_sO (tr_nat (K := K) 1)) (ta_lcons (R := (fD K dO)) (tr_nO (tr_non (K := K))) (ta_lcons (R := (fD K dO)) (tr_sO (tr_nat (K := K) 0)) (ta_lnil (R := (fD K dO)))))))))))) (tr_nat (K := K) 1) tps_nil))) (ta_one (tr_lockM (ow := ownDI dN (fD K dN)) (tm_dnew (d := dN) (R := (fD K dN)))))))))))) rfl (fun v_law_wide_14 => (ts_set (R := (fLn (fD K dA))) 6 (tr_op (o_cat (R := (fD K dA))) (tr_var (R := (fLn (fD K dA))) (a := v_law_told_12) rfl) (tr_lst (R := (fD K dA)) (ta_lcons (R := (fD K dA)) (tr_any (tr_met (tr_var (R := (progP C_Program K P w)) (a := v_law_wide_14) rfl) is_prog (ta_cons (tr_nat (K := K) 0) (ta_one (tr_tpD (tr_tup (R := (fD K dO)) (ta_lcons (R := (fD K dO)) (tr_sO (tr_nat (K := K) 0)) (ta_lcons (R := (fD K dO)) (tr_nO (tr_non (K := K))) (ta_lcons (R := (fD K dO)) (tr_sO (tr_nat (K := K) 1)) (ta_lcons (R := (fD K dO)) (tr_nO (tr_non (K := K))) (ta_lcons (R := (fD K dO)) (tr_sO (tr_nat (K := K) 0)) (ta_lnil (R := (fD K dO)))))))))))))) (ta_lcons (R := (fD K dA)) (tr_any (tr_met (tr_var (R := (progP C_Program K P w)) (a := v_law_wide_14) rfl) is_prog (ta_cons (tr_nat (K := K) 0) (ta_one (tr_tpD (tr_tup (R := (fD K dO)) (ta_lcons (R := (fD K dO)) (tr_sO (tr_nat (K := K) 0)) (ta_lcons (R := (fD K dO)) (tr_nO (tr_non (K := K))) (ta_lcons (R := (fD K dO)) (tr_sO (tr_nat (K := K) 0)) (ta_lcons (R := (fD K dO)) (tr_nO (tr_non (K := K))) (ta_lcons (R := (fD K dO)) (tr_sO (tr_nat (K := K) 1)) (ta_lnil (R := (fD K dO)))))))))))))) (ta_lcons (R := (fD K dA)) (tr_any (tr_prp (Ra := (progP C_Program K P w)) (hS := is_prog) (tr_var (R := (progP C_Program K P w)) (a := v_law_wide_14) rfl))) (ta_lnil (R := (fD K dA)))))))) rfl (fun v_law_told_15 => (ts_ret (tr_and (tr_op (o_eqA (d := (dL dA)) (e := (dL dA))) (tr_lnD (tr_var (R := (fLn (fD K dA))) (a := v_law_told_15) rfl)) (tr_lnD (tr_op (o_cat (R := (fD K dA))) (tr_var (R := (fLn (fD K dA))) (a := v_law_due_13) rfl) (tr_lst (R := (fD K dA)) (ta_lcons (R := (fD K dA)) (tr_any (tr_nat (K := K) 1)) (ta_lcons (R := (fD K dA)) (tr_any (tr_nat (K := K) 0)) (ta_lcons (R := (fD K dA)) (tr_any (tr_nat (K := K) 5)) (ta_lnil (R := (fD K dA)))))))))) (tr_op (o_eqD (d := (dL dN))) (tr_lnD (tr_lst (R := (fD K dN)) (ta_lcons (R := (fD K dN)) (tr_nat (K := K) 400) (ta_lcons (R := (fD K dN)) (tr_nat (K := K) 4000) (ta_lnil (R := (fD K dN))))))) (tr_lnD (tr_lst (R := (fD K dN)) (ta_lcons (R := (fD K dN)) (tr_nat (K := K) 400) (ta_lcons (R := (fD K dN)) (tr_nat (K := K) 4000) (ta_lnil (R := (fD K dN)))))))))))))))))))) rfl))))))), ?_⟩
  rintro Q ⟨vs0, F0, hv⟩ hs
  try delta pur
  try dsimp only at hs hv ⊢
  obtain ⟨hl, q⟩ := hs
  refine ⟨by omega, forW_at (f := fun _ => ()) (fun i x hx P hP => ⟨hl, by decide, forW_at (f := fun _ => ()) (fun j y hy P' hP' => by rw [if_neg (by simp)]; exact hP') hP⟩) ?_⟩
  have len : ∀ {n m : Nat}, Nat.ble n m = true → n ≤ m := fun h => Nat.le_of_ble_eq_true h
  refine ⟨len rfl, len rfl, len rfl, len rfl, len rfl, len rfl, len rfl, len rfl, len rfl, len rfl, len rfl, len rfl, len rfl, len rfl, tell_raw, fun _ => ?_⟩
  have ok1 : PrOk tellP := tell_eq ▸ mkP_ok tell_raw
  have ok2 : PrOk wideP := wide_eq ▸ mkP_ok wide_raw
  rw [show mkP (2, 5, [[0, 1], [2, 2]], putA (putA (putsA [] [((0, [some 0, none]), 3), ((1, [some 1, none]), 4), ((0, [some 0, some 2]), 3), ((1, [some 1, some 2]), 4), ((2, [some 0, some 2]), 3), ((2, [some 1, some 2]), 4)]) (2, [some 4, some 2]) 4) (2, [some 3, some 2]) 3, putsA [] [(4, 1), (3, 0)]) = tellP from tell_eq]
  refine ⟨len rfl, ⟨ok1, by decide, hearB_ok (by decide)⟩, len rfl, ⟨ok1, by decide, hearB_ok (by decide)⟩, ok1, ⟨ok1, by decide, by decide⟩, len rfl, len rfl, len rfl, len rfl, len rfl, len rfl, len rfl, len rfl, len rfl, _, rfl, ⟨by decide, by decide⟩, len rfl, len rfl, wide_raw, fun _ => ?_⟩
  rw [show mkP (5, 2, List.replicate 5 [0, 0], putsA [] [((0, [some 0, none, some 1, none, some 0]), 1)], []) = wideP from wide_eq]
  refine ⟨len rfl, ⟨ok2, by decide, hearB_ok (by decide)⟩, len rfl, ⟨ok2, by decide, hearB_ok (by decide)⟩, len rfl, len rfl, ?_⟩
  refine andW_of true true (fun P hP => ⟨len rfl, len rfl, ⟨?_, due_sh⟩, ?_⟩) (fun _ P hP => ⟨len rfl, len rfl, by rw [decide_eq_true rfl]; exact hP⟩) q
  · exact (congrArg (fun l => SeqAt.shaped (dL dA l)) told_due).trans due_sh
  · exact (congrArg (fun l => P ((dL dA l).eqv (dL dA dueL))) told_due).mpr (by rw [due_ev]; exact hP)
end
end Wb

/-! old promises, as the new ones -/
namespace Wb
open PySem PySem.Spec PyProof.Rows L2 SlX StX Rs Ma Sn Tw
variable [Rs.Tabz]
section
variable {P : Program} {w : World} {K : PySem.W.Frag} {mg : Str → Option Value} {base : Heap} {C : Addr} {k : Nat} {x : Str}
theorem gf_toM {γ γ0 δ : Type} {pre : γ0 → Prop} {Rs : γ → List VP} {Rs0 : γ0 → List VP} {R0 : γ0 → VP} {R : δ → VP} {spec : γ → (δ → Prop) → Prop} (φ : γ → γ0) (f : γ → δ) (h1 : ∀ g Q, spec g Q → pre (φ g) ∧ Q (f g)) (h2 : ∀ g, Rs g = Rs0 (φ g)) (h3 : ∀ g Q, spec g Q → ∀ v F, R0 (φ g) v F → R (f g) v F)
    (h : Gf P w K mg base k x (SpF pre Rs0 R0)) : Gf P w K mg base k x (SpN Rs spec R) :=
  let ⟨a, fd, ps, F, m1, m2, m3⟩ := h
  ⟨a, fd, ps, F.imp fun vs H Q E ⟨g, F0, N, P, A, hv, hs, q⟩ => ⟨φ g, F0, N, (h1 g P hs).1, A, h2 g ▸ hv, fun v F' H' e A' r => q _ v F' H' e A' (h1 g P hs).2 (h3 g P hs v F' r)⟩, m1, m2, m3⟩
theorem between_toN (h : Gf P w K mg base k x (spIsBetween K)) : Gf P w K mg base k x (SpN (fun g : PyData × Int × Int => [fD K dA g.1, fD K dInt g.2.1, fD K dInt g.2.2]) (fun (g : PyData × Int × Int) (Q : Bool → Prop) => Q (isBt g.1 g.2.1 g.2.2)) (fD K dB)) :=
  gf_toM (fun g => g) (fun g => isBt g.1 g.2.1 g.2.2) (fun g Q q => ⟨True.intro, q⟩) (fun _ => rfl) (fun _ _ _ _ _ r => r) h
theorem between_toB (h : Gf P w K mg base k x (spIsBetween K)) : Gf P w K mg base k x (SpN (fun g : PyData × Int × Int => [fD K dA g.1, fD K dInt g.2.1, fD K dInt g.2.2]) (fun (g : PyData × Int × Int) (Q : Bool → Prop) => Q (btI g.1 g.2.1 g.2.2)) (fD K dB)) := by
  rw [btI_fun]; exact between_toN h
theorem progX_un {C : Addr} {Ds : List Addr} {p : Prg} {v : V} {F : Hp} : progX C K P w Ds p v F → progP C K P w p v F := fun ⟨h1, a, dx, vs, xs, h2, h3, h4, h5, h6⟩ => by
  obtain ⟨v1, v2, v3, v4, v5, rfl, g1, g2, g3, g4, g5⟩ := each5 h6
  exact ⟨h1, a, dx, vs, _, h2, h3, h4, h5, g1, g2, g3, g4.1, g5.1, True.intro⟩
theorem mk_unT (h : MkF P w K mg base k x C (spProgT C K P w)) : MkF P w K mg base k x C (spProgInit C K P w) :=
  let ⟨f, fd, ps, M, F, h1, h2⟩ := h.ex
  ⟨f, fd, ps, M, F.imp fun vs H Q E ⟨g, F0, N, a, dx, ws, e1, hp, A, hv, q⟩ => by
    obtain ⟨g1, g2, g3, g4, g5⟩ := g
    obtain ⟨v1, v2, v3, v4, v5, rfl, r1, r2, r3, r4, r5⟩ := each5 hv
    obtain ⟨D4, o4, zs4, e4, m4⟩ := id r4
    obtain ⟨D5, o5, zs5, e5, m5⟩ := id r5
    exact ⟨((g1, g2, g3, g4, g5), D4, D5), F0, N, a, dx, _, e1, hp, A, ⟨r1, r2, r3, ⟨e4, r4⟩, ⟨e5, r5⟩, True.intro⟩, fun F' H' e A' hr => q F' H' e A' (progX_un hr)⟩, h1, h2⟩
end
end Wb

namespace Wb
open PySem PySem.Spec PyProof.Rows L2 SlX StX Rs Ma Tw Sn
variable [TZ : Rs.Tabz]
theorem law_binds {K : PySem.W.Frag} {f : Addr} {fd : FuncData} (F : Fun K "law" "law" s_law f fd) (s : Shared) (v : Value) : BindsTo s fd ⟨[v], []⟩ [("_law_script", v)] := by
  obtain ⟨oc, od, kV, doc, pm, an, cdv, ct, osl, rfl, lk, hcd⟩ := F.ex
  exact .of_eq rfl
theorem all_mk {P : Program} {w : World} {K : PySem.W.Frag} {h : Heap} {mg : Str → Option Value} {fa C_Program : Addr} {t_MAX_STATES t_MAX_MOVES t_MAX_HOUSES t_GREATEST : Tok} (X : K.In h) (G : h.Ns mainGlobals mg) (hfa : mg "law" = some (.ref fa))
    (t_is_integer : TopFn K "is_integer" s_is_integer ["value"])
    (t_is_between : TopFn K "is_between" s_is_between ["value", "low", "high"])
    (t_require_number : TopFn K "require_number" s_require_number ["value", "low", "high"])
    (t__law_filled : TopFn K "_law_filled" s__law_filled ["_law_script", "_law_at"])
    (t__law_dip : TopFn K "_law_dip" s__law_dip ["_law_pot", "_law_total"])
    (t__law_choose : TopFn K "_law_choose" s__law_choose ["_law_pot", "_law_items"])
    (t__law_shuffled : TopFn K "_law_shuffled" s__law_shuffled ["_law_pot", "_law_items"])
    (t_is_state : TopFn K "is_state" s_is_state ["value", "states"])
    (t_are_starts : TopFn K "are_starts" s_are_starts ["size", "states", "value"])
    (t_is_hearing : TopFn K "is_hearing" s_is_hearing ["size", "states", "state", "value"])
    (t_are_decisions : TopFn K "are_decisions" s_are_decisions ["states", "value"])
    (t_is_let : TopFn K "is_let" s_is_let ["decisions", "state", "later"])
    (t_are_moves : TopFn K "are_moves" s_are_moves ["size", "states", "decisions", "value"])
    (t_are_parts : TopFn K "are_parts" s_are_parts ["size", "states", "starts", "moves", "decisions"])
    (t_place_of_move : TopFn K "place_of_move" s_place_of_move ["key", "states"])
    (t_first_of : TopFn K "first_of" s_first_of ["pair"])
    (t_sorted_moves : TopFn K "sorted_moves" s_sorted_moves ["moves", "states"])
    (t_is_program : TopFn K "is_program" s_is_program ["size", "states", "value"])
    (t__law_key : TopFn K "_law_key" s__law_key ["_law_pot", "_law_size", "_law_states"])
    (t__law_decided : TopFn K "_law_decided" s__law_decided ["_law_pot", "_law_states"])
    (t__law_targets : TopFn K "_law_targets" s__law_targets ["_law_decisions", "_law_state", "_law_states"])
    (t__law_moves : TopFn K "_law_moves" s__law_moves ["_law_pot", "_law_size", "_law_states", "_law_decisions", "_law_many"])
    (t__law_parts : TopFn K "_law_parts" s__law_parts ["_law_pot", "_law_size", "_law_most", "_law_many"])
    (t__law_made : TopFn K "_law_made" s__law_made ["_law_size", "_law_parts_here"])
    (t__law_place : TopFn K "_law_place" s__law_place ["_law_key_here", "_law_states"])
    (t__law_is_rising : TopFn K "_law_is_rising" s__law_is_rising ["_law_keys", "_law_states"])
    (t__law_turned : TopFn K "_law_turned" s__law_turned ["_law_pot", "_law_found"])
    (t__law_right : TopFn K "_law_right" s__law_right ["_law_pot"])
    (t_law : TopFn K "law" s_law ["_law_script"])
    (m_ProgramU_initU : MetFn K C_Program "__init__" "Program.__init__" s_Programu__initu_ ["self", "size", "states", "starts", "moves", "decisions"])
    (m_ProgramU_lenU : MetFn K C_Program "__len__" "Program.__len__" s_Programu__lenu_ ["self"])
    (m_ProgramU_eqU : MetFn K C_Program "__eq__" "Program.__eq__" s_Programu__equ_ ["self", "other"])
    (m_ProgramU_strU : MetFn K C_Program "__str__" "Program.__str__" s_Programu__stru_ ["self"])
    (m_Program_require_key : MetFn K C_Program "require_key" "Program.require_key" s_Program_require_key ["self", "state", "heard"])
    (m_Program_after : MetFn K C_Program "after" "Program.after" s_Program_after ["self", "state", "heard"])
    (p_Program_size : PrpFn K C_Program "size" "Program.size" s_Program_size)
    (p_Program_states : PrpFn K C_Program "states" "Program.states" s_Program_states)
    (p_Program_starts : PrpFn K C_Program "starts" "Program.starts" s_Program_starts)
    (p_Program_moves : PrpFn K C_Program "moves" "Program.moves" s_Program_moves)
    (p_Program_decisions : PrpFn K C_Program "decisions" "Program.decisions" s_Program_decisions)
    (sl_Program_own_size : SlotAt K C_Program "own_size" 2)
    (sl_Program_own_states : SlotAt K C_Program "own_states" 4)
    (sl_Program_own_starts : SlotAt K C_Program "own_starts" 3)
    (sl_Program_own_moves : SlotAt K C_Program "own_moves" 1)
    (sl_Program_own_decisions : SlotAt K C_Program "own_decisions" 0)
    (z_len : PySem.W.nsIn K mainGlobals "len" = some none)
    (z_range : PySem.W.nsIn K mainGlobals "range" = some none)
    (z_list : PySem.W.nsIn K mainGlobals "list" = some none)
    (z_tuple : PySem.W.nsIn K mainGlobals "tuple" = some none)
    (z_set : PySem.W.nsIn K mainGlobals "set" = some none)
    (z_sorted : PySem.W.nsIn K mainGlobals "sorted" = some none)
    (z_all : PySem.W.nsIn K mainGlobals "all" = some none)
    (z_isinstance : PySem.W.nsIn K mainGlobals "isinstance" = some none)
    (z_int : PySem.W.nsIn K mainGlobals "int" = some none)
    (z_bool : PySem.W.nsIn K mainGlobals "bool" = some none)
    (z_enumerate : PySem.W.nsIn K mainGlobals "enumerate" = some none)
    (z_zip : PySem.W.nsIn K mainGlobals "zip" = some none)
    (z_min : PySem.W.nsIn K mainGlobals "min" = some none)
    (z_max : PySem.W.nsIn K mainGlobals "max" = some none)
    (z_abs : PySem.W.nsIn K mainGlobals "abs" = some none)
    (z_str : PySem.W.nsIn K mainGlobals "str" = some none)
    (z_repr : PySem.W.nsIn K mainGlobals "repr" = some none)
    (z_dict : PySem.W.nsIn K mainGlobals "dict" = some none)
    (gi_MAX_STATES : PySem.W.nsIn K mainGlobals "MAX_STATES" = some (some (.int (400) t_MAX_STATES)))
    (gi_MAX_MOVES : PySem.W.nsIn K mainGlobals "MAX_MOVES" = some (some (.int (4000) t_MAX_MOVES)))
    (gi_MAX_HOUSES : PySem.W.nsIn K mainGlobals "MAX_HOUSES" = some (some (.int (5) t_MAX_HOUSES)))
    (gi_GREATEST : PySem.W.nsIn K mainGlobals "GREATEST" = some (some (.int (10 ^ 60) t_GREATEST)))
    (a_Program : PySem.W.nsIn K mainGlobals "Program" = some (some (.ref C_Program)))
    (nodb : Tw.noDB K C_Program = true)
    (pg_Program : PySem.W.plainGet K C_Program Str.empty = true)
    (ic_Program : PySem.W.isClsIn K C_Program = true)
    (po_Program : PySem.W.plainOver K C_Program = true)
    (sa_Program : PySem.W.findIn K (.ref C_Program) "__setattr__" = some (some (.builtin "object.__setattr__")))
    (ca_Program : PySem.W.findIn K (.ref C_Program) "__class__" = some (some (.builtin "object.__class__")))
    (cm_Program : PySem.W.mroIn K C_Program (.type "object") = some true)
    (nf_Program : PySem.W.notFirst K C_Program (.ref C_Program) = true)
    (ne_Program : PySem.W.findIn K (.ref C_Program) "__ne__" = some (some (.builtin "object.__ne__")))
    (mk_Program : PySem.W.makesIn K C_Program = true)
    (kc_Program : PySem.W.keepIn K (.ref C_Program) = true)
    (cn : PySem.W.specialIn K (.builtin "object.__class__") "__get__" = some (some (.builtin "getset_descriptor.__get__")))
    (ct : PySem.W.takesIn K (.builtin "object.__class__") = some true)
    : ∃ fd : FuncData, (∀ (s : Shared) (v : Value), BindsTo s fd ⟨[v], []⟩ [("_law_script", v)]) ∧ ∀ base : Heap, K.In base → base.Ns mainGlobals mg → FnG P w K mg base 14 fa fd ["_law_script"] (spLaw K) := by
  obtain ⟨f_is_integer, d_is_integer, a_is_integer, F_is_integer, b_is_integer⟩ := t_is_integer
  obtain ⟨f_is_between, d_is_between, a_is_between, F_is_between, b_is_between⟩ := t_is_between
  obtain ⟨f_require_number, d_require_number, a_require_number, F_require_number, b_require_number⟩ := t_require_number
  obtain ⟨f__law_filled, d__law_filled, a__law_filled, F__law_filled, b__law_filled⟩ := t__law_filled
  obtain ⟨f__law_dip, d__law_dip, a__law_dip, F__law_dip, b__law_dip⟩ := t__law_dip
  obtain ⟨f__law_choose, d__law_choose, a__law_choose, F__law_choose, b__law_choose⟩ := t__law_choose
  obtain ⟨f__law_shuffled, d__law_shuffled, a__law_shuffled, F__law_shuffled, b__law_shuffled⟩ := t__law_shuffled
  obtain ⟨f_is_state, d_is_state, a_is_state, F_is_state, b_is_state⟩ := t_is_state
  obtain ⟨f_are_starts, d_are_starts, a_are_starts, F_are_starts, b_are_starts⟩ := t_are_starts
  obtain ⟨f_is_hearing, d_is_hearing, a_is_hearing, F_is_hearing, b_is_hearing⟩ := t_is_hearing
  obtain ⟨f_are_decisions, d_are_decisions, a_are_decisions, F_are_decisions, b_are_decisions⟩ := t_are_decisions
  obtain ⟨f_is_let, d_is_let, a_is_let, F_is_let, b_is_let⟩ := t_is_let
  obtain ⟨f_are_moves, d_are_moves, a_are_moves, F_are_moves, b_are_moves⟩ := t_are_moves
  obtain ⟨f_are_parts, d_are_parts, a_are_parts, F_are_parts, b_are_parts⟩ := t_are_parts
  obtain ⟨f_place_of_move, d_place_of_move, a_place_of_move, F_place_of_move, b_place_of_move⟩ := t_place_of_move
  obtain ⟨f_first_of, d_first_of, a_first_of, F_first_of, b_first_of⟩ := t_first_of
  obtain ⟨f_sorted_moves, d_sorted_moves, a_sorted_moves, F_sorted_moves, b_sorted_moves⟩ := t_sorted_moves
  obtain ⟨f_is_program, d_is_program, a_is_program, F_is_program, b_is_program⟩ := t_is_program
  obtain ⟨f__law_key, d__law_key, a__law_key, F__law_key, b__law_key⟩ := t__law_key
  obtain ⟨f__law_decided, d__law_decided, a__law_decided, F__law_decided, b__law_decided⟩ := t__law_decided
  obtain ⟨f__law_targets, d__law_targets, a__law_targets, F__law_targets, b__law_targets⟩ := t__law_targets
  obtain ⟨f__law_moves, d__law_moves, a__law_moves, F__law_moves, b__law_moves⟩ := t__law_moves
  obtain ⟨f__law_parts, d__law_parts, a__law_parts, F__law_parts, b__law_parts⟩ := t__law_parts
  obtain ⟨f__law_made, d__law_made, a__law_made, F__law_made, b__law_made⟩ := t__law_made
  obtain ⟨f__law_place, d__law_place, a__law_place, F__law_place, b__law_place⟩ := t__law_place
  obtain ⟨f__law_is_rising, d__law_is_rising, a__law_is_rising, F__law_is_rising, b__law_is_rising⟩ := t__law_is_rising
  obtain ⟨f__law_turned, d__law_turned, a__law_turned, F__law_turned, b__law_turned⟩ := t__law_turned
  obtain ⟨f__law_right, d__law_right, a__law_right, F__law_right, b__law_right⟩ := t__law_right
  obtain ⟨f_law, d_law, a_law, F_law, b_law⟩ := t_law
  obtain ⟨f_ProgramU_initU, d_ProgramU_initU, a_ProgramU_initU, i_ProgramU_initU, F_ProgramU_initU, b_ProgramU_initU⟩ := m_ProgramU_initU
  obtain ⟨f_ProgramU_lenU, d_ProgramU_lenU, a_ProgramU_lenU, i_ProgramU_lenU, F_ProgramU_lenU, b_ProgramU_lenU⟩ := m_ProgramU_lenU
  obtain ⟨f_ProgramU_eqU, d_ProgramU_eqU, a_ProgramU_eqU, i_ProgramU_eqU, F_ProgramU_eqU, b_ProgramU_eqU⟩ := m_ProgramU_eqU
  obtain ⟨f_ProgramU_strU, d_ProgramU_strU, a_ProgramU_strU, i_ProgramU_strU, F_ProgramU_strU, b_ProgramU_strU⟩ := m_ProgramU_strU
  obtain ⟨f_Program_require_key, d_Program_require_key, a_Program_require_key, i_Program_require_key, F_Program_require_key, b_Program_require_key⟩ := m_Program_require_key
  obtain ⟨f_Program_after, d_Program_after, a_Program_after, i_Program_after, F_Program_after, b_Program_after⟩ := m_Program_after
  obtain ⟨q_Program_size, f_Program_size, d_Program_size, a_Program_size, s_Program_size, t_Program_size, r_Program_size, F_Program_size, b_Program_size⟩ := p_Program_size
  obtain ⟨q_Program_states, f_Program_states, d_Program_states, a_Program_states, s_Program_states, t_Program_states, r_Program_states, F_Program_states, b_Program_states⟩ := p_Program_states
  obtain ⟨q_Program_starts, f_Program_starts, d_Program_starts, a_Program_starts, s_Program_starts, t_Program_starts, r_Program_starts, F_Program_starts, b_Program_starts⟩ := p_Program_starts
  obtain ⟨q_Program_moves, f_Program_moves, d_Program_moves, a_Program_moves, s_Program_moves, t_Program_moves, r_Program_moves, F_Program_moves, b_Program_moves⟩ := p_Program_moves
  obtain ⟨q_Program_decisions, f_Program_decisions, d_Program_decisions, a_Program_decisions, s_Program_decisions, t_Program_decisions, r_Program_decisions, F_Program_decisions, b_Program_decisions⟩ := p_Program_decisions
  have e := hfa.symm.trans (PySem.W.mg_of X G a_law)
  cases e
  have sc_Program : SCls K C_Program := ⟨pg_Program, ic_Program, po_Program, sa_Program⟩
  have W_prog : ProgK K C_Program := ⟨sc_Program, ⟨ca_Program, cn, ct, cm_Program⟩, kit_self, ⟨sc_Program, sl_Program_own_size⟩, ⟨sc_Program, sl_Program_own_states⟩, ⟨sc_Program, sl_Program_own_starts⟩, ⟨sc_Program, sl_Program_own_moves⟩, ⟨sc_Program, sl_Program_own_decisions⟩⟩
  have m_Program : mg "Program" = some (.ref C_Program) := PySem.W.mg_of X G a_Program
  have nf_prog := nf_Program
  have B : Bf mg := ⟨PySem.W.mg_none_of X G z_len, PySem.W.mg_none_of X G z_range, PySem.W.mg_none_of X G z_list, PySem.W.mg_none_of X G z_tuple, PySem.W.mg_none_of X G z_set, PySem.W.mg_none_of X G z_sorted, PySem.W.mg_none_of X G z_all, PySem.W.mg_none_of X G z_isinstance, PySem.W.mg_none_of X G z_int, PySem.W.mg_none_of X G z_bool, PySem.W.mg_none_of X G z_enumerate, PySem.W.mg_none_of X G z_zip, PySem.W.mg_none_of X G z_min, PySem.W.mg_none_of X G z_max, PySem.W.mg_none_of X G z_abs, PySem.W.mg_none_of X G z_str, PySem.W.mg_none_of X G z_repr, PySem.W.mg_none_of X G z_dict⟩
  have Bs : mg "str" = none := PySem.W.mg_none_of X G z_str
  have g_MAX_STATES : GInt mg "MAX_STATES" (400) := ⟨_, PySem.W.mg_of X G gi_MAX_STATES⟩
  have g_MAX_MOVES : GInt mg "MAX_MOVES" (4000) := ⟨_, PySem.W.mg_of X G gi_MAX_MOVES⟩
  have g_MAX_HOUSES : GInt mg "MAX_HOUSES" (5) := ⟨_, PySem.W.mg_of X G gi_MAX_HOUSES⟩
  have g_GREATEST : GInt mg "GREATEST" (10 ^ 60) := ⟨_, PySem.W.mg_of X G gi_GREATEST⟩
  have N_prog := Tw.noDB_ok nodb
  refine ⟨d_law, ?_, fun base _ _ => ?_⟩
  · exact law_binds F_law
  have o_is_integer : Gf P w K mg base 1 "is_integer" _ := ok_is_integer B g_GREATEST F_is_integer (PySem.W.mg_of X G a_is_integer) b_is_integer
  have o_is_between : Gf P w K mg base 2 "is_between" _ := ok_is_between o_is_integer F_is_between (PySem.W.mg_of X G a_is_between) b_is_between
  have c_is_between : Gf P w K mg base 2 "is_between" (SpN (fun g : PyData × Int × Int => [(fD K dA) g.1, (fD K dInt) g.2.1, (fD K dInt) g.2.2]) (fun (g : PyData × Int × Int) (Q : Bool → Prop) => Q (btI g.1 g.2.1 g.2.2)) (fD K dB)) := between_toB o_is_between
  have o_require_number : Gf P w K mg base 3 "require_number" _ := ok_require_number o_is_between F_require_number (PySem.W.mg_of X G a_require_number) b_require_number
  have c_require_number : Gf P w K mg base 3 "require_number" (SpN (fun g : PyData × Int × Int => [(fD K dA) g.1, (fD K dInt) g.2.1, (fD K dInt) g.2.2]) (fun (g : PyData × Int × Int) (Q : Unit → Prop) => isBt g.1 g.2.1 g.2.2 = true ∧ Q ()) (fD K dU)) := Gf.toN (f := fun _ => ()) o_require_number
  have o_law_filled : Gf P w K mg base 1 "_law_filled" _ := ok_filled B F__law_filled (PySem.W.mg_of X G a__law_filled) b__law_filled
  have c_law_filled : Gf P w K mg base 1 "_law_filled" (SpN (fun g : (List Int) × Nat => [(fD K (dL dInt)) g.1, (fD K dN) g.2]) (fun (g : List Int × Nat) (Q : Unit → Prop) => g.1.length ≤ 63 ∧ Q ()) (fCk 3)) := cask_toN o_law_filled
  have o_law_dip : Gf P w K mg base 1 "_law_dip" _ := ok_dip B F__law_dip (PySem.W.mg_of X G a__law_dip) b__law_dip
  have c_law_dip : Gf P w K mg base 1 "_law_dip" (SpN (fun g : Unit × Nat => [(fCk 3) g.1, (fD K dN) g.2]) (fun (g : Unit × Nat) (Q : Nat → Prop) => (1 ≤ g.2 ∧ g.2 ≤ 1000) ∧ ∀ n, n < g.2 → Q n) (fD K dN)) := scoop_toN o_law_dip
  have c_law_choose : Gf P w K mg base 2 "_law_choose" (SpN (fun g : Unit × (List Nat) => [(fCk 3) g.1, (fLn (fD K dN)) g.2]) spAny (fD K dN)) := ok__law_choose B c_law_dip F__law_choose (PySem.W.mg_of X G a__law_choose) b__law_choose
  have c_law_choose_1 : Gf P w K mg base 2 "_law_choose" (SpN (fun g : Unit × (List (Option Nat)) => [(fCk 3) g.1, (fLn (fD K dO)) g.2]) spAny (fD K dO)) := ok__law_choose B c_law_dip F__law_choose (PySem.W.mg_of X G a__law_choose) b__law_choose
  have c_law_shuffled : Gf P w K mg base 2 "_law_shuffled" (SpN (fun g : Unit × (List Nat) => [(fCk 3) g.1, (fLn (fD K dN)) g.2]) spPerm (fLn (fD K dN))) := ok__law_shuffled B c_law_dip F__law_shuffled (PySem.W.mg_of X G a__law_shuffled) b__law_shuffled
  have c_law_shuffled_1 : Gf P w K mg base 2 "_law_shuffled" (SpN (fun g : Unit × (List ((Nat × (List (Option Nat))) × Nat)) => [(fCk 3) g.1, (fLn (fP K (fD K (dP dN (dT dO))) (fD K dN))) g.2]) spPerm (fLn (fP K (fD K (dP dN (dT dO))) (fD K dN)))) := ok__law_shuffled B c_law_dip F__law_shuffled (PySem.W.mg_of X G a__law_shuffled) b__law_shuffled
  have c_law_shuffled_2 : Gf P w K mg base 2 "_law_shuffled" (SpN (fun g : Unit × (List (Nat × Nat)) => [(fCk 3) g.1, (fLn (fD K (dP dN dN))) g.2]) spPerm (fLn (fD K (dP dN dN)))) := ok__law_shuffled B c_law_dip F__law_shuffled (PySem.W.mg_of X G a__law_shuffled) b__law_shuffled
  have c_is_state : Gf P w K mg base 3 "is_state" (SpN (fun g : PyData × Nat => [(fD K dA) g.1, (fD K dN) g.2]) (fun (g : PyData × Nat) (Q : Bool → Prop) => Q (btI g.1 0 ((g.2 : Int) - 1))) (fD K dB)) := ok_is_state B c_is_between F_is_state (PySem.W.mg_of X G a_is_state) b_is_state
  have c_are_starts : Gf P w K mg base 4 "are_starts" (SpN (fun g : Nat × Nat × (List (List Nat)) => [(fD K dN) g.1, (fD K dN) g.2.1, (fD K (dT (dT dN))) g.2.2]) (fun (g : Nat × Nat × Rows) (Q : Bool → Prop) => (g.1 ≤ 5 ∧ g.2.1 ≤ 400 ∧ StartsOk g.1 g.2.1 g.2.2) ∧ Q true) (fD K dB)) := ok_are_starts B c_is_state F_are_starts (PySem.W.mg_of X G a_are_starts) b_are_starts
  have c_is_hearing : Gf P w K mg base 4 "is_hearing" (SpN (fun g : Nat × Nat × Nat × (List (Option Nat)) => [(fD K dN) g.1, (fD K dN) g.2.1, (fD K dN) g.2.2.1, (fD K (dT dO)) g.2.2.2]) (fun (g : Nat × Nat × Nat × Hrd) (Q : Bool → Prop) => (g.1 ≤ 5 ∧ g.2.1 ≤ 400 ∧ HearOk g.1 g.2.1 g.2.2.1 g.2.2.2) ∧ Q true) (fD K dB)) := ok_is_hearing B c_is_state F_is_hearing (PySem.W.mg_of X G a_is_hearing) b_is_hearing
  have c_are_decisions : Gf P w K mg base 4 "are_decisions" (SpN (fun g : Nat × (List (Nat × Nat)) => [(fD K dN) g.1, (fDZ dN (fD K dN)) g.2]) (fun (g : Nat × List (Nat × Nat)) (Q : Bool → Prop) => (g.1 ≤ 400 ∧ DecsOk g.1 g.2) ∧ Q true) (fD K dB)) := ok_are_decisions B c_is_state c_is_between F_are_decisions (PySem.W.mg_of X G a_are_decisions) b_are_decisions
  have c_is_let : Gf P w K mg base 1 "is_let" (SpN (fun g : (List (Nat × Nat)) × Nat × Nat => [(fDZ dN (fD K dN)) g.1, (fD K dN) g.2.1, (fD K dN) g.2.2]) (fun (g : List (Nat × Nat) × Nat × Nat) (Q : Bool → Prop) => Q (letB g.1 g.2.1 g.2.2)) (fD K dB)) := ok_is_let B F_is_let (PySem.W.mg_of X G a_is_let) b_is_let
  have c_are_moves : Gf P w K mg base 5 "are_moves" (SpN (fun g : Nat × Nat × (List (Nat × Nat)) × (List ((Nat × (List (Option Nat))) × Nat)) => [(fD K dN) g.1, (fD K dN) g.2.1, (fDZ dN (fD K dN)) g.2.2.1, (fDKZ K P w (dP dN (dT dO)) (fD K dN)) g.2.2.2]) (fun (g : Nat × Nat × List (Nat × Nat) × List (Mvk × Nat)) (Q : Bool → Prop) => (g.1 ≤ 5 ∧ g.2.1 ≤ 400 ∧ MovesOk g.1 g.2.1 g.2.2.1 g.2.2.2) ∧ Q true) (fD K dB)) := ok_are_moves B g_MAX_MOVES c_is_state c_is_hearing c_is_let F_are_moves (PySem.W.mg_of X G a_are_moves) b_are_moves
  have c_are_parts : Gf P w K mg base 6 "are_parts" (SpN (fun g : Nat × Nat × (List (List Nat)) × (List ((Nat × (List (Option Nat))) × Nat)) × (List (Nat × Nat)) => [(fD K dN) g.1, (fD K dN) g.2.1, (fD K (dT (dT dN))) g.2.2.1, (fDKZ K P w (dP dN (dT dO)) (fD K dN)) g.2.2.2.1, (fDZ dN (fD K dN)) g.2.2.2.2]) (fun (g : Nat × Nat × Rows × List (Mvk × Nat) × List (Nat × Nat)) (Q : Bool → Prop) => RawOk g ∧ Q true) (fD K dB)) := ok_are_parts B c_are_decisions c_are_starts c_are_moves F_are_parts (PySem.W.mg_of X G a_are_parts) b_are_parts
  have c_place_of_move : Gf P w K mg base 1 "place_of_move" (SpN (fun g : (Nat × (List (Option Nat))) × Nat => [(fD K (dP dN (dT dO))) g.1, (fD K dN) g.2]) (fun (g : Mvk × Nat) (Q : Nat × List Nat → Prop) => g.1.2.length ≤ 5 ∧ Q (placeOf g.2 g.1)) (fD K (dP dN (dT dN)))) := ok_place_of_move B F_place_of_move (PySem.W.mg_of X G a_place_of_move) b_place_of_move
  have c_first_of : Gf P w K mg base 1 "first_of" (SpN (fun g : (PyData × PyData) => [(fD K (dP dA dA)) g]) (fun (g : PyData × PyData) (Q : PyData → Prop) => Q g.1) (fD K dA)) := ok_first_of B F_first_of (PySem.W.mg_of X G a_first_of) b_first_of
  have c_sorted_moves : Gf P w K mg base 3 "sorted_moves" (SpO (fun g : (List ((Nat × (List (Option Nat))) × Nat)) × Nat => [(fDKZ K P w (dP dN (dT dO)) (fD K dN)) g.1, (fD K dN) g.2]) (fun (g : List (Mvk × Nat) × Nat) (Q : List (Mvk × Nat) → Prop) => (g.1.length ≤ 1000 ∧ (g.1.map (·.1)).Nodup ∧ ∀ x ∈ g.1, x.1.2.length ≤ 5) ∧ Q (sortMoves g.2 g.1)) (ownDP K P w (dP dN (dT dO)) (fD K dN))) := ok_sorted_movesO B c_first_of c_place_of_move F_sorted_moves (PySem.W.mg_of X G a_sorted_moves) b_sorted_moves
  have c_ProgramT : MkF P w K mg base 8 "Program" C_Program (spProgT C_Program K P w) := ⟨f_ProgramU_initU, d_ProgramU_initU, _, ⟨mk_Program, a_ProgramU_initU, i_ProgramU_initU, kc_Program⟩, ok_prog_initT B W_prog g_MAX_HOUSES g_MAX_STATES c_is_between c_are_parts c_sorted_moves F_ProgramU_initU, m_Program, b_ProgramU_initU⟩
  have c_Program : MkF P w K mg base 8 "Program" C_Program (spProgInit C_Program K P w) := mk_unT c_ProgramT
  have c_prog_size : PrpS P w K mg base 1 C_Program "size" (SpN (fun g : Prg => [(progP C_Program K P w) g]) (fun (g : Prg) (Q : Nat → Prop) => Q g.size) (fD K dN)) := ⟨q_Program_size, f_Program_size, sc_Program, a_Program_size, s_Program_size, t_Program_size, r_Program_size, fnr_mk (ok_Program_size B W_prog F_Program_size) b_Program_size⟩
  have c_prog_states : PrpS P w K mg base 1 C_Program "states" (SpN (fun g : Prg => [(progP C_Program K P w) g]) (fun (g : Prg) (Q : Nat → Prop) => Q g.states) (fD K dN)) := ⟨q_Program_states, f_Program_states, sc_Program, a_Program_states, s_Program_states, t_Program_states, r_Program_states, fnr_mk (ok_Program_states B W_prog F_Program_states) b_Program_states⟩
  have c_prog_starts : PrpS P w K mg base 1 C_Program "starts" (SpN (fun g : Prg => [(progP C_Program K P w) g]) (fun (g : Prg) (Q : Rows → Prop) => Q g.starts) (fD K (dT (dT dN)))) := ⟨q_Program_starts, f_Program_starts, sc_Program, a_Program_starts, s_Program_starts, t_Program_starts, r_Program_starts, fnr_mk (ok_Program_starts B W_prog F_Program_starts) b_Program_starts⟩
  have c_prog_moves : PrpS P w K mg base 2 C_Program "moves" (SpO (fun g : Prg => [(progP C_Program K P w) g]) (fun (g : Prg) (Q : List (Mvk × Nat) → Prop) => (PrOk g ∧ g.size ≤ 4 ∧ g.states ≤ 6) ∧ Q g.moves) (ownDP K P w (dP dN (dT dO)) (fD K dN))) := ⟨q_Program_moves, f_Program_moves, sc_Program, a_Program_moves, s_Program_moves, t_Program_moves, r_Program_moves, fnr_mk (ok_Program_moves B W_prog F_Program_moves) b_Program_moves⟩
  have c_prog_decisions : PrpS P w K mg base 2 C_Program "decisions" (SpO (fun g : Prg => [(progP C_Program K P w) g]) (fun (g : Prg) (Q : List (Nat × Nat) → Prop) => Q g.decs) (ownDI dN (fD K dN))) := ⟨q_Program_decisions, f_Program_decisions, sc_Program, a_Program_decisions, s_Program_decisions, t_Program_decisions, r_Program_decisions, fnr_mk (ok_Program_decisions B W_prog F_Program_decisions) b_Program_decisions⟩
  have c_prog_len : OwnS P w K mg base "__len__" 1 C_Program (SpN (fun g : Prg => [(progP C_Program K P w) g]) (fun (g : Prg) (Q : Nat → Prop) => Q g.moves.length) (fD K dN)) := ⟨f_ProgramU_lenU, a_ProgramU_lenU, i_ProgramU_lenU, fnr_mk (ok_Programu__lenu_ B W_prog F_ProgramU_lenU) b_ProgramU_lenU⟩
  have c_prog_eq : EqS P w K mg base 2 C_Program (SpN (fun g : Prg × Prg => [(progP C_Program K P w) g.1, (progP C_Program K P w) g.2]) (fun (g : Prg × Prg) (Q : Bool → Prop) => Q (eqP g.1 g.2)) (fD K dB)) := ⟨f_ProgramU_eqU, ne_Program, cm_Program, a_ProgramU_eqU, i_ProgramU_eqU, fnr_mk (ok_Programu__equ_ B m_Program W_prog F_ProgramU_eqU) b_ProgramU_eqU⟩
  have c_prog_eqD : EqS P w K mg base 2 C_Program (SpN (fun g : Prg × PyData => [(progP C_Program K P w) g.1, (fD K dA) g.2]) (fun (g : Prg × PyData) (Q : Bool → Prop) => Q false) (fD K dB)) := ⟨f_ProgramU_eqU, ne_Program, cm_Program, a_ProgramU_eqU, i_ProgramU_eqU, fnr_mk (ok_Programu__equ__d B m_Program N_prog F_ProgramU_eqU) b_ProgramU_eqU⟩
  have c_prog_str : OwnS P w K mg base "__str__" 3 C_Program (SpN (fun g : Prg => [(progP C_Program K P w) g]) (fun (g : Prg) (Q : PySem.Str → Prop) => (PrOk g) ∧ Q (strP g)) (fD K dS)) := ⟨f_ProgramU_strU, a_ProgramU_strU, i_ProgramU_strU, fnr_mk (ok_Programu__stru_ B W_prog F_ProgramU_strU) b_ProgramU_strU⟩
  have c_prog_require_key : MetS P w K mg base 5 C_Program "require_key" (SpN (fun g : Prg × Nat × (List (Option Nat)) => [(progP C_Program K P w) g.1, (fD K dN) g.2.1, (fD K (dT dO)) g.2.2]) (fun (g : Prg × Nat × Hrd) (Q : Unit → Prop) => (g.2.1 < g.1.states ∧ g.1.states ≤ 400 ∧ HearOk g.1.size g.1.states g.2.1 g.2.2 ∧ g.1.size ≤ 5) ∧ Q ()) (fD K dU)) := ⟨f_Program_require_key, sc_Program, ⟨a_Program_require_key, i_Program_require_key, F_Program_require_key.kp⟩, fnr_mk (ok_Program_require_key B c_require_number W_prog c_is_hearing F_Program_require_key) b_Program_require_key⟩
  have c_prog_after : MetS P w K mg base 6 C_Program "after" (SpN (fun g : Prg × Nat × (List (Option Nat)) => [(progP C_Program K P w) g.1, (fD K dN) g.2.1, (fD K (dT dO)) g.2.2]) (fun (g : Prg × Nat × Hrd) (Q : Nat → Prop) => (PrOk g.1 ∧ g.2.1 < g.1.states ∧ HearOk g.1.size g.1.states g.2.1 g.2.2) ∧ Q ((getA g.1.moves (g.2.1, g.2.2)).getD g.2.1)) (fD K dN)) := ⟨f_Program_after, sc_Program, ⟨a_Program_after, i_Program_after, F_Program_after.kp⟩, fnr_mk (ok_Program_after B c_prog_require_key W_prog F_Program_after) b_Program_after⟩
  have c_is_program : Gf P w K mg base 7 "is_program" (SpN (fun g : Nat × Nat × ((List (List Nat)) × (List ((Nat × (List (Option Nat))) × Nat)) × (List (Nat × Nat))) => [(fD K dN) g.1, (fD K dN) g.2.1, (fT3 K (fD K (dT (dT dN))) (fDKZ K P w (dP dN (dT dO)) (fD K dN)) (fDZ dN (fD K dN))) g.2.2]) (fun (g : Nat × Nat × Rows × List (Mvk × Nat) × List (Nat × Nat)) (Q : Bool → Prop) => RawOk g ∧ Q true) (fD K dB)) := ok_is_program B g_MAX_HOUSES g_MAX_STATES c_is_between c_are_parts F_is_program (PySem.W.mg_of X G a_is_program) b_is_program
  have c_law_key : Gf P w K mg base 4 "_law_key" (SpN (fun g : Unit × Nat × Nat => [(fCk 3) g.1, (fD K dN) g.2.1, (fD K dN) g.2.2]) (fun (g : Unit × Nat × Nat) (Q : Mvk → Prop) => (1 ≤ g.2.1 ∧ g.2.1 ≤ 5 ∧ 1 ≤ g.2.2 ∧ g.2.2 ≤ 50) ∧ ∀ k : Mvk, k.1 < g.2.2 → HearOk g.2.1 g.2.2 k.1 k.2 → Q k) (fD K (dP dN (dT dO)))) := ok__law_key B c_law_dip c_law_choose_1 F__law_key (PySem.W.mg_of X G a__law_key) b__law_key
  have c_law_decided : Gf P w K mg base 4 "_law_decided" (SpN (fun g : Unit × Nat => [(fCk 3) g.1, (fD K dN) g.2]) (fun (g : Unit × Nat) (Q : List (Nat × Nat) → Prop) => (1 ≤ g.2 ∧ g.2 ≤ 50) ∧ ∀ ds : List (Nat × Nat), DecsOk g.2 ds → Q ds) (fDZ dN (fD K dN))) := ok__law_decided B c_law_dip c_law_shuffled F__law_decided (PySem.W.mg_of X G a__law_decided) b__law_decided
  have c_law_targets : Gf P w K mg base 1 "_law_targets" (SpN (fun g : (List (Nat × Nat)) × Nat × Nat => [(fDZ dN (fD K dN)) g.1, (fD K dN) g.2.1, (fD K dN) g.2.2]) (fun (g : List (Nat × Nat) × Nat × Nat) (Q : List Nat → Prop) => (DecsOk g.2.2 g.1 ∧ g.2.1 < g.2.2 ∧ g.2.2 ≤ 50) ∧ Q (targetsL g.1 g.2.1 g.2.2)) (fLn (fD K dN))) := ok__law_targets B F__law_targets (PySem.W.mg_of X G a__law_targets) b__law_targets
  have c_law_moves : Gf P w K mg base 6 "_law_moves" (SpN (fun g : Unit × Nat × Nat × (List (Nat × Nat)) × Nat => [(fCk 3) g.1, (fD K dN) g.2.1, (fD K dN) g.2.2.1, (fDZ dN (fD K dN)) g.2.2.2.1, (fD K dN) g.2.2.2.2]) (fun (g : Unit × Nat × Nat × List (Nat × Nat) × Nat) (Q : List (Mvk × Nat) → Prop) => (1 ≤ g.2.1 ∧ g.2.1 ≤ 5 ∧ 1 ≤ g.2.2.1 ∧ g.2.2.1 ≤ 50 ∧ DecsOk g.2.2.1 g.2.2.2.1 ∧ g.2.2.2.2 ≤ 900) ∧ ∀ mv : List (Mvk × Nat), MovesOk g.2.1 g.2.2.1 g.2.2.2.1 mv → mv.length ≤ g.2.2.2.2 → Q mv) (fDKZ K P w (dP dN (dT dO)) (fD K dN))) := ok__law_moves B c_law_dip c_law_key c_law_targets c_law_choose F__law_moves (PySem.W.mg_of X G a__law_moves) b__law_moves
  have c_law_parts : Gf P w K mg base 7 "_law_parts" (SpN (fun g : Unit × Nat × Nat × Nat => [(fCk 3) g.1, (fD K dN) g.2.1, (fD K dN) g.2.2.1, (fD K dN) g.2.2.2]) (fun (g : Unit × Nat × Nat × Nat) (Q : Nat × Rows × List (Mvk × Nat) × List (Nat × Nat) → Prop) => (1 ≤ g.2.1 ∧ g.2.1 ≤ 5 ∧ 1 ≤ g.2.2.1 ∧ g.2.2.1 ≤ 49 ∧ g.2.2.2 ≤ 900) ∧ ∀ p : Nat × Rows × List (Mvk × Nat) × List (Nat × Nat), RawOk (g.2.1, p) → p.1 ≤ g.2.2.1 → p.2.2.1.length ≤ g.2.2.2 → Q p) (fun g : (Nat × (List (List Nat)) × (List ((Nat × (List (Option Nat))) × Nat)) × (List (Nat × Nat))) => Ln [(fD K dN) g.1, (fD K (dT (dT dN))) g.2.1, (fDKZ K P w (dP dN (dT dO)) (fD K dN)) g.2.2.1, (fDZ dN (fD K dN)) g.2.2.2])) := ok__law_parts B c_law_dip c_law_decided c_law_moves F__law_parts (PySem.W.mg_of X G a__law_parts) b__law_parts
  have c_law_made : Gf P w K mg base 10 "_law_made" (SpN (fun g : Nat × (Nat × (List (List Nat)) × (List ((Nat × (List (Option Nat))) × Nat)) × (List (Nat × Nat))) => [(fD K dN) g.1, (fun g : (Nat × (List (List Nat)) × (List ((Nat × (List (Option Nat))) × Nat)) × (List (Nat × Nat))) => Ln [(fD K dN) g.1, (fD K (dT (dT dN))) g.2.1, (fDKZ K P w (dP dN (dT dO)) (fD K dN)) g.2.2.1, (fDZ dN (fD K dN)) g.2.2.2]) g.2]) (fun (g : Nat × Nat × Rows × List (Mvk × Nat) × List (Nat × Nat)) (Q : Prg → Prop) => RawOk g ∧ Q (mkP g)) (progP C_Program K P w)) := ok__law_made B c_Program F__law_made (PySem.W.mg_of X G a__law_made) b__law_made
  have c_law_place : Gf P w K mg base 1 "_law_place" (SpN (fun g : (Nat × (List (Option Nat))) × Nat => [(fD K (dP dN (dT dO))) g.1, (fD K dN) g.2]) (fun (g : Mvk × Nat) (Q : Nat × List Nat → Prop) => g.1.2.length ≤ 5 ∧ Q (placeOf g.2 g.1)) (fD K (dP dN (dT dN)))) := ok__law_place B F__law_place (PySem.W.mg_of X G a__law_place) b__law_place
  have c_law_is_rising : Gf P w K mg base 2 "_law_is_rising" (SpN (fun g : (List (Nat × (List (Option Nat)))) × Nat => [(fD K (dL (dP dN (dT dO)))) g.1, (fD K dN) g.2]) (fun (g : List Mvk × Nat) (Q : Bool → Prop) => (g.1.length < 64 ∧ ∀ k ∈ g.1, k.2.length ≤ 5) ∧ (g.1.map (placeOf g.2)).Pairwise (fun a b => plLe a b = true) ∧ Q true) (fD K dB)) := ok__law_is_rising B c_law_place F__law_is_rising (PySem.W.mg_of X G a__law_is_rising) b__law_is_rising
  have c_law_turned : Gf P w K mg base 3 "_law_turned" (SpO (fun g : Unit × (List ((Nat × (List (Option Nat))) × Nat)) => [(fCk 3) g.1, (fDKZ K P w (dP dN (dT dO)) (fD K dN)) g.2]) (fun (g : Unit × List (Mvk × Nat)) (Q : List (Mvk × Nat) → Prop) => (g.2.length ≤ 900 ∧ (g.2.map (·.1)).Nodup) ∧ ∀ ps : List (Mvk × Nat), ps.Perm g.2 → Q ps) (ownDP K P w (dP dN (dT dO)) (fD K dN))) := ok__law_turned B c_law_shuffled_1 F__law_turned (PySem.W.mg_of X G a__law_turned) b__law_turned
  have c_law_turned_1 : Gf P w K mg base 3 "_law_turned" (SpO (fun g : Unit × (List (Nat × Nat)) => [(fCk 3) g.1, (fDZ dN (fD K dN)) g.2]) (fun (g : Unit × List (Nat × Nat)) (Q : List (Nat × Nat) → Prop) => (g.2.length ≤ 900 ∧ (g.2.map (·.1)).Nodup) ∧ ∀ ps : List (Nat × Nat), ps.Perm g.2 → Q ps) (ownDI dN (fD K dN))) := ok__law_turned_v1 B c_law_shuffled_2 F__law_turned (PySem.W.mg_of X G a__law_turned) b__law_turned
  have c_law_right : GfG P w K mg base 13 "_law_right" (SpN (fun g : Unit => [(fCk 3) g]) (fun (g : Unit) (Q : Bool → Prop) => Q true) (fD K dB)) := ok__law_right B c_law_dip c_law_parts c_law_turned c_law_turned_1 c_ProgramT c_prog_size c_prog_states c_prog_starts c_prog_moves c_prog_decisions c_law_is_rising c_law_key c_prog_after c_law_made N_prog c_prog_eqD nf_prog c_prog_eq c_is_program Bs c_prog_len c_prog_str F__law_right (PySem.W.mg_of X G a__law_right) b__law_right
  exact law_fnG (ok_law B g_MAX_STATES g_MAX_MOVES c_law_filled c_law_right c_Program c_prog_after Bs c_prog_str c_prog_moves c_prog_decisions c_prog_size F_law)
end Wb

open PySem PySem.W PyProof.Rows
set_option maxRecDepth 100000 in
set_option maxHeartbeats 0 in
theorem PySem.Challenge.cw_rootshared_k35_programs_told_holds : PySem.Challenge.rw_rootshared_k35_programs_told.Holds := by
  refine hd_top ?_
  k_fill
  letI TZ : Rs.Tabz := Tw.Tz0
  refine Tw.walkG (l := PySem.Challenge.rw_rootshared_k35_programs_told) (k := 14) ⟨rfl, by decide, by decide⟩ rfl rfl (fun _ z => z) (fun w h Y => PySem.W.kIn_of Y) ?F
  case F =>
    intro w mg fa h KX G hmg
    refine' Wb.all_mk (TZ := Tw.Tz0) KX G hmg ?t_is_integer ?t_is_between ?t_require_number ?t__law_filled ?t__law_dip ?t__law_choose ?t__law_shuffled ?t_is_state ?t_are_starts ?t_is_hearing ?t_are_decisions ?t_is_let ?t_are_moves ?t_are_parts ?t_place_of_move ?t_first_of ?t_sorted_moves ?t_is_program ?t__law_key ?t__law_decided ?t__law_targets ?t__law_moves ?t__law_parts ?t__law_made ?t__law_place ?t__law_is_rising ?t__law_turned ?t__law_right ?t_law ?m_ProgramU_initU ?m_ProgramU_lenU ?m_ProgramU_eqU ?m_ProgramU_strU ?m_Program_require_key ?m_Program_after ?p_Program_size ?p_Program_states ?p_Program_starts ?p_Program_moves ?p_Program_decisions ?sl_Program_own_size ?sl_Program_own_states ?sl_Program_own_starts ?sl_Program_own_moves ?sl_Program_own_decisions ?z_len ?z_range ?z_list ?z_tuple ?z_set ?z_sorted ?z_all ?z_isinstance ?z_int ?z_bool ?z_enumerate ?z_zip ?z_min ?z_max ?z_abs ?z_str ?z_repr ?z_dict ?gi_MAX_STATES ?gi_MAX_MOVES ?gi_MAX_HOUSES ?gi_GREATEST ?a_Program ?nodb ?pg_Program ?ic_Program ?po_Program ?sa_Program ?ca_Program ?cm_Program ?nf_Program ?ne_Program ?mk_Program ?kc_Program ?cn ?ct
    (case a_Program => k_is)
    (case t_is_integer => (refine' Tw.top_fn ?a ?l ?c ?k ?b; (case a => k_is); (case l => k_is); (case c => k_is); (case k => k_is); (case b => exact fun _ _ _ _ _ _ us hl => match us, hl with | [_], _ => rfl)))
    (case t_is_between => (refine' Tw.top_fn ?a ?l ?c ?k ?b; (case a => k_is); (case l => k_is); (case c => k_is); (case k => k_is); (case b => exact fun _ _ _ _ _ _ us hl => match us, hl with | [_, _, _], _ => rfl)))
    (case t_require_number => (refine' Tw.top_fn ?a ?l ?c ?k ?b; (case a => k_is); (case l => k_is); (case c => k_is); (case k => k_is); (case b => exact fun _ _ _ _ _ _ us hl => match us, hl with | [_, _, _], _ => rfl)))
    (case t__law_filled => (refine' Tw.top_fn ?a ?l ?c ?k ?b; (case a => k_is); (case l => k_is); (case c => k_is); (case k => k_is); (case b => exact fun _ _ _ _ _ _ us hl => match us, hl with | [_, _], _ => rfl)))
    (case t__law_dip => (refine' Tw.top_fn ?a ?l ?c ?k ?b; (case a => k_is); (case l => k_is); (case c => k_is); (case k => k_is); (case b => exact fun _ _ _ _ _ _ us hl => match us, hl with | [_, _], _ => rfl)))
    (case t__law_choose => (refine' Tw.top_fn ?a ?l ?c ?k ?b; (case a => k_is); (case l => k_is); (case c => k_is); (case k => k_is); (case b => exact fun _ _ _ _ _ _ us hl => match us, hl with | [_, _], _ => rfl)))
    (case t__law_shuffled => (refine' Tw.top_fn ?a ?l ?c ?k ?b; (case a => k_is); (case l => k_is); (case c => k_is); (case k => k_is); (case b => exact fun _ _ _ _ _ _ us hl => match us, hl with | [_, _], _ => rfl)))
    (case t_is_state => (refine' Tw.top_fn ?a ?l ?c ?k ?b; (case a => k_is); (case l => k_is); (case c => k_is); (case k => k_is); (case b => exact fun _ _ _ _ _ _ us hl => match us, hl with | [_, _], _ => rfl)))
    (case t_are_starts => (refine' Tw.top_fn ?a ?l ?c ?k ?b; (case a => k_is); (case l => k_is); (case c => k_is); (case k => k_is); (case b => exact fun _ _ _ _ _ _ us hl => match us, hl with | [_, _, _], _ => rfl)))
    (case t_is_hearing => (refine' Tw.top_fn ?a ?l ?c ?k ?b; (case a => k_is); (case l => k_is); (case c => k_is); (case k => k_is); (case b => exact fun _ _ _ _ _ _ us hl => match us, hl with | [_, _, _, _], _ => rfl)))
    (case t_are_decisions => (refine' Tw.top_fn ?a ?l ?c ?k ?b; (case a => k_is); (case l => k_is); (case c => k_is); (case k => k_is); (case b => exact fun _ _ _ _ _ _ us hl => match us, hl with | [_, _], _ => rfl)))
    (case t_is_let => (refine' Tw.top_fn ?a ?l ?c ?k ?b; (case a => k_is); (case l => k_is); (case c => k_is); (case k => k_is); (case b => exact fun _ _ _ _ _ _ us hl => match us, hl with | [_, _, _], _ => rfl)))
    (case t_are_moves => (refine' Tw.top_fn ?a ?l ?c ?k ?b; (case a => k_is); (case l => k_is); (case c => k_is); (case k => k_is); (case b => exact fun _ _ _ _ _ _ us hl => match us, hl with | [_, _, _, _], _ => rfl)))
    (case t_are_parts => (refine' Tw.top_fn ?a ?l ?c ?k ?b; (case a => k_is); (case l => k_is); (case c => k_is); (case k => k_is); (case b => exact fun _ _ _ _ _ _ us hl => match us, hl with | [_, _, _, _, _], _ => rfl)))
    (case t_place_of_move => (refine' Tw.top_fn ?a ?l ?c ?k ?b; (case a => k_is); (case l => k_is); (case c => k_is); (case k => k_is); (case b => exact fun _ _ _ _ _ _ us hl => match us, hl with | [_, _], _ => rfl)))
    (case t_first_of => (refine' Tw.top_fn ?a ?l ?c ?k ?b; (case a => k_is); (case l => k_is); (case c => k_is); (case k => k_is); (case b => exact fun _ _ _ _ _ _ us hl => match us, hl with | [_], _ => rfl)))
    (case t_sorted_moves => (refine' Tw.top_fn ?a ?l ?c ?k ?b; (case a => k_is); (case l => k_is); (case c => k_is); (case k => k_is); (case b => exact fun _ _ _ _ _ _ us hl => match us, hl with | [_, _], _ => rfl)))
    (case t_is_program => (refine' Tw.top_fn ?a ?l ?c ?k ?b; (case a => k_is); (case l => k_is); (case c => k_is); (case k => k_is); (case b => exact fun _ _ _ _ _ _ us hl => match us, hl with | [_, _, _], _ => rfl)))
    (case t__law_key => (refine' Tw.top_fn ?a ?l ?c ?k ?b; (case a => k_is); (case l => k_is); (case c => k_is); (case k => k_is); (case b => exact fun _ _ _ _ _ _ us hl => match us, hl with | [_, _, _], _ => rfl)))
    (case t__law_decided => (refine' Tw.top_fn ?a ?l ?c ?k ?b; (case a => k_is); (case l => k_is); (case c => k_is); (case k => k_is); (case b => exact fun _ _ _ _ _ _ us hl => match us, hl with | [_, _], _ => rfl)))
    (case t__law_targets => (refine' Tw.top_fn ?a ?l ?c ?k ?b; (case a => k_is); (case l => k_is); (case c => k_is); (case k => k_is); (case b => exact fun _ _ _ _ _ _ us hl => match us, hl with | [_, _, _], _ => rfl)))
    (case t__law_moves => (refine' Tw.top_fn ?a ?l ?c ?k ?b; (case a => k_is); (case l => k_is); (case c => k_is); (case k => k_is); (case b => exact fun _ _ _ _ _ _ us hl => match us, hl with | [_, _, _, _, _], _ => rfl)))
    (case t__law_parts => (refine' Tw.top_fn ?a ?l ?c ?k ?b; (case a => k_is); (case l => k_is); (case c => k_is); (case k => k_is); (case b => exact fun _ _ _ _ _ _ us hl => match us, hl with | [_, _, _, _], _ => rfl)))
    (case t__law_made => (refine' Tw.top_fn ?a ?l ?c ?k ?b; (case a => k_is); (case l => k_is); (case c => k_is); (case k => k_is); (case b => exact fun _ _ _ _ _ _ us hl => match us, hl with | [_, _], _ => rfl)))
    (case t__law_place => (refine' Tw.top_fn ?a ?l ?c ?k ?b; (case a => k_is); (case l => k_is); (case c => k_is); (case k => k_is); (case b => exact fun _ _ _ _ _ _ us hl => match us, hl with | [_, _], _ => rfl)))
    (case t__law_is_rising => (refine' Tw.top_fn ?a ?l ?c ?k ?b; (case a => k_is); (case l => k_is); (case c => k_is); (case k => k_is); (case b => exact fun _ _ _ _ _ _ us hl => match us, hl with | [_, _], _ => rfl)))
    (case t__law_turned => (refine' Tw.top_fn ?a ?l ?c ?k ?b; (case a => k_is); (case l => k_is); (case c => k_is); (case k => k_is); (case b => exact fun _ _ _ _ _ _ us hl => match us, hl with | [_, _], _ => rfl)))
    (case t__law_right => (refine' Tw.top_fn ?a ?l ?c ?k ?b; (case a => k_is); (case l => k_is); (case c => k_is); (case k => k_is); (case b => exact fun _ _ _ _ _ _ us hl => match us, hl with | [_], _ => rfl)))
    (case t_law => (refine' Tw.top_fn ?a ?l ?c ?k ?b; (case a => k_is); (case l => k_is); (case c => k_is); (case k => k_is); (case b => exact fun _ _ _ _ _ _ us hl => match us, hl with | [_], _ => rfl)))
    (case m_ProgramU_initU => (refine' Tw.met_fn ?a ?i ?l ?c ?k ?b; (case a => k_is); (case i => k_is); (case l => k_is); (case c => k_is); (case k => k_is); (case b => exact fun _ _ _ _ _ _ us hl => match us, hl with | [_, _, _, _, _, _], _ => rfl)))
    (case m_ProgramU_lenU => (refine' Tw.met_fn ?a ?i ?l ?c ?k ?b; (case a => k_is); (case i => k_is); (case l => k_is); (case c => k_is); (case k => k_is); (case b => exact fun _ _ _ _ _ _ us hl => match us, hl with | [_], _ => rfl)))
    (case m_ProgramU_eqU => (refine' Tw.met_fn ?a ?i ?l ?c ?k ?b; (case a => k_is); (case i => k_is); (case l => k_is); (case c => k_is); (case k => k_is); (case b => exact fun _ _ _ _ _ _ us hl => match us, hl with | [_, _], _ => rfl)))
    (case m_ProgramU_strU => (refine' Tw.met_fn ?a ?i ?l ?c ?k ?b; (case a => k_is); (case i => k_is); (case l => k_is); (case c => k_is); (case k => k_is); (case b => exact fun _ _ _ _ _ _ us hl => match us, hl with | [_], _ => rfl)))
    (case m_Program_require_key => (refine' Tw.met_fn ?a ?i ?l ?c ?k ?b; (case a => k_is); (case i => k_is); (case l => k_is); (case c => k_is); (case k => k_is); (case b => exact fun _ _ _ _ _ _ us hl => match us, hl with | [_, _, _], _ => rfl)))
    (case m_Program_after => (refine' Tw.met_fn ?a ?i ?l ?c ?k ?b; (case a => k_is); (case i => k_is); (case l => k_is); (case c => k_is); (case k => k_is); (case b => exact fun _ _ _ _ _ _ us hl => match us, hl with | [_, _, _], _ => rfl)))
    (case p_Program_size => (refine' Tw.prp_fn ?a ?s ?t ?r ?l ?c ?k ?b; (case a => k_is); (case s => k_is); (case t => k_is); (case r => k_is); (case l => k_is); (case c => k_is); (case k => k_is); (case b => exact fun _ _ _ _ _ _ us hl => match us, hl with | [_], _ => rfl)))
    (case p_Program_states => (refine' Tw.prp_fn ?a ?s ?t ?r ?l ?c ?k ?b; (case a => k_is); (case s => k_is); (case t => k_is); (case r => k_is); (case l => k_is); (case c => k_is); (case k => k_is); (case b => exact fun _ _ _ _ _ _ us hl => match us, hl with | [_], _ => rfl)))
    (case p_Program_starts => (refine' Tw.prp_fn ?a ?s ?t ?r ?l ?c ?k ?b; (case a => k_is); (case s => k_is); (case t => k_is); (case r => k_is); (case l => k_is); (case c => k_is); (case k => k_is); (case b => exact fun _ _ _ _ _ _ us hl => match us, hl with | [_], _ => rfl)))
    (case p_Program_moves => (refine' Tw.prp_fn ?a ?s ?t ?r ?l ?c ?k ?b; (case a => k_is); (case s => k_is); (case t => k_is); (case r => k_is); (case l => k_is); (case c => k_is); (case k => k_is); (case b => exact fun _ _ _ _ _ _ us hl => match us, hl with | [_], _ => rfl)))
    (case p_Program_decisions => (refine' Tw.prp_fn ?a ?s ?t ?r ?l ?c ?k ?b; (case a => k_is); (case s => k_is); (case t => k_is); (case r => k_is); (case l => k_is); (case c => k_is); (case k => k_is); (case b => exact fun _ _ _ _ _ _ us hl => match us, hl with | [_], _ => rfl)))
    (case sl_Program_own_size => (refine' Tw.slot_at ?a ?s ?t ?y ?j ?h; (case a => k_is); (case s => k_is); (case t => k_is); (case y => k_is); (case j => k_is); (case h => decide)))
    (case sl_Program_own_states => (refine' Tw.slot_at ?a ?s ?t ?y ?j ?h; (case a => k_is); (case s => k_is); (case t => k_is); (case y => k_is); (case j => k_is); (case h => decide)))
    (case sl_Program_own_starts => (refine' Tw.slot_at ?a ?s ?t ?y ?j ?h; (case a => k_is); (case s => k_is); (case t => k_is); (case y => k_is); (case j => k_is); (case h => decide)))
    (case sl_Program_own_moves => (refine' Tw.slot_at ?a ?s ?t ?y ?j ?h; (case a => k_is); (case s => k_is); (case t => k_is); (case y => k_is); (case j => k_is); (case h => decide)))
    (case sl_Program_own_decisions => (refine' Tw.slot_at ?a ?s ?t ?y ?j ?h; (case a => k_is); (case s => k_is); (case t => k_is); (case y => k_is); (case j => k_is); (case h => decide)))
    (case z_len => k_is)
    (case z_range => k_is)
    (case z_list => k_is)
    (case z_tuple => k_is)
    (case z_set => k_is)
    (case z_sorted => k_is)
    (case z_all => k_is)
    (case z_isinstance => k_is)
    (case z_int => k_is)
    (case z_bool => k_is)
    (case z_enumerate => k_is)
    (case z_zip => k_is)
    (case z_min => k_is)
    (case z_max => k_is)
    (case z_abs => k_is)
    (case z_str => k_is)
    (case z_repr => k_is)
    (case z_dict => k_is)
    (case gi_MAX_STATES => k_is)
    (case gi_MAX_MOVES => k_is)
    (case gi_MAX_HOUSES => k_is)
    (case gi_GREATEST => k_is)
    (case nodb => kernel_rfl)
    (case pg_Program => k_is)
    (case ic_Program => k_is)
    (case po_Program => k_is)
    (case sa_Program => k_is)
    (case ca_Program => k_is)
    (case cm_Program => k_is)
    (case nf_Program => k_is)
    (case ne_Program => k_is)
    (case mk_Program => k_is)
    (case kc_Program => k_is)
    (case cn => k_is)
    (case ct => k_is)

