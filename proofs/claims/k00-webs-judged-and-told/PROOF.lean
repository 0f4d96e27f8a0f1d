import PyProof.Rows.All
import Wide.All
import OpenK.AllK
import Wide.FinOn
import KE.OsRunLaw
import PyProof.EqAt
import PyProof.EqKinds
import PyProof.TupleCall
import HandS.Base
import HandS.Call
import HandS.List
import HandS.Comp
import HandS.Dict
import HandS.Iter
import HandS.Walk
import HandS.Words
import HandS.Ends
import HandS.Lambda
import PyProof.Draws
import KE.GoesMore
import HandS.More
import HandS.Set
import HandS.Strs
import HandS.SetFor
import HandS.IsInst
import HandS.Slots
import HandS.SlotsOwn
import HandS.Star
import HandS.Conv
import HandS.Deep
import HandS.TupAny
import HandS.TupMul
import HandS.WordsDict
import HandS.WordsList
import HandS.Wide
import HandS.FStr
import HandS.Style
import PyProof.Lay0
import PyProof.EqLayable
import HandS.DictTup
import KE.SortData
import HandS.Text
import OpenK.KOps
import OpenK.KMeth
import KE.KCallOwn
import HandS.Zip
import HandS.SortKw
import KE.KDictZip
import PyProof.TupleOfSeq
import HandS.TupSets
import KE.KeyNested
import PyProof.DictRoadsH
import KE.KDictKeyed
import HandS.DictComp
import HandS.IterVal
import KE.KOwnIter
import PyProof.ReprRoads
import HandS.Small
import HandS.OwnEq
import PyProof.Rows.ReprShort
import PyProof.ReprBulk
import KE.KStateDown
import HandS.AnyAll
import HandS.EndTab
import PyProof.CallFns
import KE.KExcSuper
import HandS.ExcInit
import HandS.ExcField
import HandS.TryMany
import HandS.ExcOwn
import HandS.TryOnly
import HandS.Sort
import PyProof.NeKinds
import HandS.ExcValue
import HandS.ExcIs
import KE.KExcIs
import HandS.TupLen
import KE.KDictWalk
import KE.SortKeyed
import HandS.Property
import PyProof.Conv_bool
import OpenK.KMake
import HandS.Defaults
import KE.KDictDisplayH
import KE.KDictPairs
import KE.KDictItemsList
import KE.DataMinMax
import KE.KDictSum
import KE.KDictCopyH
import PyProof.SetKind
import PyProof.SetNew
import PyProof.SetRoads
import PySem.Challenge.RW_rootshared_k00_webs_judged_and_told
set_option Elab.async false
set_option linter.all false
set_option maxRecDepth 100000
set_option maxHeartbeats 4000000
section
open PySem PySem.W PyProof.Rows
theorem Wb.sp3 {s a b c : Type} {o : Option s} {f : s → a} {g : s → b} {h : s → c} {x : a} {y : b} {z : c} (h1 : o.map f = some x) (h2 : o.map g = some y) (h3 : o.map h = some z) : o.map (fun s => (f s, g s, h s)) = some (x, y, z) := by
  cases o with
  | none => cases h1
  | some s => cases h1; cases h2; cases h3; rfl
theorem Wb.spP {s a b : Type} {o : Option s} {F : s → a × b} {x : a} {y : b} (h1 : o.map (fun s => (F s).1) = some x) (h2 : o.map (fun s => (F s).2) = some y) : o.map F = some (x, y) := by
  cases o with
  | none => cases h1
  | some s => exact congrArg some (Prod.ext (Option.some.inj h1) (Option.some.inj h2))
theorem Wb.spL {s a : Type} {o : Option s} {F : s → List a} {x : List a} (n : Nat) (h1 : o.map (fun s => (F s).take n) = some (x.take n)) (h2 : o.map (fun s => (F s).drop n) = some (x.drop n)) : o.map F = some x := by
  cases o with
  | none => cases h1
  | some s =>
    have e1 : (F s).take n = x.take n := Option.some.inj h1
    have e2 : (F s).drop n = x.drop n := Option.some.inj h2
    exact congrArg some (by rw [← List.take_append_drop n (F s), e1, e2, List.take_append_drop])
local macro_rules | `(tactic| kernel_rfl) => `(tactic| ((with_reducible refine Wb.sp3 ?_ ?_ ?_); rotate_left; (refine Wb.spP ?_ ?_); rotate_left; (refine Wb.spP ?_ ?_); rotate_left; (refine Wb.spP ?_ ?_); rotate_left; (refine Wb.spP ?_ ?_); rotate_left; (refine Wb.spP ?_ ?_); rotate_left; (refine Wb.spP ?_ ?_); rotate_left; (refine Wb.spP ?_ ?_); rotate_left; (refine Wb.spP ?_ ?_); rotate_left; rotate_right; rotate_right; rotate_right; (sym => tactic => kernel_rfl); (refine Wb.spL 1 ?_ ?_); (sym => tactic => kernel_rfl); (refine Wb.spL 1 ?_ ?_); (sym => tactic => kernel_rfl); (sym => tactic => kernel_rfl); (sym => tactic => kernel_rfl); (refine Wb.spL 2 ?_ ?_); (sym => tactic => kernel_rfl); (sym => tactic => kernel_rfl); (refine Wb.spL 300 ?_ ?_); (sym => tactic => kernel_rfl); (sym => tactic => kernel_rfl); (sym => tactic => kernel_rfl); (sym => tactic => kernel_rfl); (sym => tactic => kernel_rfl); (sym => tactic => kernel_rfl); (sym => tactic => kernel_rfl); (refine Wb.spP ?_ ?_); (sym => tactic => kernel_rfl); (sym => tactic => kernel_rfl)))
local macro_rules | `(tactic| k_head) => `(tactic| k_headL)
set_option maxHeartbeats 0 in
open_top hd_top for PySem.Challenge.rw_rootshared_k00_webs_judged_and_told
end

/-! Rs0: runs of readings over a part that stays (F) and cells that are one's own (L). -/
namespace Rs
open PySem L2

abbrev Cells := List (Addr × HO)
/-- tables of code objects that may grow -/
class Tabz where
  ts : Addr → Prop
  /-- the name of the code objects that it tells, where one cares for it -/
  nm : Addr → Option Str
/-- the object at c is a code object of the name q -/
abbrev CodeT (c : Addr) (q : Str) : HO := .ext fun h => ∃ (oc : Obj) (vs : Array Value) (t : Tok), h.get? c = some oc ∧ oc.data = .fields vs ∧ vs[1]? = some (.str q t)
theorem codeT_ne {c : Addr} {q : Str} {φ : Heap → Prop} (hφ : ∀ h, φ h → ∃ a o, h.get? a = some o ∧ ∀ vs, o.data ≠ .fields vs) : HO.ext φ ≠ CodeT c q := fun z => by
  have hz : φ = fun h => ∃ (oc : Obj) (vs : Array Value) (t : Tok), h.get? c = some oc ∧ oc.data = .fields vs ∧ vs[1]? = some (.str q t) := HO.ext.inj z
  let ob : Obj := { cls := .none, data := .fields #[.none, .str q 0] }
  have hg : ∀ b o, (Heap.mk (Array.replicate (c + 1) ob) {}).get? b = some o → o = ob := fun b o e => by
    have e2 : (Array.replicate (c + 1) ob)[b]? = some o := by
      unfold Heap.get? at e
      generalize (Array.replicate (c + 1) ob)[b]? = w at e ⊢
      split at e
      · cases e
      · exact e
    rw [Array.getElem?_replicate] at e2
    split at e2
    · exact (Option.some.inj e2).symm
    · cases e2
  have hc : (Heap.mk (Array.replicate (c + 1) ob) {}).get? c = some ob := by
    unfold Heap.get?
    simp only [Array.getElem?_replicate, Nat.lt_succ_self, if_true]
    rfl
  have h1 : φ (Heap.mk (Array.replicate (c + 1) ob) {}) := by
    rw [hz]
    exact ⟨ob, _, 0, hc, rfl, rfl⟩
  obtain ⟨a, o, e1, e2⟩ := hφ _ h1
  rw [hg a o e1] at e2
  exact e2 _ rfl
variable [Tabz]
def TabT (F H : Hp) : Prop := ∀ P, Tabz.ts P → ∃ ps : Array Value, H P = some (.tbl ps) ∧ TriplesOk ps.toList ∧ ∀ q, Tabz.nm P = some q → ∀ (pos : Pos) (cv : Value), codeAmong pos ps.toList = some cv → ∃ c, cv = .ref c ∧ F c = some (CodeT c q)
/-- F stands in H, and the cells L do, apart from F -/
structure At (F : Hp) (L : Cells) (H : Hp) : Prop where
  ex : Same F H
  on : ∀ p ∈ L, H p.1 = some p.2
  off : ∀ p ∈ L, F p.1 = none
  nd : (L.map (·.1)).Nodup
  nt : ∀ p ∈ L, ∀ xs, p.2 ≠ .tup xs
  nb : ∀ p ∈ L, ∀ ps, p.2 ≠ .tbl ps
  nc : ∀ p ∈ L, ∀ c q, p.2 ≠ CodeT c q
  tb : TabT F H
  ft : ∀ P, Tabz.ts P → F P = none

section
variable {F F' F1 H H' : Hp} {L L' N : Cells} {a p : Addr} {o u : HO}
theorem At.nil (h : Same F H) (tb : TabT F H) (ft : ∀ P, Tabz.ts P → F P = none) : At F [] H := ⟨h, fun _ q => (nomatch q), fun _ q => (nomatch q), List.nodup_nil, fun _ q => (nomatch q), fun _ q => (nomatch q), fun _ q => (nomatch q), tb, ft⟩
theorem At.notT (A : At F L H) {P : Addr} (h : Tabz.ts P) (h2 : H a = none ∨ ∃ u, H a = some u ∧ ∀ ps, u ≠ .tbl ps) : P ≠ a := fun z => by
  obtain ⟨ps, e, _⟩ := A.tb P h
  rw [z] at e
  rcases h2 with h2 | ⟨u, h2, h3⟩
  · rw [h2] at e; cases e
  · rw [h2] at e; cases e; exact h3 _ rfl
theorem TabT.upd (t : TabT F H) (h : ∀ P, Tabz.ts P → P ≠ a) : TabT F (upd H a o) := fun P hP => by
  obtain ⟨ps, e, q⟩ := t P hP
  exact ⟨ps, by rw [upd_ne (h P hP)]; exact e, q⟩
theorem TabT.up (t : TabT F H) (h : ∀ c q, F c = some (CodeT c q) → F' c = some (CodeT c q)) : TabT F' H := fun P hP => by
  obtain ⟨ps, e, q, r⟩ := t P hP
  exact ⟨ps, e, q, fun n hn pos cv hc => let ⟨c, e1, e2⟩ := r n hn pos cv hc; ⟨c, e1, h c n e2⟩⟩
theorem TabT.same (t : TabT F H) (h : Same F F') : TabT F' H := t.up fun c q e => h _ _ e
theorem At.free (A : At F L H) (h : H a = none) : F a = none := A.ex.free h
theorem At.sub (A : At F L H) (hs : ∀ p ∈ L', p ∈ L) (nd : (L'.map (·.1)).Nodup) : At F L' H :=
  ⟨A.ex, fun p q => A.on p (hs p q), fun p q => A.off p (hs p q), nd, fun p q => A.nt p (hs p q), fun p q => A.nb p (hs p q), fun p q => A.nc p (hs p q), A.tb, A.ft⟩
theorem At.tail {m : Addr × HO} (A : At F (m :: L) H) : At F L H :=
  A.sub (fun p q => List.mem_cons_of_mem _ q) (List.nodup_cons.mp (by have := A.nd; rwa [List.map_cons] at this)).2
theorem At.drop (A : At F (L ++ N) H) : At F N H :=
  A.sub (fun p q => List.mem_append_right _ q) (by have h := A.nd; rw [List.map_append] at h; exact (List.nodup_append.mp h).2.1)
theorem At.left (A : At F (L ++ N) H) : At F L H :=
  A.sub (fun p q => List.mem_append_left _ q) (by have h := A.nd; rw [List.map_append] at h; exact (List.nodup_append.mp h).1)
theorem At.perm (A : At F L H) (h : L.Perm L') : At F L' H :=
  ⟨A.ex, fun p q => A.on p (h.mem_iff.mpr q), fun p q => A.off p (h.mem_iff.mpr q), (h.map (·.1)).nodup_iff.mp A.nd, fun p q => A.nt p (h.mem_iff.mpr q), fun p q => A.nb p (h.mem_iff.mpr q), fun p q => A.nc p (h.mem_iff.mpr q), A.tb, A.ft⟩
theorem same_new (h : F a = none) : Same F (upd F a o) := fun b u e => by
  rw [upd_ne (ne_of_none e h)]; exact e
/-- a new thing that stays -/
theorem At.new (A : At F L H) (h : H a = none) : At (upd F a o) L (upd H a o) := by
  have ne : ∀ p ∈ L, p.1 ≠ a := fun p q z => by
    have := A.on p q
    rw [z, h] at this; cases this
  refine ⟨fun b u e => ?_, fun p q => by rw [upd_ne (ne p q)]; exact A.on p q, fun p q => by rw [upd_ne (ne p q)]; exact A.off p q, A.nd, A.nt, A.nb, A.nc, (A.tb.upd fun P hP => A.notT hP (.inl h)).same (same_new (A.free h)), fun P hP => by rw [upd_ne (A.notT hP (.inl h))]; exact A.ft P hP⟩
  by_cases hb : b = a
  · subst hb; rw [upd_same] at e ⊢; exact e
  · rw [upd_ne hb] at e ⊢; exact A.ex b u e
/-- a new cell -/
theorem At.cell (A : At F L H) (h : H a = none) (ho : ∀ xs, o ≠ .tup xs := by intro _ z; nomatch z) (hb : ∀ ps, o ≠ .tbl ps := by intro _ z; nomatch z) (hc : ∀ c q, o ≠ CodeT c q := by intro _ _ z; nomatch z) : At F ((a, o) :: L) (upd H a o) := by
  have ne : ∀ p ∈ L, p.1 ≠ a := fun p q z => by
    have := A.on p q
    rw [z, h] at this; cases this
  refine ⟨fun b u e => ?_, fun p q => ?_, fun p q => ?_, ?_, fun p q => (List.mem_cons.mp q).elim (fun z => z ▸ ho) (A.nt p), fun p q => (List.mem_cons.mp q).elim (fun z => z ▸ hb) (A.nb p), fun p q => (List.mem_cons.mp q).elim (fun z => z ▸ hc) (A.nc p), A.tb.upd fun P hP => A.notT hP (.inl h), A.ft⟩
  · rw [upd_ne (ne_of_none (A.ex b u e) h)]; exact A.ex b u e
  · rcases List.mem_cons.mp q with z | z
    · subst z; exact upd_same
    · rw [upd_ne (ne p z)]; exact A.on p z
  · rcases List.mem_cons.mp q with z | z
    · subst z; exact A.free h
    · exact A.off p z
  · rw [List.map_cons, List.nodup_cons]
    refine ⟨fun z => ?_, A.nd⟩
    obtain ⟨q, hq, e⟩ := List.mem_map.mp z
    exact ne q hq e
theorem At.ne (A : At F ((a, o) :: L) H) : ∀ p ∈ L, p.1 ≠ a := fun p q z => by
  have h := A.nd
  rw [List.map_cons, List.nodup_cons] at h
  exact h.1 (List.mem_map.mpr ⟨p, q, z⟩)
/-- a cell is written -/
theorem At.put (A : At F ((a, o) :: L) H) (ho : ∀ xs, u ≠ .tup xs := by intro _ z; nomatch z) (hb : ∀ ps, u ≠ .tbl ps := by intro _ z; nomatch z) (hc : ∀ c q, u ≠ CodeT c q := by intro _ _ z; nomatch z) : At F ((a, u) :: L) (upd H a u) := by
  refine ⟨fun b v e => ?_, fun p q => ?_, fun p q => ?_, A.nd, fun p q => (List.mem_cons.mp q).elim (fun z => z ▸ ho) fun z => A.nt p (List.mem_cons_of_mem _ z), fun p q => (List.mem_cons.mp q).elim (fun z => z ▸ hb) fun z => A.nb p (List.mem_cons_of_mem _ z), fun p q => (List.mem_cons.mp q).elim (fun z => z ▸ hc) fun z => A.nc p (List.mem_cons_of_mem _ z), A.tb.upd fun P hP => A.notT hP (.inr ⟨o, A.on _ List.mem_cons_self, A.nb _ List.mem_cons_self⟩), A.ft⟩
  · have hb : b ≠ a := fun z => by
      have := A.off _ List.mem_cons_self
      rw [z] at e; rw [show F a = none from this] at e; cases e
    rw [upd_ne hb]; exact A.ex b v e
  · rcases List.mem_cons.mp q with z | z
    · subst z; exact upd_same
    · rw [upd_ne (A.ne p z)]; exact A.on p (List.mem_cons_of_mem _ z)
  · rcases List.mem_cons.mp q with z | z
    · subst z; exact A.off (a, o) List.mem_cons_self
    · exact A.off p (List.mem_cons_of_mem _ z)
/-- a cell stays from now on -/
theorem At.keep (A : At F ((a, o) :: L) H) : At (upd F a o) L H := by
  refine ⟨fun b v e => ?_, fun p q => A.on p (List.mem_cons_of_mem _ q), fun p q => by rw [upd_ne (A.ne p q)]; exact A.off p (List.mem_cons_of_mem _ q), A.tail.nd, A.tail.nt, A.tail.nb, A.tail.nc, A.tb.same (same_new (A.off _ List.mem_cons_self)), fun P hP => by rw [upd_ne (A.notT hP (.inr ⟨o, A.on _ List.mem_cons_self, A.nb _ List.mem_cons_self⟩))]; exact A.ft P hP⟩
  by_cases hb : b = a
  · subst hb; rw [upd_same] at e; rw [← e]; exact A.on _ List.mem_cons_self
  · rw [upd_ne hb] at e; exact A.ex b v e
/-- a cell is written, and stays from now on -/
theorem At.swap (A : At F ((a, o) :: L) H) (hb : ∀ ps, u ≠ .tbl ps) : At (upd F a u) L (upd H a u) := by
  have A1 : At (upd F a (.lst [])) L (upd H a (.lst [])) := At.keep (At.put (u := .lst []) A)
  have nT : ∀ P, Tabz.ts P → P ≠ a := fun P hP => A.notT hP (.inr ⟨o, A.on _ List.mem_cons_self, A.nb _ List.mem_cons_self⟩)
  refine ⟨fun b v e => ?_, fun p q => by rw [upd_ne (A.ne p q)]; exact A.on p (List.mem_cons_of_mem _ q), fun p q => by rw [upd_ne (A.ne p q)]; exact A.off p (List.mem_cons_of_mem _ q), A.tail.nd, A.tail.nt, A.tail.nb, A.tail.nc, (A.tb.upd nT).same (same_new (A.off _ List.mem_cons_self)), fun P hP => by rw [upd_ne (nT P hP)]; exact A.ft P hP⟩
  by_cases hb : b = a
  · subst hb; rw [upd_same] at e ⊢; exact e
  · rw [upd_ne hb] at e ⊢; exact A.ex b v e
theorem At.off1 (A : At F ((a, o) :: L) H) : F a = none := A.off _ List.mem_cons_self
theorem At.on1 (A : At F ((a, o) :: L) H) : H a = some o := A.on _ List.mem_cons_self
end

/-! ### runs -/
/-- k runs from any heap with F (or more) and the cells L; it ends with the cells as they were, F grown, R of what it gives -/
def Run {α : Type} (k : Hp → (α → Hp → Prop) → Prop) (F : Hp) (L : Cells) (R : α → Hp → Prop) : Prop :=
  ∀ F1 N H, Same F F1 → At F1 (L ++ N) H → ∀ Q : α → Hp → Prop, (∀ v F2 H2, Same F1 F2 → At F2 (L ++ N) H2 → R v F2 → Q v H2) → k H Q
section
variable {α β : Type} {k : Hp → (α → Hp → Prop) → Prop} {F F1 : Hp} {L : Cells} {R R' : α → Hp → Prop}
theorem Run.up (h : Run k F L R) (e : Same F F1) : Run k F1 L R := fun F2 N H e2 A Q q => h F2 N H (e.trans e2) A Q q
theorem Run.weak (h : Run k F L R) (hr : ∀ v F2, Same F F2 → R v F2 → R' v F2) : Run k F L R' := fun F2 N H e2 A Q q =>
  h F2 N H e2 A Q fun v F3 H3 e3 A3 r => q v F3 H3 e3 A3 (hr v F3 (e2.trans e3) r)
theorem run_ret {v : α} (h : ∀ F1, Same F F1 → R v F1) : Run (fun H Q => Q v H) F L R := fun F1 N H e A Q q => q v F1 H (Same.refl _) A (h F1 e)
theorem run_bind {k2 : α → Hp → (β → Hp → Prop) → Prop} {S : β → Hp → Prop} (h1 : Run k F L R) (h2 : ∀ v F1, Same F F1 → R v F1 → Run (k2 v) F1 L S) : Run (fun H Q => k H fun v H1 => k2 v H1 Q) F L S := fun F1 N H e A Q q =>
  h1 F1 N H e A _ fun v F2 H2 e2 A2 r => h2 v F2 (e.trans e2) r F2 N H2 (Same.refl _) A2 Q fun w F3 H3 e3 A3 s => q w F3 H3 (e2.trans e3) A3 s
theorem run_ex {γ : Type} {kk : γ → Hp → (α → Hp → Prop) → Prop} (w : γ) (h : Run (kk w) F L R) : Run (fun H Q => ∃ w, kk w H Q) F L R := fun F1 N H e A Q q => ⟨w, h F1 N H e A Q q⟩
theorem run_and {p : Hp → Prop} (hp : ∀ F1 N H, Same F F1 → At F1 (L ++ N) H → p H) (h : Run k F L R) : Run (fun H Q => p H ∧ k H Q) F L R := fun F1 N H e A Q q => ⟨hp F1 N H e A, h F1 N H e A Q q⟩
/-- a thing is laid, and stays -/
theorem run_new {o : Addr → HO} {S : V → Hp → Prop} (h : ∀ F1 p, Same F F1 → F1 p = none → S (.ref p) (upd F1 p (o p))) : Run (fun H Q => ∀ p, H p = none → Q (.ref p) (upd H p (o p))) F L S := fun F1 N H e A Q q p hp =>
  q _ (upd F1 p (o p)) _ (same_new (A.free hp)) (A.new hp) (h F1 p e (A.free hp))
end

abbrev VP := V → Hp → Prop
/-- what a value says goes on to be so -/
class Mono {α : Type} (R : α → Hp → Prop) : Prop where
  mono : ∀ v F F', Same F F' → R v F → R v F'
theorem Mono.go {α : Type} {R : α → Hp → Prop} [Mono R] {v : α} {F F' : Hp} (h : R v F) (e : Same F F') : R v F' := Mono.mono v F F' e h

/-! ### data -/
section
variable {K : PySem.W.Frag} {F F' : Hp}
theorem sqT_up {a : Addr} {xs : List V} (e : Same F F') (h : SqT K F a xs) : SqT K F' a xs := by
  rcases h with (h | ⟨o, h⟩) | h
  · exact .inl (.inl (e _ _ h))
  · exact .inl (.inr ⟨o, e _ _ h⟩)
  · exact .inr h
theorem sqL_up {a : Addr} {xs : List V} (e : Same F F') (h : SqL K F a xs) : SqL K F' a xs := e.seq h
mutual
theorem dp_up (e : Same F F') : ∀ {v : V} {d : PyData}, Dp K F v d → Dp K F' v d
  | _, _, .non => .non
  | _, _, .bl b => .bl b
  | _, _, .int i => .int i
  | _, _, .str x => .str x
  | _, _, .lst h t => .lst (sqL_up e h) (dpA_up e t)
  | _, _, .tup h t => .tup (sqT_up e h) (dpA_up e t)
theorem dpA_up (e : Same F F') : ∀ {vs : List V} {ds : List PyData}, DpAll K F vs ds → DpAll K F' vs ds
  | _, _, .nil => .nil
  | _, _, .cons h t => .cons (dp_up e h) (dpA_up e t)
end
end
/-- the value is the data d -/
def Dt (K : PySem.W.Frag) (d : PyData) : VP := fun v F => Dp K F v d
instance {K : PySem.W.Frag} {d : PyData} : Mono (Dt K d) := ⟨fun _ _ _ e h => dp_up e h⟩
/-- it is just this one -/
def Eqv {α : Type} (x : α) : α → Hp → Prop := fun v _ => v = x
instance {α : Type} {x : α} : Mono (Eqv x) := ⟨fun _ _ _ _ h => h⟩
/-- each of the values says its own -/
def Each : List VP → List V → Hp → Prop
  | [], [], _ => True
  | R :: Rs, v :: vs, F => R v F ∧ Each Rs vs F
  | _, _, _ => False
class MonoL (Rs : List VP) : Prop where
  mono : ∀ vs F F', Same F F' → Each Rs vs F → Each Rs vs F'
instance : MonoL [] := ⟨fun vs F F' e h => by cases vs <;> exact h⟩
instance {R : VP} {Rs : List VP} [Mono R] [MonoL Rs] : MonoL (R :: Rs) := ⟨fun vs F F' e h => by
  cases vs with
  | nil => exact h
  | cons v vs => exact ⟨Mono.mono v F F' e h.1, MonoL.mono vs F F' e h.2⟩⟩
instance {Rs : List VP} [MonoL Rs] : Mono (Each Rs) := ⟨fun vs F F' e h => MonoL.mono vs F F' e h⟩
theorem each_length : ∀ {Rs : List VP} {vs : List V} {F : Hp}, Each Rs vs F → vs.length = Rs.length
  | [], [], _, _ => rfl
  | _ :: Rs, _ :: vs, F, h => by rw [List.length_cons, List.length_cons, each_length (Rs := Rs) (vs := vs) h.2]
  | [], _ :: _, _, h => h.elim
  | _ :: _, [], _, h => h.elim
theorem each_dt {K : PySem.W.Frag} {F : Hp} : ∀ {ds : List PyData} {vs : List V}, Each (ds.map (Dt K)) vs F ↔ DpAll K F vs ds
  | [], [] => ⟨fun _ => .nil, fun _ => trivial⟩
  | d :: ds, v :: vs => ⟨fun h => .cons h.1 (each_dt.mp h.2), fun h => by cases h with | cons a b => exact ⟨a, each_dt.mpr b⟩⟩
  | [], _ :: _ => ⟨fun h => h.elim, fun h => nomatch h⟩
  | _ :: _, [] => ⟨fun h => h.elim, fun h => nomatch h⟩
theorem each_app : ∀ {Rs Ss : List VP} {vs ws : List V} {F : Hp}, Each Rs vs F → Each Ss ws F → Each (Rs ++ Ss) (vs ++ ws) F
  | [], _, [], _, _, _, h => h
  | _ :: Rs, Ss, _ :: vs, ws, _, h, g => ⟨h.1, each_app (Rs := Rs) (vs := vs) h.2 g⟩
  | [], _, _ :: _, _, _, h, _ => h.elim
  | _ :: _, _, [], _, _, h, _ => h.elim
theorem each0 {vs : List V} {F : Hp} (h : Each [] vs F) : vs = [] := by
  cases vs with
  | nil => rfl
  | cons _ _ => exact h.elim
theorem each_cons {R : VP} {Rs : List VP} {vs : List V} {F : Hp} (h : Each (R :: Rs) vs F) : ∃ v ws, vs = v :: ws ∧ R v F ∧ Each Rs ws F := by
  cases vs with
  | nil => exact h.elim
  | cons v ws => exact ⟨v, ws, rfl, h.1, h.2⟩
theorem each1 {R : VP} {vs : List V} {F : Hp} (h : Each [R] vs F) : ∃ v, vs = [v] ∧ R v F := by
  obtain ⟨v, ws, rfl, h1, h2⟩ := each_cons h
  cases each0 h2
  exact ⟨v, rfl, h1⟩
theorem each2 {R S : VP} {vs : List V} {F : Hp} (h : Each [R, S] vs F) : ∃ v u, vs = [v, u] ∧ R v F ∧ S u F := by
  obtain ⟨v, ws, rfl, h1, h2⟩ := each_cons h
  obtain ⟨u, rfl, h3⟩ := each1 h2
  exact ⟨v, u, rfl, h1, h3⟩
theorem each3 {R S T : VP} {vs : List V} {F : Hp} (h : Each [R, S, T] vs F) : ∃ v u w, vs = [v, u, w] ∧ R v F ∧ S u F ∧ T w F := by
  obtain ⟨v, ws, rfl, h1, h2⟩ := each_cons h
  obtain ⟨u, w, rfl, h3, h4⟩ := each2 h2
  exact ⟨v, u, w, rfl, h1, h3, h4⟩
/-- a tuple, a list of such -/
def Tp (K : PySem.W.Frag) (Rs : List VP) : VP := fun v F => ∃ a vs, v = .ref a ∧ SqT K F a vs ∧ Each Rs vs F
def Ls (K : PySem.W.Frag) (Rs : List VP) : VP := fun v F => ∃ a vs, v = .ref a ∧ SqL K F a vs ∧ Each Rs vs F
/-- a list that stands there just so -/
def Ln (Rs : List VP) : VP := fun v F => ∃ a vs, v = .ref a ∧ F a = some (.lst vs) ∧ Each Rs vs F
instance {Rs : List VP} [MonoL Rs] : Mono (Ln Rs) := ⟨fun _ _ _ e ⟨a, vs, h, s, r⟩ => ⟨a, vs, h, e _ _ s, MonoL.mono _ _ _ e r⟩⟩
theorem Ln.ls {K : PySem.W.Frag} {Rs : List VP} {v : V} {F : Hp} (h : Ln Rs v F) : Ls K Rs v F :=
  let ⟨a, vs, h, s, r⟩ := h
  ⟨a, vs, h, .inl (.inl s), r⟩
instance {K : PySem.W.Frag} {Rs : List VP} [MonoL Rs] : Mono (Tp K Rs) := ⟨fun _ _ _ e ⟨a, vs, h, s, r⟩ => ⟨a, vs, h, sqT_up e s, MonoL.mono _ _ _ e r⟩⟩
instance {K : PySem.W.Frag} {Rs : List VP} [MonoL Rs] : Mono (Ls K Rs) := ⟨fun _ _ _ e ⟨a, vs, h, s, r⟩ => ⟨a, vs, h, sqL_up e s, MonoL.mono _ _ _ e r⟩⟩
theorem monoL_map {ι : Type} {f : ι → VP} (h : ∀ x, Mono (f x)) : ∀ xs : List ι, MonoL (xs.map f)
  | [] => inferInstanceAs (MonoL [])
  | x :: xs => by
    have := h x
    have := monoL_map h xs
    exact inferInstanceAs (MonoL (f x :: xs.map f))
instance {ι : Type} {f : ι → VP} [h : ∀ x, Mono (f x)] {xs : List ι} : MonoL (xs.map f) := monoL_map h xs
theorem tp_dt {K : PySem.W.Frag} {ds : List PyData} {v : V} {F : Hp} : Tp K (ds.map (Dt K)) v F ↔ Dt K (.tuple ds) v F :=
  ⟨fun ⟨a, vs, h, s, r⟩ => by subst h; exact .tup s (each_dt.mp r), fun h => by cases h with | tup s r => exact ⟨_, _, rfl, s, each_dt.mpr r⟩⟩
theorem ls_dt {K : PySem.W.Frag} {ds : List PyData} {v : V} {F : Hp} : Ls K (ds.map (Dt K)) v F ↔ Dt K (.list ds) v F :=
  ⟨fun ⟨a, vs, h, s, r⟩ => by subst h; exact .lst s (each_dt.mp r), fun h => by cases h with | lst s r => exact ⟨_, _, rfl, s, each_dt.mpr r⟩⟩
theorem dt_int {K : PySem.W.Frag} {i : Int} {v : V} {F : Hp} (h : Dt K (.int i) v F) : v = .int i := by cases h; rfl
theorem dt_bl {K : PySem.W.Frag} {b : Bool} {v : V} {F : Hp} (h : Dt K (.bool b) v F) : v = .bl b := by cases h; rfl
theorem vs_ints {K : PySem.W.Frag} {F : Hp} : ∀ {ns : List Int} {vs : List V}, DpAll K F vs (ns.map PyData.int) → vs = ns.map V.int
  | [], _, .nil => rfl
  | n :: ns, _, .cons h t => by
    cases h
    rw [List.map_cons, vs_ints (ns := ns) t]
theorem ints_vs {K : PySem.W.Frag} {F : Hp} : ∀ {ns : List Int}, DpAll K F (ns.map V.int) (ns.map PyData.int)
  | [] => .nil
  | n :: ns => .cons (.int n) ints_vs
end Rs

/-! Rs1: expressions, statements, loops, comprehensions as runs. -/
namespace Rs
open PySem L2
variable [Rs.Tabz]
theorem len_ok {n : Nat} (h : n ≤ 100000) : n ≤ sizeLine := Nat.le_trans h (by decide)
theorem len_lt {n : Nat} (h : n < 100000) : n < sizeLine := Nat.lt_of_lt_of_le h (by decide)
section
variable {K : PySem.W.Frag} {σ : L2.St} {F F1 : Hp} {L : Cells} {R Ra Rb Rc : VP} {Rs Ss : List VP} {ta tb tc te : TE} {t tr : TA} {tt tu : TT} {i : Nat} {v : V} {r r' : R2}
theorem r_var [Mono R] (h : σ[i]? = some (some v)) (hr : R v F) : Run (tVar i σ) F L R := run_ex v (run_and (fun _ _ _ _ _ => h) (run_ret fun _ e => Mono.go hr e))
theorem r_varE (h : σ[i]? = some (some v)) : Run (tVar i σ) F L (Eqv v) := r_var h rfl
theorem r_c [Mono R] (hr : R v F) : Run (tC v σ) F L R := run_ret fun _ e => Mono.go hr e
theorem r_int {j : Int} : Run (tC (.int j) σ) F L (Dt K (.int j)) := r_c (R := Dt K (.int j)) (.int j)
theorem r_bl {b : Bool} : Run (tC (.bl b) σ) F L (Dt K (.bool b)) := r_c (R := Dt K (.bool b)) (.bl b)
theorem r_str {x : Str} : Run (tC (.str x) σ) F L (Dt K (.str x)) := r_c (R := Dt K (.str x)) (.str x)
theorem r_op [Mono Ra] (ha : Run (ta σ) F L Ra) (hb : Run (tb σ) F L Rb) (h : ∀ x y F1, Same F F1 → Ra x F1 → Rb y F1 → Run (r x y) F1 L R) : Run (tOp r ta tb σ) F L R :=
  run_bind (k := ta σ) ha fun x F1 e1 hx => run_bind (k := tb σ) (hb.up e1) fun y F2 e2 hy => h x y F2 (e1.trans e2) (Mono.go hx e2) hy
theorem r_un {q : V → Hp → VK → Prop} (ha : Run (ta σ) F L Ra) (h : ∀ x F1, Same F F1 → Ra x F1 → Run (q x) F1 L R) : Run (tUn q ta σ) F L R := run_bind (k := ta σ) ha h
theorem r_cb {q : List V → Hp → VK → Prop} {A : List V → Hp → Prop} (ha : Run (t σ) F L A) (h : ∀ xs F1, Same F F1 → A xs F1 → Run (q xs) F1 L R) : Run (tCB q t σ) F L R := run_bind (k := t σ) ha h
theorem r_nil : Run (tNil σ) F L (Each []) := run_ret fun _ _ => True.intro
theorem r_cons [Mono R] (h : Run (te σ) F L R) (hr : Run (tr σ) F L (Each Rs)) : Run (tCons te tr σ) F L (Each (R :: Rs)) := fun F1 N H e A Q q =>
  h F1 N H e A _ fun x F2 H2 e2 A2 hx => hr F2 N H2 (e.trans e2) A2 _ fun xs F3 H3 e3 A3 hxs => q (x :: xs) F3 H3 (e2.trans e3) A3 ⟨Mono.go hx e3, hxs⟩
theorem r_tup (h : Run (t σ) F L (Each Rs)) [MonoL Rs] (hl : Rs.length ≤ 100000) : Run (tTup t σ) F L (Tp K Rs) :=
  run_bind (k := t σ) h fun xs F1 e1 hx => run_and (fun _ _ _ _ _ => len_ok (by rw [each_length hx]; exact hl)) (run_new fun F2 p e2 hp => ⟨p, xs, rfl, .inl (.inl upd_same), MonoL.mono _ _ _ (e2.trans (same_new hp)) hx⟩)
theorem r_lst (h : Run (t σ) F L (Each Rs)) [MonoL Rs] (hl : Rs.length ≤ 100000) : Run (tLst t σ) F L (Ln Rs) :=
  run_bind (k := t σ) h fun xs F1 e1 hx => run_and (fun _ _ _ _ _ => len_ok (by rw [each_length hx]; exact hl)) (run_new fun F2 p e2 hp => ⟨p, xs, rfl, upd_same, MonoL.mono _ _ _ (e2.trans (same_new hp)) hx⟩)
theorem r_ls (h : Run (te σ) F L (Ln Rs)) : Run (te σ) F L (Ls K Rs) := h.weak fun _ _ _ => Ln.ls
/-! numbers, comparisons -/
theorem r_I0i {f : Int → Int → Int} {a b : Int} (ha : Run (ta σ) F L (Dt K (.int a))) (hb : Run (tb σ) F L (Dt K (.int b))) : Run (tOp (rI0 fun i j => .int (f i j)) ta tb σ) F L (Dt K (.int (f a b))) :=
  r_op ha hb fun x y F1 e1 hx hy => by
    cases hx; cases hy
    exact run_ex a (run_ex b (run_and (fun _ _ _ _ _ => rfl) (run_and (fun _ _ _ _ _ => rfl) (run_ret fun _ _ => .int _))))
theorem r_I0b {f : Int → Int → Bool} {a b : Int} (ha : Run (ta σ) F L (Dt K (.int a))) (hb : Run (tb σ) F L (Dt K (.int b))) : Run (tOp (rI0 fun i j => .bl (f i j)) ta tb σ) F L (Dt K (.bool (f a b))) :=
  r_op ha hb fun x y F1 e1 hx hy => by
    cases hx; cases hy
    exact run_ex a (run_ex b (run_and (fun _ _ _ _ _ => rfl) (run_and (fun _ _ _ _ _ => rfl) (run_ret fun _ _ => .bl _))))
theorem r_Ii {C : Int → Int → Prop} {f : Int → Int → Int} {a b : Int} (ha : Run (ta σ) F L (Dt K (.int a))) (hb : Run (tb σ) F L (Dt K (.int b))) (hc : C a b) : Run (tOp (rI C fun i j => .int (f i j)) ta tb σ) F L (Dt K (.int (f a b))) :=
  r_op ha hb fun x y F1 e1 hx hy => by
    cases hx; cases hy
    exact run_ex a (run_ex b (run_and (fun _ _ _ _ _ => rfl) (run_and (fun _ _ _ _ _ => rfl) (run_and (fun _ _ _ _ _ => hc) (run_ret fun _ _ => .int _)))))
theorem r_U {f : Int → Int} {a : Int} (ha : Run (ta σ) F L (Dt K (.int a))) : Run (tUn (rU fun i => .int (f i)) ta σ) F L (Dt K (.int (f a))) :=
  r_un ha fun x F1 e1 hx => by
    cases hx
    exact run_ex a (run_and (fun _ _ _ _ _ => rfl) (run_ret fun _ _ => .int _))
/-- lo < x <= hi and its like -/
theorem r_chain {f g : Int → Int → Bool} {a b c : Int} (ha : Run (ta σ) F L (Dt K (.int a))) (hb : Run (tb σ) F L (Dt K (.int b))) (hc : Run (tc σ) F L (Dt K (.int c))) :
    Run (tChain (rI0 fun i j => .bl (f i j)) (rI0 fun i j => .bl (g i j)) ta tb tc σ) F L (Dt K (.bool (f a b && g b c))) :=
  run_bind (k := ta σ) ha fun x F1 e1 hx => run_bind (k := tb σ) (hb.up e1) fun y F2 e2 hy => by
    cases hx; cases hy
    refine run_bind (k := fun H Q => rI0 (fun i j => .bl (f i j)) (.int a) (.int b) H Q) (R := Eqv (.bl (f a b))) (run_ex a (run_ex b (run_and (fun _ _ _ _ _ => rfl) (run_and (fun _ _ _ _ _ => rfl) (run_ret fun _ _ => rfl))))) fun z F3 e3 hz => ?_
    cases hz
    refine run_ex (f a b) (run_and (fun _ _ _ _ _ => rfl) ?_)
    cases hf : f a b with
    | true =>
      refine fun F4 N H e4 A Q q => iteT ?_
      refine run_bind (hc.up ((e1.trans e2).trans e3)) (k2 := fun w' H4 Q => rI0 (fun i j => .bl (g i j)) (.int b) w' H4 Q) (S := Dt K (.bool (true && g b c))) (fun w F5 e5 hw => ?_) F4 N H e4 A Q q
      cases hw
      exact run_ex b (run_ex c (run_and (fun _ _ _ _ _ => rfl) (run_and (fun _ _ _ _ _ => rfl) (run_ret fun _ _ => by rw [Bool.true_and]; exact .bl _))))
    | false =>
      refine fun F4 N H e4 A Q q => iteF ?_
      exact q _ F4 H (Same.refl _) A (.bl _)
/-! tests -/
variable {a b : Bool}
theorem t_test (h : Run (te σ) F L (Dt K (.bool b))) : Run (tTest te σ) F L (Eqv b) := run_bind (k := te σ) h fun x F1 e1 hx => by
  cases hx
  exact run_ex b (run_and (fun _ _ _ _ _ => rfl) (run_ret fun _ _ => rfl))
theorem t_B (h : Run (te σ) F L (Dt K (.bool b))) : Run (tB te σ) F L (Eqv b) := run_bind (k := te σ) h fun x F1 e1 hx => by
  cases hx
  exact run_ex b (run_and (fun _ _ _ _ _ => rfl) (run_ret fun _ _ => rfl))
theorem t_yes : Run (tYes σ) F L (Eqv true) := run_ret fun _ _ => rfl
theorem t_not (h : Run (tt σ) F L (Eqv b)) : Run (tNot tt σ) F L (Eqv (!b)) := run_bind (k := tt σ) h fun x F1 e1 hx => by
  cases hx
  exact run_ret fun _ _ => rfl
theorem t_and (h : Run (tt σ) F L (Eqv a)) (h2 : a = true → Run (tu σ) F L (Eqv b)) : Run (tAnd tt tu σ) F L (Eqv (a && b)) := run_bind (k := tt σ) h fun x F1 e1 hx => by
  cases hx
  cases a with
  | true => exact fun F4 N H e4 A Q q => iteT (((h2 rfl).up e1) F4 N H e4 A Q q)
  | false => exact fun F4 N H e4 A Q q => iteF (q false F4 H (Same.refl _) A rfl)
theorem t_or (h : Run (tt σ) F L (Eqv a)) (h2 : a = false → Run (tu σ) F L (Eqv b)) : Run (tOr tt tu σ) F L (Eqv (a || b)) := run_bind (k := tt σ) h fun x F1 e1 hx => by
  cases hx
  cases a with
  | true => exact fun F4 N H e4 A Q q => iteT (q true F4 H (Same.refl _) A rfl)
  | false => exact fun F4 N H e4 A Q q => iteF (((h2 rfl).up e1) F4 N H e4 A Q q)
theorem t_is (h : Run (tt σ) F L (Eqv a)) (e : a = b) : Run (tt σ) F L (Eqv b) := e ▸ h
theorem r_and (h : Run (ta σ) F L (Dt K (.bool a))) (h2 : a = true → Run (tb σ) F L (Dt K (.bool b))) : Run (tAndV ta tb σ) F L (Dt K (.bool (a && b))) := run_bind (k := ta σ) h fun x F1 e1 hx => by
  cases hx
  refine run_ex a (run_and (fun _ _ _ _ _ => rfl) ?_)
  cases a with
  | true => exact fun F4 N H e4 A Q q => iteT (((h2 rfl).up e1) F4 N H e4 A Q q)
  | false => exact fun F4 N H e4 A Q q => iteF (q _ F4 H (Same.refl _) A (.bl false))
theorem r_not (h : Run (ta σ) F L (Dt K (.bool a))) : Run (tNotV ta σ) F L (Dt K (.bool (!a))) := run_bind (k := ta σ) h fun x F1 e1 hx => by
  cases hx
  exact run_ex a (run_and (fun _ _ _ _ _ => rfl) (run_ret fun _ _ => .bl _))
theorem r_if (h : Run (tt σ) F L (Eqv b)) (h1 : b = true → Run (ta σ) F L R) (h2 : b = false → Run (tb σ) F L R) : Run (tIf tt ta tb σ) F L R := run_bind (k := tt σ) h fun x F1 e1 hx => by
  cases hx
  cases b with
  | true => exact fun F4 N H e4 A Q q => iteT (((h1 rfl).up e1) F4 N H e4 A Q q)
  | false => exact fun F4 N H e4 A Q q => iteF (((h2 rfl).up e1) F4 N H e4 A Q q)
theorem r_is {d e : PyData} (h : Run (te σ) F L (Dt K d)) (q : d = e) : Run (te σ) F L (Dt K e) := q ▸ h
end

/-! ### promises -/
/-- a def that leaves all as it is: from arguments that say Rs it hands back what says R -/
def SpF {γ : Type} (pre : γ → Prop) (Rs : γ → List VP) (R : γ → VP) : Sp := fun vs H Q _ => ∃ g F N, pre g ∧ At F N H ∧ Each (Rs g) vs F ∧ ∀ v F' H', Same F F' → At F' N H' → R g v F' → Q v H'
section
variable {σ : L2.St} {F : Hp} {L : Cells} {γ : Type} {pre : γ → Prop} {Rs : γ → List VP} {R : γ → VP} {t : TA} {E : XK}
theorem sp_run {g : γ} (hp : pre g) {vs : List V} (h : Each (Rs g) vs F) [MonoL (Rs g)] : Run (fun H Q => SpF pre Rs R vs H Q E) F L (R g) := fun F1 N H e A Q q =>
  ⟨g, F1, L ++ N, hp, A, MonoL.mono _ _ _ e h, fun v F2 H2 e2 A2 r => q v F2 H2 e2 A2 r⟩
theorem r_call (g : γ) (hp : pre g) [MonoL (Rs g)] (h : Run (t σ) F L (Each (Rs g))) : Run (tCall (SpF pre Rs R) [] E t σ) F L (R g) := run_bind (k := t σ) h fun vs F1 e1 hv => by
  have := sp_run (R := R) (E := E) (L := L) hp hv
  rw [← List.append_nil vs] at this
  exact this
end

/-! ### statements -/
def RunS (t : TS) (σ : L2.St) (F : Hp) (L : Cells) (Nx : L2.St → Hp → Cells → Prop) (Rt : VP) : Prop :=
  ∀ F1 N H, Same F F1 → At F1 (L ++ N) H → ∀ D : Ends, (∀ σ' F' L' H', Same F1 F' → At F' (L' ++ N) H' → Nx σ' F' L' → D.nx σ' H') → (∀ v F' H', Same F1 F' → At F' N H' → Rt v F' → D.rt v H') → t D σ H
section
variable {K : PySem.W.Frag} {σ : L2.St} {F : Hp} {L : Cells} {Nx Mid : L2.St → Hp → Cells → Prop} {Rt R : VP} {t u : TS} {te ta tb : TE} {tc : TT} {i j : Nat} {b : Bool}
theorem RunS.up {F1 : Hp} (h : RunS t σ F L Nx Rt) (e : Same F F1) : RunS t σ F1 L Nx Rt := fun F2 N H e2 A D q r => h F2 N H (e.trans e2) A D q r
theorem s_seq (h : RunS t σ F L Mid Rt) (h2 : ∀ σ' F' L', Same F F' → Mid σ' F' L' → RunS u σ' F' L' Nx Rt) : RunS (tSeq t u) σ F L Nx Rt := fun F1 N H e A D q r =>
  h F1 N H e A { D with nx := u D } (fun σ' F' L' H' e' A' m => h2 σ' F' L' (e.trans e') m F' N H' (Same.refl _) A' D (fun σ2 F2 L2 H2 e2 A2 n => q σ2 F2 L2 H2 (e'.trans e2) A2 n) fun v F2 H2 e2 A2 n => r v F2 H2 (e'.trans e2) A2 n) r
theorem s_next (h : ∀ F1, Same F F1 → Nx σ F1 L) : RunS tNext σ F L Nx Rt := fun F1 N H e A D q r => q σ F1 L H (Same.refl _) A (h F1 e)
theorem q_set (h : Run (te σ) F L R) (k : ∀ v F1, Same F F1 → R v F1 → RunS u (σ.set i (some v)) F1 L Nx Rt) : RunS (tSeq (tAsg te (gName i)) u) σ F L Nx Rt := fun F1 N H e A D q r =>
  h F1 N H e A _ fun v F2 H2 e2 A2 hv => k v F2 (e.trans e2) hv F2 N H2 (Same.refl _) A2 D (fun σ3 F3 L3 H3 e3 A3 n => q σ3 F3 L3 H3 (e2.trans e3) A3 n) fun w F3 H3 e3 A3 n => r w F3 H3 (e2.trans e3) A3 n
theorem s_ret (h : Run (te σ) F L Rt) : RunS (tRet te) σ F L Nx Rt := fun F1 N H e A D q r => h F1 N H e A _ fun v F2 H2 e2 A2 hv => r v F2 H2 e2 A2.drop hv
theorem s_drop (h : Run (te σ) F L R) (k : ∀ F1, Same F F1 → Nx σ F1 L) : RunS (tDrop te) σ F L Nx Rt := fun F1 N H e A D q r =>
  h F1 N H e A _ fun v F2 H2 e2 A2 hv => q _ F2 L H2 e2 A2 (k F2 (e.trans e2))
theorem q_drop (h : Run (te σ) F L R) (k : ∀ F1, Same F F1 → RunS u σ F1 L Nx Rt) : RunS (tSeq (tDrop te) u) σ F L Nx Rt := s_seq (Mid := fun σ' F' L' => σ' = σ ∧ L' = L) (s_drop h fun _ _ => ⟨rfl, rfl⟩) fun σ' F' L' e ⟨h1, h2⟩ => by
  subst h1 h2
  exact k F' e
theorem s_if (h : Run (tc σ) F L (Eqv b)) (h1 : b = true → RunS t σ F L Nx Rt) (h2 : b = false → RunS u σ F L Nx Rt) : RunS (tIfS tc t u) σ F L Nx Rt := fun F1 N H e A D q r =>
  h F1 N H e A _ fun c F2 H2 e2 A2 hc => by
    cases hc
    cases b with
    | true => exact iteT (h1 rfl F2 N H2 (e.trans e2) A2 D (fun σ3 F3 L3 H3 e3 A3 n => q σ3 F3 L3 H3 (e2.trans e3) A3 n) fun w F3 H3 e3 A3 n => r w F3 H3 (e2.trans e3) A3 n)
    | false => exact iteF (h2 rfl F2 N H2 (e.trans e2) A2 D (fun σ3 F3 L3 H3 e3 A3 n => q σ3 F3 L3 H3 (e2.trans e3) A3 n) fun w F3 H3 e3 A3 n => r w F3 H3 (e2.trans e3) A3 n)
/-- if c: (a return, or on) ; then u -/
theorem q_if {w : TS} (h : Run (tc σ) F L (Eqv b)) (h1 : b = true → RunS (tSeq t w) σ F L Nx Rt) (h2 : b = false → RunS (tSeq u w) σ F L Nx Rt) : RunS (tSeq (tIfS tc t u) w) σ F L Nx Rt := fun F1 N H e A D q r =>
  h F1 N H e A _ fun c F2 H2 e2 A2 hc => by
    cases hc
    cases b with
    | true => exact iteT (h1 rfl F2 N H2 (e.trans e2) A2 D (fun σ3 F3 L3 H3 e3 A3 n => q σ3 F3 L3 H3 (e2.trans e3) A3 n) fun w F3 H3 e3 A3 n => r w F3 H3 (e2.trans e3) A3 n)
    | false => exact iteF (h2 rfl F2 N H2 (e.trans e2) A2 D (fun σ3 F3 L3 H3 e3 A3 n => q σ3 F3 L3 H3 (e2.trans e3) A3 n) fun w F3 H3 e3 A3 n => r w F3 H3 (e2.trans e3) A3 n)
theorem q_next (h : RunS u σ F L Nx Rt) : RunS (tSeq tNext u) σ F L Nx Rt := h
theorem q_ret (h : Run (te σ) F L Rt) : RunS (tSeq (tRet te) u) σ F L Nx Rt := fun F1 N H e A D q r => h F1 N H e A _ fun v F2 H2 e2 A2 hv => r v F2 H2 e2 A2.drop hv
theorem RunS.weak {Nx' : L2.St → Hp → Cells → Prop} (h : RunS t σ F L Nx Rt) (hn : ∀ σ' F' L', Same F F' → Nx σ' F' L' → Nx' σ' F' L') : RunS t σ F L Nx' Rt := fun F1 N H e A D q r =>
  h F1 N H e A D (fun σ' F' L' H' e' A' n => q σ' F' L' H' e' A' (hn σ' F' L' (e.trans e') n)) r
/-- the cells in another order -/
theorem RunS.perm {L' : Cells} (h : RunS t σ F L' Nx Rt) (p : L.Perm L') : RunS t σ F L Nx Rt := fun F1 N H e A D q r => h F1 N H e (A.perm (List.Perm.append_right N p)) D q r
/-- a cell stays from now on -/
theorem RunS.keep {a : Addr} {o : HO} (h : F a = none → RunS t σ (upd F a o) L Nx Rt) : RunS t σ F ((a, o) :: L) Nx Rt := fun F1 N H e A D q r => by
  have A1 : At F1 ((a, o) :: (L ++ N)) H := A
  have ha : F a = none := e.free A1.off1
  refine h ha (upd F1 a o) N H (fun c v z => ?_) A1.keep D (fun σ' F' L' H' e' A' n => q σ' F' L' H' ((same_new A1.off1).trans e') A' n) fun v F' H' e' A' n => r v F' H' ((same_new A1.off1).trans e') A' n
  by_cases hc : c = a
  · rw [hc, upd_same] at z ⊢; exact z
  · rw [upd_ne hc] at z ⊢; exact e c v z
/-! lists of one's own -/
theorem s_app {l : Addr} {xs : List V} (hl : Run (ta σ) F ((l, .lst xs) :: L) (Eqv (.ref l))) (h : Run (te σ) F ((l, .lst xs) :: L) R) (hz : xs.length < 100000)
    (k : ∀ v F1, Same F F1 → R v F1 → Nx σ F1 ((l, .lst (xs ++ [v])) :: L)) : RunS (tDrop (tBM K "list" rAppend ta (tCons te tNil))) σ F ((l, .lst xs) :: L) Nx Rt := fun F1 N H e A D q r =>
  hl F1 N H e A _ fun v F2 H2 e2 A2 hv => by
    cases hv
    refine ⟨.inl ⟨rfl, xs, .inl (.inl (At.on1 A2))⟩, ?_⟩
    refine h F2 N H2 (e.trans e2) A2 _ fun v F3 H3 e3 A3 hv => ⟨l, xs, v, rfl, rfl, At.on1 A3, len_lt hz, ?_⟩
    exact q _ F3 _ _ (e2.trans e3) (At.put A3) (k v F3 ((e.trans e2).trans e3) hv)
end

/-! ### loops -/
/-- the iterator gives things that say Rs, one behind the other -/
def Seqs (J : It) (Rs : List VP) (F1 : Hp) : Prop := ∃ G Y, Walk J Rs.length G Y ∧ (∀ F2 L H, Same F1 F2 → At F2 L H → G H) ∧
  (∀ F2 L H i x H', Same F1 F2 → At F2 L H → i < Rs.length → Y i H x H' → ∃ F3 R, Same F2 F3 ∧ At F3 L H' ∧ Rs[i]? = some R ∧ R x F3)
section
variable {K : PySem.W.Frag} {σ : L2.St} {F : Hp} {L : Cells} {Rs : List VP} {te : TE} {t : TA} {i j : Nat}
theorem each_at : ∀ {Rs : List VP} {vs : List V} {F : Hp} {i : Nat} {x : V}, Each Rs vs F → vs[i]? = some x → ∃ R, Rs[i]? = some R ∧ R x F
  | [], [], _, _, _, _, e => by simp at e
  | R :: Rs, v :: vs, F, 0, w, h, e => by
    have e' : v = w := by simpa using e
    subst e'
    exact ⟨R, rfl, h.1⟩
  | R :: Rs, v :: vs, F, i + 1, w, h, e => by
    obtain ⟨y, h1, h2⟩ := each_at (Rs := Rs) (vs := vs) (i := i) h.2 (by simpa using e)
    exact ⟨y, by simpa using h1, h2⟩
  | [], _ :: _, _, _, _, h, _ => h.elim
  | _ :: _, [], _, _, _, h, _ => h.elim
theorem seqs_tup {a : Addr} {vs : List V} {F1 : Hp} [MonoL Rs] (h : SqT K F1 a vs) (hv : Each Rs vs F1) : Seqs (Itt K a) Rs F1 := by
  rw [Seqs, ← each_length hv]
  refine ⟨_, _, walk_tup, fun F2 L H e A => sqT_up (e.trans A.ex) h, fun F2 L H i x H' e A hi y => ?_⟩
  obtain ⟨rfl, hx⟩ := y
  obtain ⟨R, h1, h2⟩ := each_at (MonoL.mono _ _ _ e hv) hx
  exact ⟨F2, R, Same.refl _, A, h1, h2⟩
theorem seqs_lst {a : Addr} {vs : List V} {F1 : Hp} [MonoL Rs] (h : SqL K F1 a vs) (hv : Each Rs vs F1) : Seqs (Itl K a) Rs F1 := by
  rw [Seqs, ← each_length hv]
  refine ⟨_, _, walk_list, fun F2 L H e A => sqL_up (e.trans A.ex) h, fun F2 L H i x H' e A hi y => ?_⟩
  obtain ⟨rfl, hx⟩ := y
  obtain ⟨R, h1, h2⟩ := each_at (MonoL.mono _ _ _ e hv) hx
  exact ⟨F2, R, Same.refl _, A, h1, h2⟩
theorem seqs_range {n : Nat} {F1 : Hp} : Seqs (Itr 0 n) ((List.range n).map fun i => Dt K (.int (i : Nat))) F1 := by
  rw [Seqs, List.length_map, List.length_range]
  refine ⟨_, _, walk_range, fun F2 L H e A => True.intro, fun F2 L H i x H' e A hi y => ?_⟩
  obtain ⟨rfl, rfl⟩ := y
  refine ⟨F2, Dt K (.int (i : Nat)), Same.refl _, A, by simp [hi], ?_⟩
  show Dp K F2 (.int (0 + (i : Int))) (.int (i : Nat))
  rw [Int.zero_add]
  exact .int _
theorem i_tup [MonoL Rs] (h : Run (te σ) F L (Tp K Rs)) : Run (iTup K te σ) F L (fun J F1 => Seqs J Rs F1) := run_bind (k := te σ) h fun v F1 e1 hv => by
  obtain ⟨a, vs, rfl, hs, hr⟩ := hv
  exact run_ex a (run_and (fun _ _ _ _ _ => rfl) (run_and (fun F2 N H e A => ⟨vs, sqT_up (e.trans A.ex) hs⟩) (run_ret fun F2 e => seqs_tup (sqT_up e hs) (MonoL.mono _ _ _ e hr))))
theorem i_lst [MonoL Rs] (h : Run (te σ) F L (Ls K Rs)) : Run (iList K te σ) F L (fun J F1 => Seqs J Rs F1) := run_bind (k := te σ) h fun v F1 e1 hv => by
  obtain ⟨a, vs, rfl, hs, hr⟩ := hv
  exact run_ex a (run_and (fun _ _ _ _ _ => rfl) (run_and (fun F2 N H e A => ⟨vs, sqL_up (e.trans A.ex) hs⟩) (run_ret fun F2 e => seqs_lst (sqL_up e hs) (MonoL.mono _ _ _ e hr))))
theorem i_range {n : Int} (h : Run (t σ) F L (Each [Dt K (.int n)])) (hn : n ≤ 100000) (h0 : -100000 ≤ n) : Run (iRng1 t σ) F L (fun J F1 => Seqs J ((List.range n.toNat).map fun i => Dt K (.int (i : Nat))) F1) := run_bind (k := t σ) h fun vs F1 e1 hv => by
  obtain ⟨v, rfl, hv1⟩ := each1 hv
  · obtain rfl := dt_int hv1
    exact run_ex n (run_and (fun _ _ _ _ _ => rfl) (run_and (fun _ _ _ _ _ => by omega) (run_and (fun _ _ _ _ _ => by omega) (run_ret fun F2 e => seqs_range))))
/-- a target takes what comes, then the rest -/
def bindG (g : TG) (x : V) (tb : TS) : TS := fun D σ H => g x σ H fun σ2 H2 => tb D σ2 H2
variable {Nx : L2.St → Hp → Cells → Prop} {Rt : VP} {tb u : TS} {g : TG} {wi : TI}
theorem g_pair {j1 j2 : Nat} {x : V} {R1 R2 : VP} (hx : Tp K [R1, R2] x F) [Mono R1] [Mono R2] (h : ∀ v1 v2, R1 v1 F → R2 v2 F → RunS tb ((σ.set j1 (some v1)).set j2 (some v2)) F L Nx Rt) :
    RunS (bindG (gTup K 2 (gCons (gName j1) (gCons (gName j2) gNil))) x tb) σ F L Nx Rt := fun F1 N H e A D q r => by
  obtain ⟨a, vs, rfl, hs, hr⟩ := hx
  obtain ⟨v1, v2, rfl, h1, h2⟩ := each2 hr
  exact ⟨a, [v1, v2], rfl, sqT_up (e.trans A.ex) hs, rfl, v1, [v2], rfl, v2, [], rfl, rfl, h v1 v2 h1 h2 F1 N H e A D q r⟩
/-- for: Inv by the turn, the slots, what stays, the cells -/
theorem s_for (Inv : Nat → L2.St → Hp → Cells → Prop) (h : Run (wi σ) F L (fun J F1 => Seqs J Rs F1)) (h0 : ∀ F1, Same F F1 → Inv 0 σ F1 L)
    (hup : ∀ i σ' F1 F2 L', Same F1 F2 → Inv i σ' F1 L' → Inv i σ' F2 L')
    (hs : ∀ i R x σ' F' L', Same F F' → Rs[i]? = some R → R x F' → Inv i σ' F' L' → RunS (bindG g x tb) σ' F' L' (Inv (i + 1)) Rt)
    (hd : ∀ σ' F' L', Same F F' → Inv Rs.length σ' F' L' → Nx σ' F' L') : RunS (tFor wi g tb) σ F L Nx Rt := fun F1 N H e A D q r =>
  h F1 N H e A _ fun J F2 H2 e2 A2 ⟨G, Y, wk, hG, hY⟩ => by
    refine for_it wk (D := D) (fun i σ' H' => ∃ F' L', Same F2 F' ∧ At F' (L' ++ N) H' ∧ Inv i σ' F' L') ⟨F2, L, Same.refl _, A2, h0 F2 (e.trans e2)⟩ (fun i σ' H' _ ⟨F', L', e', A', _⟩ => hG F' (L' ++ N) H' e' A') ?_ ?_
    · rintro i x σ' H3 H4 hi ⟨F', L', e', A', I⟩ y
      obtain ⟨F3, R, e3, A3, hR, hx⟩ := hY F' (L' ++ N) H3 i x H4 e' A' hi y
      exact hs i R x σ' F3 L' (((e.trans e2).trans e').trans e3) hR hx (hup i σ' F' F3 L' e3 I) F3 N H4 (Same.refl _) A3 { D with nx := fun σ' H' => ∃ F' L', Same F2 F' ∧ At F' (L' ++ N) H' ∧ Inv (i + 1) σ' F' L', ct := fun σ' H' => ∃ F' L', Same F2 F' ∧ At F' (L' ++ N) H' ∧ Inv (i + 1) σ' F' L', bk := D.nx }
        (fun σ5 F5 L5 H5 e5 A5 n => ⟨F5, L5, (e'.trans e3).trans e5, A5, n⟩) fun w F5 H5 e5 A5 n => r w F5 H5 (((e2.trans e').trans e3).trans e5) A5 n
    · rintro σ' H3 ⟨F', L', e', A', I⟩
      exact q σ' F' L' H3 (e2.trans e') A' (hd σ' F' L' ((e.trans e2).trans e') I)
theorem q_for (Inv : Nat → L2.St → Hp → Cells → Prop) (h : Run (wi σ) F L (fun J F1 => Seqs J Rs F1)) (h0 : ∀ F1, Same F F1 → Inv 0 σ F1 L)
    (hup : ∀ i σ' F1 F2 L', Same F1 F2 → Inv i σ' F1 L' → Inv i σ' F2 L')
    (hs : ∀ i R x σ' F' L', Same F F' → Rs[i]? = some R → R x F' → Inv i σ' F' L' → RunS (bindG g x tb) σ' F' L' (Inv (i + 1)) Rt)
    (hd : ∀ σ' F' L', Same F F' → Inv Rs.length σ' F' L' → RunS u σ' F' L' Nx Rt) : RunS (tSeq (tFor wi g tb) u) σ F L Nx Rt :=
  s_seq (s_for (Nx := fun σ' F' L' => Inv Rs.length σ' F' L') Inv h h0 hup hs fun _ _ _ _ i => i) fun σ' F' L' e i => hd σ' F' L' e i
/-- while: W by a number that falls -/
theorem s_while {tc : TT} (W : Nat → L2.St → Hp → Cells → Prop) (m0 : Nat) (h0 : W m0 σ F L) (hup : ∀ m σ' F1 F2 L', Same F1 F2 → W m σ' F1 L' → W m σ' F2 L')
    (hs : ∀ m σ' F' L', Same F F' → W m σ' F' L' → ∃ b, Run (tc σ') F' L' (Eqv b) ∧ (b = true → RunS tb σ' F' L' (fun σ2 F2 L2 => ∃ m', m' < m ∧ W m' σ2 F2 L2) Rt) ∧ (b = false → Nx σ' F' L'))
    (hnx : ∀ σ' F1 F2 L', Same F1 F2 → Nx σ' F1 L' → Nx σ' F2 L') : RunS (tWhile tc tb) σ F L Nx Rt := fun F1 N H e A D q r => by
  refine ⟨fun m σ' H' => ∃ F' L', Same F1 F' ∧ At F' (L' ++ N) H' ∧ W m σ' F' L', ⟨m0, F1, L, Same.refl _, A, hup _ _ _ _ _ e h0⟩, ?_⟩
  rintro m σ' H' ⟨F', L', e', A', w⟩
  obtain ⟨b, hb, h1, h2⟩ := hs m σ' F' L' (e.trans e') w
  refine hb F' N H' (Same.refl _) A' _ fun c F2 H2 e2 A2 hc => ?_
  cases hc
  cases b with
  | true =>
    refine iteT ⟨fun σ2 H2 => ∃ F2 L2 m', m' < m ∧ Same F1 F2 ∧ At F2 (L2 ++ N) H2 ∧ W m' σ2 F2 L2, fun σ2 H2 ⟨F2, L2, m', hm, e3, A3, w3⟩ => ⟨m', hm, F2, L2, e3, A3, w3⟩, ?_⟩
    exact h1 rfl F2 N H2 e2 A2 _ (fun σ3 F3 L3 H3 e3 A3 ⟨m', hm, w3⟩ => ⟨F3, L3, m', hm, (e'.trans e2).trans e3, A3, w3⟩) fun v F3 H3 e3 A3 n => r v F3 H3 ((e'.trans e2).trans e3) A3 n
  | false => exact iteF (q σ' F2 L' H2 (e'.trans e2) A2 (hnx _ _ _ _ e2 (h2 rfl)))
theorem q_while {tc : TT} (W : Nat → L2.St → Hp → Cells → Prop) (m0 : Nat) (h0 : W m0 σ F L) (hup : ∀ m σ' F1 F2 L', Same F1 F2 → W m σ' F1 L' → W m σ' F2 L')
    (hs : ∀ m σ' F' L', Same F F' → W m σ' F' L' → ∃ b, Run (tc σ') F' L' (Eqv b) ∧ (b = true → RunS tb σ' F' L' (fun σ2 F2 L2 => ∃ m', m' < m ∧ W m' σ2 F2 L2) Rt) ∧ (b = false → RunS u σ' F' L' Nx Rt)) : RunS (tSeq (tWhile tc tb) u) σ F L Nx Rt :=
  s_seq (Mid := fun σ' F' L' => RunS u σ' F' L' Nx Rt) (s_while W m0 h0 hup hs fun σ' F1 F2 L' e n => n.up e) fun _ _ _ _ n => n

/-! ### comprehensions -/
/-- a target that takes what comes; then the slots are such -/
def RunG (g : TG) (x : V) (σ : L2.St) (F : Hp) (L : Cells) (P : L2.St → Hp → Prop) : Prop := ∀ F1 N H, Same F F1 → At F1 (L ++ N) H → ∀ Q : L2.St → Hp → Prop, (∀ σ2 F2 H2, Same F1 F2 → At F2 (L ++ N) H2 → P σ2 F2 → Q σ2 H2) → g x σ H Q
theorem rg_name {x : V} {P : L2.St → Hp → Prop} (h : ∀ F1, Same F F1 → P (σ.set j (some x)) F1) : RunG (gName j) x σ F L P := fun F1 N H e A Q q => q _ F1 H (Same.refl _) A (h F1 e)
theorem rg_pair {j1 j2 : Nat} {x : V} {R1 R2 : VP} {P : L2.St → Hp → Prop} [Mono R1] [Mono R2] (hx : Tp K [R1, R2] x F) (h : ∀ v1 v2 F1, Same F F1 → R1 v1 F1 → R2 v2 F1 → P ((σ.set j1 (some v1)).set j2 (some v2)) F1) :
    RunG (gTup K 2 (gCons (gName j1) (gCons (gName j2) gNil))) x σ F L P := fun F1 N H e A Q q => by
  obtain ⟨a, vs, rfl, hs, hr⟩ := hx
  obtain ⟨v1, v2, rfl, h1, h2⟩ := each2 hr
  exact ⟨a, [v1, v2], rfl, sqT_up (e.trans A.ex) hs, rfl, v1, [v2], rfl, v2, [], rfl, rfl, q _ F1 H (Same.refl _) A (h v1 v2 F1 e (Mono.go h1 e) (Mono.go h2 e))⟩
theorem filter_take {ι : Type} {f : ι → Bool} {xs : List ι} {i : Nat} {x : ι} (h : xs[i]? = some x) : (xs.take (i + 1)).filter f = (xs.take i).filter f ++ (if f x then [x] else []) := by
  obtain ⟨hl, hx⟩ := List.getElem?_eq_some_iff.mp h
  rw [List.take_succ_eq_append_getElem hl, List.filter_append, hx]
  congr 1
  rw [List.filter_cons]
  cases f x <;> simp
theorem r_lcG {ι : Type} {Ri Re : ι → VP} {f : ι → Bool} {xs : List ι} {tt : TT} {te : TE} {vs : List Nat} [∀ x, Mono (Re x)] (h : Run (wi σ) F L (fun J F1 => Seqs J (xs.map Ri) F1)) (hz : xs.length ≤ 40000)
    (ht : ∀ x v F1, Same F F1 → x ∈ xs → Ri x v F1 → RunG g v (wipe σ vs) F1 L fun σ2 F2 => wipe σ2 vs = wipe σ vs ∧ Run (tt σ2) F2 L (Eqv (f x)) ∧ (f x = true → Run (te σ2) F2 L (Re x))) :
    Run (tLc wi g tt te vs σ) F L (Ln ((xs.filter f).map Re)) := fun F1 N H e A Q q =>
  h F1 N H e A _ fun J F2 H2 e2 A2 ⟨G, Y, wk, hG, hY⟩ D hD => by
    rw [List.length_map] at wk
    refine lc_it wk (Qd := fun H => Q (.ref D) H) (fun i H' => ∃ F' acc, Same F2 F' ∧ At F' ((D, .lst acc) :: (L ++ N)) H' ∧ Each (((xs.take i).filter f).map Re) acc F') ⟨F2, [], Same.refl _, A2.cell hD, by simp [Each]⟩
      (fun i H' _ ⟨F', acc, e', A', _⟩ => hG F' _ H' e' A') ?_ ?_
    · rintro i x H3 H4 hi ⟨F', acc, e', A', hacc⟩ y
      obtain ⟨F3, R, e3, A3, hR, hx⟩ := hY F' _ H3 i x H4 e' A' (by rw [List.length_map]; exact hi) y
      rw [List.getElem?_map] at hR
      have hxi : xs[i]? = some xs[i] := List.getElem?_eq_getElem hi
      rw [hxi] at hR
      cases hR
      have P0 : ((D, HO.lst acc) :: (L ++ N)).Perm (L ++ ((D, .lst acc) :: N)) := List.perm_middle.symm
      have hlen : acc.length ≤ xs.length := by
        rw [each_length hacc, List.length_map]
        exact Nat.le_trans (List.length_filter_le _ _) (List.length_take_le' _ _)
      refine ht xs[i] x F3 (((e.trans e2).trans e').trans e3) (List.getElem_mem hi) hx F3 ((D, .lst acc) :: N) H4 (Same.refl _) (A3.perm P0) _ fun σ2 F4 H5 e4 A4 ⟨hw, hb, hv⟩ => ⟨hw, ?_⟩
      refine hb F4 ((D, .lst acc) :: N) H5 (Same.refl _) A4 _ fun b F5 H6 e5 A5 hb5 => ?_
      cases hb5
      cases hf : f xs[i] with
      | true =>
        refine iteT ?_
        refine (hv hf).up e5 F5 ((D, .lst acc) :: N) H6 (Same.refl _) A5 _ fun y F6 H7 e6 A6 hy => ?_
        have A7 := A6.perm P0.symm
        refine ⟨acc, A7.on1, len_lt (by omega), F6, acc ++ [y], (((e'.trans e3).trans e4).trans e5).trans e6, A7.put, ?_⟩
        rw [filter_take hxi, hf, if_pos rfl, List.map_append]
        exact each_app (Mono.go hacc (((e3.trans e4).trans e5).trans e6)) ⟨hy, True.intro⟩
      | false =>
        refine iteF ⟨F5, acc, ((e'.trans e3).trans e4).trans e5, A5.perm P0.symm, ?_⟩
        rw [filter_take hxi, hf, if_neg Bool.false_ne_true, List.append_nil]
        exact Mono.go hacc ((e3.trans e4).trans e5)
    · rintro H3 ⟨F', acc, e', A', hacc⟩
      rw [List.take_length] at hacc
      have A1 : At F' ((D, .lst acc) :: (L ++ N)) H3 := A'
      exact q (.ref D) (upd F' D (.lst acc)) H3 ((e2.trans e').trans (same_new A1.off1)) A1.keep ⟨D, acc, rfl, upd_same, Mono.go hacc (same_new A1.off1)⟩
end
end Rs

/-! Rs2: enumerate of a tuple, sets of a list, .. at the level of the machine. -/
namespace Rs
open PySem PySem.Spec PyProof.Rows L2
variable [Rs.Tabz]
/-! ### enumerate(tuple) -/
set_option maxHeartbeats 1000000 in
theorem enum_new_tup (l : Addr) (items : Array Value) (n : Nat) (dct : Option Addr) (sl : Array (Option Value)) :
    Meets (Builtin.«enumerate.__new__» ⟨[.type "enumerate", .ref l], []⟩) (fun _ R s => s.heap.get? l = some { cls := .type "tuple", dict := dct, data := .seq items n, slots := sl } ∧
      R (.ok (.ret (.ref (s.heap.push { cls := .type "tuple_iterator", data := .fields #[.ref l, .int 0 0] }).objs.size)))
        { s with heap := (s.heap.push { cls := .type "tuple_iterator", data := .fields #[.ref l, .int 0 0] }).push { cls := .type "enumerate", data := .fields #[.none, .bool false, .ref s.heap.objs.size, rawInt 0, .none, .none] } }) :=
  .of_wp fun prog w A R s h => by
    obtain ⟨hp, g, d, tk, os⟩ := s
    obtain ⟨hl, h⟩ := h
    have hsub := sub_enumerate
    have isT : Heap.IsTuple (Shared.heap ⟨hp, g, d, tk, os⟩) l items := ⟨_, hl, rfl, n, rfl⟩
    wp_walk using AutoSeq1.wpAny_loadPart' hl
    refine wpAny_stack_any fun st => wpAny_pure ?_
    split
    · rename_i c _ _ _ _ _
      cases (c == Value.type "enumerate")
      all_goals
        wp_walk using AutoSeq1.wpAny_loadPart' hl, wpAny_pyIter_tuple isT
        exact ⟨_, rfl, h⟩
    · wp_walk using AutoSeq1.wpAny_loadPart' hl, wpAny_pyIter_tuple isT
      exact ⟨_, rfl, h⟩
section
variable {prog : Program} {w : World} {A : Around} {E : Value → Shared → Prop} {s : Shared}
theorem enum_tup {l : Addr} {items : Array Value} {Q : Value → Shared → Prop} (hL : s.heap.IsTuple l items)
    (h : ∀ h', IsEnum h' (s.heap.objs.size + 1) s.heap.objs.size 0 .none → h'.IsTupleIter s.heap.objs.size l 0 → h'.objs.size = s.heap.objs.size + 2 →
      (∀ b o, s.heap.get? b = some o → h'.get? b = some o) → Q (.ref (s.heap.objs.size + 1)) { s with heap := h' }) :
    wpAny (model prog w) A (call (.type "enumerate") [.ref l]) Q E s := by
  obtain ⟨⟨c, dct, dt, sl⟩, hl, hc, n, hd⟩ := hL
  obtain rfl : c = .type "tuple" := hc
  obtain rfl : dt = .seq items n := hd
  refine callType_new F.called_enumerate (by decide) (F.typeCall_enumerate_1 _) (F.newCall_enumerate_1 _) (fun obj => F.args_object_init_2 obj _) F.entry_enumerate_new (enum_new_tup l items n dct sl) ⟨hl, ?_⟩
  have hz : (s.heap.push { cls := .type "tuple_iterator", data := .fields #[.ref l, .int 0 0] }).objs.size = s.heap.objs.size + 1 := Heap.size_push ..
  show _ ∧ _
  rw [hz]
  have he : IsEnum ((s.heap.push { cls := .type "tuple_iterator", data := .fields #[.ref l, .int 0 0] }).push { cls := .type "enumerate", data := .fields #[.none, .bool false, .ref s.heap.objs.size, rawInt 0, .none, .none] }) (s.heap.objs.size + 1) s.heap.objs.size 0 .none := by
    have q := Heap.get?_push_size (s.heap.push { cls := .type "tuple_iterator", data := .fields #[.ref l, .int 0 0] }) (o := { cls := .type "enumerate", data := .fields #[.none, .bool false, .ref s.heap.objs.size, rawInt 0, .none, .none] }) rfl
    rw [hz] at q
    exact q
  exact ⟨⟨_, he, rfl⟩, h _ he ⟨_, Heap.get?_push_of_some _ (Heap.get?_push_size _ rfl), rfl, rfl⟩ (by rw [Heap.size_push, hz]) fun b o x => Heap.get?_push_of_some _ (Heap.get?_push_of_some _ x)⟩
end
/-- each item of the tuple at a in a new pair with its place -/
def ItEt (K : PySem.W.Frag) (a : Addr) : It :=
  ⟨fun i H => ∃ (xs : List V) (x : V), SqT K H a xs ∧ xs[i]? = some x, fun i H v H' => ∃ T x, v = .ref T ∧ H T = none ∧ H' = upd H T (.tup [.int (i : Nat), x]) ∧ ∀ xs, SqT K H a xs → xs[i]? = some x, fun i H => ∃ xs : List V, SqT K H a xs ∧ xs.length = i⟩
theorem turn_et {P : Program} {w : World} {K : PySem.W.Frag} {elts : List Expr} {kk : Nat} {tpos : Pos} (a e it : Addr) :
    Turn P w K (.Tuple elts kk tpos) (ItEt K a) [e, it] e (fun i h => (∃ old, IsEnum h e it ((i : Nat) : Int) old) ∧ h.IsTupleIter it a i ∧ e ≠ it ∧ a ≠ it ∧ a ≠ e) where
  mem := by simp
  obj := fun i h st b hb => by
    obtain ⟨⟨old, he⟩, ⟨o, ho, hc, hd⟩, _⟩ := st
    rcases (by simpa using hb : b = e ∨ b = it) with z | z
    · rw [z]; exact ⟨_, he, fun v q => nomatch q⟩
    · rw [z]; exact ⟨o, ho, fun v q => by rw [hd] at q; cases q⟩
  keep := fun i h h' st k => let ⟨⟨old, he⟩, hi, hne⟩ := st; ⟨⟨old, k e (by simp) _ he⟩, hi.at fun o q => k it (by simp) o q, hne⟩
  item := by
    intro X hP hw hK hc i pins s σ H E I hf st hg
    subst hP hw hK
    obtain ⟨⟨old, he⟩, hit, hne, hai, hae⟩ := st
    obtain ⟨xs, x, hq, hx⟩ := hg
    obtain ⟨its, rv, p, hz⟩ := I.tuple hq
    obtain ⟨u, hu, ru⟩ := rv.get hx
    have hel : e < s.heap.objs.size := Heap.lt_size he
    have hil : it < s.heap.objs.size := by obtain ⟨_, q, _⟩ := hit; exact Heap.lt_size q
    have hh : X.A.in1.handled = none := I.ok.hd hc
    have hlt : i < its.toArray.size := by
      rw [List.size_toArray]; exact (List.getElem?_eq_some_iff.mp hu).1
    have pT : s.heap.IsTuple a its.toArray := p
    refine wpAny_pyNext_enum_itemD (Draws.tuple hh it a hai its.toArray) he ⟨hit, pT⟩ hlt hne (by simp; exact ⟨hne, fun z => hae z.symm⟩) fun x' h' tk hx' ho st' hT hsz hk => ?_
    have exu : x' = u := by
      have q : its.toArray[i]? = some u := by simpa using hu
      rw [hx'] at q
      exact Option.some.inj q
    subst exu
    refine ⟨_, rfl, wpAny_letOwnedTupleGo_enum (s := { s with heap := h', toks := tk + 1 }) ho fun h'' he' sb => ?_⟩
    have hT2 : h''.get? s.heap.objs.size = some { cls := .type "tuple", data := .seq #[.int i tk, x'] } := (sb.2 _ (Nat.ne_of_gt hel)).trans hT
    have new : ObjOk X.prog X.w (upd H s.heap.objs.size (.tup [.int (i : Nat), x])) h'' s.heap.objs.size (.tup [.int (i : Nat), x]) :=
      ⟨by show 2 ≤ sizeLine; decide, [.int i tk, x'], .cons ⟨_, rfl⟩ (.cons ru .nil), ⟨_, hT2, rfl, _, rfl⟩⟩
    have I1 : Inv X pins σ (upd H s.heap.objs.size (.tup [.int (i : Nat), x])) { s with heap := h'', toks := tk + 1 } :=
      I.turnedNew (ch := [e, it]) (fun b ob hb q => (sb.2 b (fun z => hb (by simp [z]))).trans (hk b ob (fun z => hb (by simp [z])) (fun z => hb (by simp [z])) q)) hf (Nat.le_refl _) new
    refine ⟨.ref s.heap.objs.size, _, I1, rfl, ⟨_, x, rfl, I.hok.fresh (Nat.le_refl _), rfl, fun ys hy => by rw [I.tuple_inj hy hq]; exact hx⟩, ⟨⟨x', ?_⟩, st'.1.at fun o q => (sb.2 it (Ne.symm hne)).trans q, hne, hai, hae⟩, fun b hb => ?_⟩
    · rw [show ((i + 1 : Nat) : Int) = (i : Int) + 1 from by omega]
      exact he'
    · have hb' : b < s.heap.objs.size := by
        rcases (by simpa using hb : b = e ∨ b = it) with z | z
        · rw [z]; exact hel
        · rw [z]; exact hil
      rw [upd_ne (Nat.ne_of_lt hb')]
      exact (hf b hb).1
  done := by
    intro X hP hw hK hc i pins s σ H E I hf st hg
    subst hP hw hK
    obtain ⟨⟨old, he⟩, hit, hne, hai, hae⟩ := st
    obtain ⟨xs, hq, hx⟩ := hg
    obtain ⟨its, rv, p, hz⟩ := I.tuple hq
    obtain ⟨f0, f1, f2, f3, f4, f5⟩ := hf it (by simp)
    have hl := rv.length
    have hh : X.A.in1.handled = none := I.ok.hd hc
    have hi : its.toArray.size = i := by rw [List.size_toArray]; omega
    have pT : s.heap.IsTuple a its.toArray := p
    exact wpAny_pyNext_enum_endD (Draws.tuple hh it a hai its.toArray) he ⟨by rw [hi]; exact hit, pT⟩ fun h' eb => ⟨rfl, I.turned (t' := s.toks) (fun b o hb q => eb b o hb q) f0 f1 f3 f4 f5⟩
  self := fun A i s Q E st h => let ⟨⟨_, he⟩, _⟩ := st; wpAny_pyIter_enum he h
def iEnumT (K : PySem.W.Frag) (ta : TA) : TI := fun σ H R => ta σ H fun vs H1 => ∃ a xs, vs = [.ref a] ∧ SqT K H1 a xs ∧ R (ItEt K a) H1
theorem pi_enumT {X : Cx} {e : Expr} {ta : TA} {p pos tpos : Pos} {elts : List Expr} {kk : Nat} (hg : Gl X "enumerate") (hm : X.mg "enumerate" = none) (ha : PA X [e] ta) (hs : starEach [e] X.env = [(false, eval e X.env)] := by rfl) :
    PI X (.Tuple elts kk tpos) (.Call (.Name "enumerate" p) [e] [] pos) (iEnumT X.K ta) := by
  refine ⟨fun pins s σ H R I h => ?_⟩
  refine Call_ (ld_blt I hg hm boot_enumerate (PyProof.Rows.callWith_type1 (thn (ha.run pos pins s σ H _ I h) fun us s1 ⟨vs, H1, I1, r1, q1⟩ => ?_) hs rfl))
  obtain ⟨a, xs, ex, hq, q⟩ := q1
  subst ex
  obtain ⟨u, rfl, ru⟩ := r1.one
  cases (show u = Value.ref a from ru)
  obtain ⟨its, rv, p', hz⟩ := I1.tuple hq
  have pT : s1.heap.IsTuple a its.toArray := p'
  have haL : a < s1.heap.objs.size := p'.lt
  refine enum_tup pT fun h' he hit hsz hk => wpAny_pyIter_enum he ?_
  have I2 : Inv X pins σ H1 { s1 with heap := h' } := I1.kept (t' := s1.toks) hk
  refine ⟨s1.heap.objs.size + 1, [s1.heap.objs.size + 1, s1.heap.objs.size], _, _, H1, rfl, I2, turn_et a (s1.heap.objs.size + 1) s1.heap.objs.size, ⟨⟨.none, he⟩, hit, Nat.succ_ne_self _, Nat.ne_of_lt haL, Nat.ne_of_lt (Nat.lt_succ_of_lt haL)⟩, fun b hb => ?_, q⟩
  have hle : s1.heap.objs.size ≤ b := by
    rcases (by simpa using hb : b = s1.heap.objs.size + 1 ∨ b = s1.heap.objs.size) with z | z
    · rw [z]; exact Nat.le_add_right _ _
    · rw [z]; exact Nat.le_refl _
  exact I1.fpOk hle (I1.hok.fresh hle)
theorem walk_et {K : PySem.W.Frag} {a : Addr} {xs : List V} : Walk (ItEt K a) xs.length (fun H => SqT K H a xs) (YPair (fun i => some (.int (i : Nat))) (fun i => xs[i]?)) := by
  refine ⟨fun i _ hi q => ⟨xs, xs[i], q, by simp [hi]⟩, fun _ q => ⟨xs, q, rfl⟩, fun i H v H' _ q y => ?_⟩
  obtain ⟨T, x, h1, h2, h3, h4⟩ := y
  exact ⟨T, .int (i : Nat), x, h1, h2, h3, rfl, h4 xs q⟩
/-- pairs of a place and what stands there -/
def Pairs (K : PySem.W.Frag) (Rs : List VP) : List VP := Rs.mapIdx fun i R => Tp K [Dt K (.int (i : Nat)), R]
theorem seqs_et {K : PySem.W.Frag} {Rs : List VP} {a : Addr} {vs : List V} {F1 : Hp} [MonoL Rs] (h : SqT K F1 a vs) (hv : Each Rs vs F1) : Seqs (ItEt K a) (Pairs K Rs) F1 := by
  have hl : (Pairs K Rs).length = vs.length := by unfold Pairs; rw [List.length_mapIdx, each_length hv]
  rw [Seqs, hl]
  refine ⟨_, _, walk_et, fun F2 L H e A => sqT_up (e.trans A.ex) h, fun F2 L H i x H' e A hi y => ?_⟩
  obtain ⟨T, x1, x2, rfl, hT, rfl, h1, h2⟩ := y
  cases h1
  obtain ⟨R, g1, g2⟩ := each_at (MonoL.mono _ _ _ (e.trans (same_new (A.free hT))) hv) h2
  exact ⟨upd F2 T _, Tp K [Dt K (.int (i : Nat)), R], same_new (A.free hT), A.new hT, by unfold Pairs; rw [List.getElem?_mapIdx, g1]; rfl, T, _, rfl, .inl (.inl upd_same), .int _, g2, True.intro⟩
theorem i_enumT {K : PySem.W.Frag} {σ : L2.St} {F : Hp} {L : Cells} {Rs : List VP} {t : TA} [MonoL Rs] (h : Run (t σ) F L (Each [Tp K Rs])) : Run (iEnumT K t σ) F L (fun J F1 => Seqs J (Pairs K Rs) F1) := run_bind (k := t σ) h fun vs F1 e1 hv => by
  obtain ⟨v, rfl, a, ws, rfl, hs, hr⟩ := each1 hv
  · exact run_ex a (run_ex ws (run_and (fun _ _ _ _ _ => rfl) (run_and (fun F2 N H e A => sqT_up (e.trans A.ex) hs) (run_ret fun F2 e => seqs_et (sqT_up e hs) (MonoL.mono _ _ _ e hr)))))
end Rs

/-! Rs3: set(a list of ints), sorted of it. -/
namespace Rs
open PySem PySem.Spec PyProof.Rows L2
variable [Rs.Tabz]
section
variable {P : Program} {w : World} {A : Around} {E : Value → Shared → Prop} {s : Shared}
/-- the heap with a fresh set at its end -/
def withSet (w : World) (h : Heap) : Heap := h.push { cls := .type "set", dict := none, data := .set #[] 0 (.fresh 0 0 (!w.params.followText "set-order")) }
set_option maxHeartbeats 3200000 in
theorem set_listI {l : Addr} {items : Array Value} (ns : List Int) {Q : Value → Shared → Prop} (hh : A.handled = none) (hl : s.heap.IsList l items) (hit : IntsAre items.toList ns) (hb : ns.length + 1 < scanBound)
    (h : ∀ (h' : Heap) (tk c : Nat), SetR w h' s.heap.objs.size (fun j => decide (j ∈ ns)) c → c ≤ ns.length → (∀ b o, s.heap.get? b = some o → h'.get? b = some o) → Q (.ref s.heap.objs.size) { s with heap := h', toks := tk }) :
    wpAny (model P w) A (call (.type "set") [.ref l]) Q E s := by
  have isz : items.size = ns.length := (Array.length_toList (xs := items)).symm.trans (IntsAre.length hit)
  obtain ⟨c0, tl0, hmro⟩ := F.called_set.mro
  have k1 := F.called_set.made
  have k2 := F.called_set.sub
  refine wpAny_call (codeAny_of_tree ?_)
  show wpAny _ _ (callAny (.type "set") _) _ _ _
  refine wpAny_pure ⟨Code.quiet_builtin _ (by decide +kernel), codeAny_builtin F.entry_type_call ?_⟩
  rw [Around.under_plain (weight_type_call_type "set" [.ref l] []) rfl]
  have k3 := F.called_set.notType
  have k4 := F.called_set.canCreate
  have k5 := F.typeCall_set_1 (.ref l)
  repeat (any_goals (first | assumption | wp_step))
  refine codeAny_mono (code_set_led1 (.ref l) (E := E) (Q₁ := fun obj s₁ => obj = .ref s.heap.objs.size ∧ s₁ = { s with heap := withSet w s.heap }) ⟨rfl, rfl⟩) fun r s₁ hr => ?_
  match r, hr with
  | .error e, hr => exact hr
  | .ok (.next), hr => exact hr.elim
  | .ok (.brk), hr => exact hr.elim
  | .ok (.cont), hr => exact hr.elim
  | .ok (.ret obj), hr =>
    obtain ⟨rfl, rfl⟩ := hr
    have atS : (withSet w s.heap).get? s.heap.objs.size = some { cls := .type "set", dict := none, data := .set #[] 0 (.fresh 0 0 (!w.params.followText "set-order")) } := Heap.get?_push_size _ rfl
    have tyS : Shared.TypeIs { s with heap := withSet w s.heap } (.ref s.heap.objs.size) "set" := ⟨_, atS, rfl⟩
    have k6 := F.called_set.init.lookup
    have k7 := F.called_set.init.bind (.ref s.heap.objs.size)
    repeat (any_goals (first | assumption | wp_step))
    refine codeAny_mono (codeAny_call_builtin (R := wants (fun r s₂ => r = .none ∧ ∃ h' tk c, s₂ = { s with heap := h', toks := tk } ∧ SetR w h' s.heap.objs.size (fun j => decide (j ∈ ns)) c ∧ c ≤ ns.length ∧
        (∀ b o, s.heap.get? b = some o → h'.get? b = some o)) E) F.called_set.init.plain F.entry_set_init (check_set_init_1 tyS ?_)) fun r₂ s₂ hr₂ => ?_
    · obtain ⟨⟨oc, od, odt, osl⟩, hol, hcl, nl, hdl⟩ := hl
      obtain rfl : oc = .type "list" := hcl
      obtain rfl : odt = .seq items nl := hdl
      have kept : ∀ b o, s.heap.get? b = some o → (withSet w s.heap).get? b = some o := fun b o e => Heap.get?_push_of_some _ e
      have hol' := kept _ _ hol
      have k8 := F.sub_list_set
      have k9 := F.sub_list_frozenset
      have k10 : (Value.type "list" == Value.type "dict") = false := by decide
      have isL : (withSet w s.heap).IsList l items := ⟨_, hol', rfl, nl, rfl⟩
      have sz1 : (withSet w s.heap).objs.size = s.heap.objs.size + 1 := Heap.size_push ..
      unfold Builtin.«set.__init__» noKeywords Builtin.Frozenset.updateFrom
      generalize hPI : pyIter = PI
      wp_walk
      subst hPI
      refine wpAny_pyIter_list isL ?_
      refine wpAny_bind (wpAny_runValue ?_)
      have lS : l < s.heap.objs.size := Heap.lt_size hol
      have hh3 : A.in1.in1.in1.handled = none := hh
      have neI : l ≠ (withSet w s.heap).objs.size := by rw [sz1]; exact Nat.ne_of_lt (Nat.lt_succ_of_lt lS)
      have nfp : s.heap.objs.size ∉ [(withSet w s.heap).objs.size, l] := by
        rw [sz1]
        simp only [List.mem_cons, List.not_mem_nil, or_false, not_or]
        exact ⟨Nat.ne_of_lt (Nat.lt_succ_self _), Nat.ne_of_gt lS⟩
      have vals : ∀ (i : Nat) (v : Value), items[i]? = some v → ∃ k t, ns[i]? = some k ∧ v = .int k t := fun i v hv => by
        have hi : i < ns.length := isz ▸ (Array.getElem?_eq_some_iff.mp hv).1
        obtain ⟨t, e⟩ := IntsAre.int_at hit i v (by rw [Array.getElem?_toList]; exact hv)
        exact ⟨ns[i], t, List.getElem?_eq_getElem hi, by rw [e, List.getD_eq_getElem?_getD, List.getElem?_eq_getElem hi]; rfl⟩
      refine set_update_ints ((Walks.list hh3 _ l neI items).toS) s.heap.objs.size nfp ns isz hb vals (items.size - 0) 0 _ (by omega) (Nat.zero_le _) ⟨⟨_, Heap.get?_push_size _ rfl, rfl, rfl⟩, (isL.push _)⟩ ?S0 ?S1
      case S0 => exact ⟨0, Nat.le_refl 0, setR_new_at (Heap.get?_push_of_some _ atS)⟩
      case S1 =>
        intro s' c' hm hc' hS'
        obtain ⟨h', g2, d', tk', os'⟩ := s'
        obtain rfl : g2 = s.gens := hm.gens
        obtain rfl : d' = s.drawn := hm.drawn
        obtain rfl : os' = s.os := hm.os
        show wpAny _ _ _ _ _ _
        refine wpAny_pure ?_
        show wpAny _ _ (ret Value.none) _ _ _
        refine wpAny_pure ⟨rfl, h', tk', c', rfl, hS', isz ▸ hc', fun b o e => ?_⟩
        have hb0 : b < s.heap.objs.size := Heap.lt_size e
        refine hm.heap b o ?_ (Heap.get?_push_of_some _ (kept b o e))
        simp only [List.mem_cons, List.not_mem_nil, or_false, not_or]
        exact ⟨Nat.ne_of_lt hb0, by rw [sz1]; exact Nat.ne_of_lt (Nat.lt_succ_of_lt hb0)⟩
    · match r₂, hr₂ with
      | .error e, hr₂ => exact hr₂
      | .ok (.next), hr₂ => exact hr₂.elim
      | .ok (.brk), hr₂ => exact hr₂.elim
      | .ok (.cont), hr₂ => exact hr₂.elim
      | .ok (.ret r), hr₂ =>
        obtain ⟨rfl, h', tk, c', rfl, hS', hc', hk'⟩ := hr₂
        repeat (any_goals (first | assumption | wp_step))
        exact h _ _ _ hS' hc' hk'
end
section
variable {X : Cx}
theorem len_scan {n : Nat} (h : n ≤ 1000) : n + 1 < scanBound := Nat.lt_of_le_of_lt (Nat.succ_le_succ h) (by decide)
theorem ints_of {ns : List Int} {us : List Value} (r : Vals (ns.map V.int) us) : IntsAre us ns := Vals.ints r
/-- set(xs), xs a list or a tuple of at most 1000 ints -/
def rSetI (K : PySem.W.Frag) (w : World) : List V → Hp → VK → Prop := fun vs H Q => ∃ (a : Addr) (ns : List Int), vs = [.ref a] ∧ (SqL K H a (ns.map V.int) ∨ SqT K H a (ns.map V.int)) ∧ ns.length ≤ 1000 ∧
  ∀ p c, c ≤ ns.length → H p = none → Q (.ref p) (upd H p (SetO w p (fun j => decide (j ∈ ns)) c))
theorem cr_setI (hc : X.calm = true) : CallR X (.type "set") (rSetI X.K X.w) := by
  intro pins s σ H vs us Q I r h
  obtain ⟨a, ns, rfl, hs, hl, q⟩ := h
  rw [Vals.ref1 r]
  have fin : ∀ (h' : Heap) (tk c : Nat), SetR X.w h' s.heap.objs.size (fun j => decide (j ∈ ns)) c → c ≤ ns.length → (∀ b o, s.heap.get? b = some o → h'.get? b = some o) → EP X pins σ Q (.ref s.heap.objs.size) { s with heap := h', toks := tk } := fun h' tk c hS hc' hk =>
    ⟨.ref _, _, I.laid (t' := tk) hk (Nat.le_refl _) (setO_new hS), rfl, q _ c hc' (I.hok.fresh (Nat.le_refl _))⟩
  rcases hs with hs | hs
  · obtain ⟨its, rv, ⟨o, n, e, c, d, hd⟩, _⟩ := I.list hs
    exact set_listI ns (I.ok.hd hc) ⟨o, e, c, n, hd⟩ (ints_of rv) (len_scan hl) fin
  · obtain ⟨its, rv, p, _⟩ := I.tuple hs
    exact call_set_tupI ns (I.ok.hd hc) (show s.heap.IsTuple a its.toArray from p) (ints_of rv) (len_scan hl) fin
end
/-- a set of ints that stands -/
def St (w : World) (ns : List Int) : VP := fun v F => ∃ a c, v = .ref a ∧ c ≤ ns.length ∧ F a = some (SetO w a (fun j => decide (j ∈ ns)) c)
instance {w : World} {ns : List Int} : Mono (St w ns) := ⟨fun _ _ _ e ⟨a, c, h, l, r⟩ => ⟨a, c, h, l, e _ _ r⟩⟩
/-- a row of ints, as a list or a tuple -/
def seqI (ns : List Int) (v : V) (F : Hp) (K : PySem.W.Frag) : Prop := ∃ a, v = .ref a ∧ (SqL K F a (ns.map V.int) ∨ SqT K F a (ns.map V.int))
theorem seqI_t {K : PySem.W.Frag} {ns : List Int} {v : V} {F : Hp} (h : Dt K (.tuple (ns.map .int)) v F) : seqI ns v F K := by
  cases h with
  | tup s r => exact ⟨_, rfl, .inr (vs_ints r ▸ s)⟩
theorem seqI_l {K : PySem.W.Frag} {ns : List Int} {v : V} {F : Hp} (h : Dt K (.list (ns.map .int)) v F) : seqI ns v F K := by
  cases h with
  | lst s r => exact ⟨_, rfl, .inl (vs_ints r ▸ s)⟩
section
variable {K : PySem.W.Frag} {w : World} {σ : L2.St} {F : Hp} {L : Cells} {t : TA} {ns : List Int}
theorem r_set {R : VP} (h : Run (t σ) F L (Each [R])) (hr : ∀ v F1, R v F1 → seqI ns v F1 K) (hl : ns.length ≤ 1000) : Run (tCB (rSetI K w) t σ) F L (St w ns) := r_cb h fun vs F1 e1 hv => by
  obtain ⟨v, rfl, hv1⟩ := each1 hv
  obtain ⟨a, rfl, hs⟩ := hr v F1 hv1
  refine run_ex a (run_ex ns (run_and (fun _ _ _ _ _ => rfl) (run_and (fun F2 N H e A => hs.imp (sqL_up (e.trans A.ex)) (sqT_up (e.trans A.ex))) (run_and (fun _ _ _ _ _ => hl) ?_))))
  exact fun F2 N H e2 A Q q p c hc hp => q _ (upd F2 p _) _ (same_new (A.free hp)) (A.new hp) ⟨p, c, rfl, hc, upd_same⟩
theorem r_sortedSet (h : Run (t σ) F L (Each [St w ns])) (hl : ns.length < 64) (os : List Int) (h1 : os.Pairwise (· < ·)) (h2 : ∀ k, k ∈ os ↔ k ∈ ns) : Run (tCB (rSortedSet w) t σ) F L (Dt K (.list (os.map .int))) := r_cb h fun vs F1 e1 hv => by
  obtain ⟨v, rfl, a, c, rfl, hc, hs⟩ := each1 hv
  refine run_ex a (run_ex _ (run_ex c (run_and (fun _ _ _ _ _ => rfl) (run_and (fun F2 N H e A => A.ex _ _ (e _ _ hs)) (run_and (fun _ _ _ _ _ => by omega) ?_)))))
  refine fun F2 N H e2 A Q q ms p hp hm hlen hn => q _ (upd F2 p _) _ (same_new (A.free hn)) (A.new hn) ?_
  have e : ms = os := by
    refine List.Perm.eq_of_pairwise (le := (· < ·)) (fun a b _ _ x y => absurd x (Int.lt_asymm y)) hp h1 ((List.perm_ext_iff_of_nodup (hp.imp fun x => Int.ne_of_lt x) (h1.imp fun x => Int.ne_of_lt x)).mpr fun k => ?_)
    rw [hm k, h2 k, decide_eq_true_eq]
  rw [e]
  exact .lst (.inl (.inl upd_same)) ints_vs
end
end Rs

/-! Rs4: short words for calls of what is built in, of defs, of classes with slots. -/
namespace Rs
open PySem PySem.Spec PyProof.Rows L2 SlX
variable [Rs.Tabz]
/-- the names that are still the built-in ones -/
structure Bf (mg : Str → Option Value) : Prop where
  len : mg "len" = none
  range : mg "range" = none
  list : mg "list" = none
  tuple : mg "tuple" = none
  set : mg "set" = none
  sorted : mg "sorted" = none
  all : mg "all" = none
  isinstance : mg "isinstance" = none
  int : mg "int" = none
  bool : mg "bool" = none
  enumerate : mg "enumerate" = none
  zip : mg "zip" = none
  min : mg "min" = none
  max : mg "max" = none
  abs : mg "abs" = none
  str : mg "str" = none
  repr : mg "repr" = none
  dict : mg "dict" = none
section
variable {X : Cx} {e o : Expr} {es : List Expr} {ta te : TE} {t : TA} {p pos apos : Pos} {f m x : Str} {K : PySem.W.Frag}
/-- len of a text, a list, a tuple, a dict by ints and texts -/
def rLn (K : PySem.W.Frag) : List V → Hp → VK → Prop := fun xs H Q => (∃ x n, xs = [x] ∧ LenV K x H n ∧ Q (.int n) H) ∨ ∃ a kvs, xs = [V.ref a] ∧ H a = some (.dK kvs) ∧ Q (.int kvs.length) H
theorem p_len (B : Bf X.mg) (ha : PA X (e :: es) t) (hg : Gl X "len" := by rfl) (he : starEach (e :: es) X.env = (false, eval e X.env) :: starEach es X.env := by rfl) (hpl : (backTo pos (starEach es X.env)).any (·.1) = false := by rfl) :
    PE X (.Call (.Name "len" p) (e :: es) [] pos) (tCB (rLn X.K) t) := pe_callB (CallR.or call_len call_lenD) hg B.len PySem.boot_len ha (by decide) (by decide) he hpl
theorem p_all (hc : X.calm = true) (B : Bf X.mg) (ha : PA X (e :: es) t) (hg : Gl X "all" := by rfl) (he : starEach (e :: es) X.env = (false, eval e X.env) :: starEach es X.env := by rfl) (hpl : (backTo pos (starEach es X.env)).any (·.1) = false := by rfl) :
    PE X (.Call (.Name "all" p) (e :: es) [] pos) (tCB (rAll X.K) t) := pe_callB (cr_all hc) hg B.all boot_all ha (by decide) (by decide) he hpl
theorem p_isi (B : Bf X.mg) (ha : PA X (e :: es) t) (hg : Gl X "isinstance" := by rfl) (he : starEach (e :: es) X.env = (false, eval e X.env) :: starEach es X.env := by rfl) (hpl : (backTo pos (starEach es X.env)).any (·.1) = false := by rfl) :
    PE X (.Call (.Name "isinstance" p) (e :: es) [] pos) (tCB (rIsi X.K) t) := pe_callB call_isi hg B.isinstance PyProof.Rows.boot_isinstance ha (by decide) (by decide) he hpl
theorem p_isiS (u : Value) (B : Bf X.mg) (ha : PA X (e :: es) t) (hg : Gl X "isinstance" := by rfl) (he : starEach (e :: es) X.env = (false, eval e X.env) :: starEach es X.env := by rfl) (hpl : (backTo pos (starEach es X.env)).any (·.1) = false := by rfl) :
    PE X (.Call (.Name "isinstance" p) (e :: es) [] pos) (tCB (fun xs H Q => rIsi X.K xs H Q ∨ rIsiSl X.K u xs H Q) t) := pe_callB (CallR.or call_isi (call_isiSl u)) hg B.isinstance PyProof.Rows.boot_isinstance ha (by decide) (by decide) he hpl
theorem p_set (hc : X.calm = true) (B : Bf X.mg) (ha : PA X (e :: es) t) (hg : Gl X "set" := by rfl) (he : starEach (e :: es) X.env = (false, eval e X.env) :: starEach es X.env := by rfl) (hpl : (backTo pos (starEach es X.env)).any (·.1) = false := by rfl) :
    PE X (.Call (.Name "set" p) (e :: es) [] pos) (tCB (rSetI X.K X.w) t) := pe_callTy (cr_setI hc) hg B.set PyProof.Rows.boot_set ha (by decide) (by decide) he hpl
theorem p_sortedSet (hc : X.calm = true) (B : Bf X.mg) (ha : PA X (e :: es) t) (hg : Gl X "sorted" := by rfl) (he : starEach (e :: es) X.env = (false, eval e X.env) :: starEach es X.env := by rfl) (hpl : (backTo pos (starEach es X.env)).any (·.1) = false := by rfl) :
    PE X (.Call (.Name "sorted" p) (e :: es) [] pos) (tCB (rSortedSet X.w) t) := pe_callB (cr_sortedSet hc) hg B.sorted boot_sorted ha (by decide) (by decide) he hpl
theorem p_sortedL (B : Bf X.mg) (ha : PA X (e :: es) t) (hg : Gl X "sorted" := by rfl) (he : starEach (e :: es) X.env = (false, eval e X.env) :: starEach es X.env := by rfl) (hpl : (backTo pos (starEach es X.env)).any (·.1) = false := by rfl) :
    PE X (.Call (.Name "sorted" p) (e :: es) [] pos) (tCB (rSorted X.K) t) := pe_callB cr_sorted hg B.sorted boot_sorted ha (by decide) (by decide) he hpl
/-- sorted of a dict by ints -/
def rSortedDI : List V → Hp → VK → Prop := fun xs H Q => ∃ (a : Addr) (kvs : List (Key × V)) (ks : List Int), xs = [.ref a] ∧ Rd H a (.dK kvs) ∧ kvs.map (·.1) = ks.map Sum.inl ∧ ks.length < 64 ∧
    ∀ (ys : List Int) (p : Addr), ys.Perm ks → ys.Pairwise (· ≤ ·) → H p = none → Q (.ref p) (upd H p (.lst (ys.map V.int)))
theorem p_sortedDI (hc : X.calm = true) (B : Bf X.mg) (ha : PA X (e :: es) t) (hg : Gl X "sorted" := by rfl) (he : starEach (e :: es) X.env = (false, eval e X.env) :: starEach es X.env := by rfl) (hpl : (backTo pos (starEach es X.env)).any (·.1) = false := by rfl) :
    PE X (.Call (.Name "sorted" p) (e :: es) [] pos) (tCB rSortedDI t) := pe_callB (call_sortedDI hc) hg B.sorted boot_sorted ha (by decide) (by decide) he hpl
def rListOf (K : PySem.W.Frag) : List V → Hp → VK → Prop := fun xs H Q => ∃ p ys, xs = [.ref p] ∧ (SqL K H p ys ∨ SqT K H p ys) ∧ ∀ l, H l = none → Q (.ref l) (upd H l (.lst ys))
theorem p_list (B : Bf X.mg) (ha : PA X (e :: es) t) (hg : Gl X "list" := by rfl) (he : starEach (e :: es) X.env = (false, eval e X.env) :: starEach es X.env := by rfl) (hpl : (backTo pos (starEach es X.env)).any (·.1) = false := by rfl) :
    PE X (.Call (.Name "list" p) (e :: es) [] pos) (tCB (rListOf X.K) t) := pe_callTy call_list_of hg B.list PyProof.Rows.boot_list ha (by decide) (by decide) he hpl
def rTupOf (K : PySem.W.Frag) : List V → Hp → VK → Prop := fun xs H Q => ∃ p ys, xs = [.ref p] ∧ ((SqL K H p ys ∧ ∀ l, H l = none → Q (.ref l) (upd H l (.tup ys))) ∨ (SqT K H p ys ∧ Q (.ref p) H))
theorem p_tuple (B : Bf X.mg) (ha : PA X (e :: es) t) (hg : Gl X "tuple" := by rfl) (he : starEach (e :: es) X.env = (false, eval e X.env) :: starEach es X.env := by rfl) (hpl : (backTo pos (starEach es X.env)).any (·.1) = false := by rfl) :
    PE X (.Call (.Name "tuple" p) (e :: es) [] pos) (tCB (rTupOf X.K) t) := pe_callTy call_tuple_of hg B.tuple PyProof.Rows.boot_tuple ha (by decide) (by decide) he hpl
def rIntOf : List V → Hp → VK → Prop := fun xs H Q => (∃ i, xs = [.int i] ∧ Q (.int i) H) ∨ ∃ k, xs = [.bl k] ∧ Q (.int (if k then 1 else 0)) H
theorem p_int (B : Bf X.mg) (ha : PA X (e :: es) t) (hg : Gl X "int" := by rfl) (he : starEach (e :: es) X.env = (false, eval e X.env) :: starEach es X.env := by rfl) (hpl : (backTo pos (starEach es X.env)).any (·.1) = false := by rfl) :
    PE X (.Call (.Name "int" p) (e :: es) [] pos) (tCB rIntOf t) := pe_callTy call_int1 hg B.int PyProof.Rows.boot_int ha (by decide) (by decide) he hpl
def rAbs : List V → Hp → VK → Prop := fun xs H Q => ∃ i, xs = [.int i] ∧ Q (.int (if i < 0 then -i else i)) H
theorem p_abs (B : Bf X.mg) (ha : PA X (e :: es) t) (hg : Gl X "abs" := by rfl) (he : starEach (e :: es) X.env = (false, eval e X.env) :: starEach es X.env := by rfl) (hpl : (backTo pos (starEach es X.env)).any (·.1) = false := by rfl) :
    PE X (.Call (.Name "abs" p) (e :: es) [] pos) (tCB rAbs t) := pe_callB call_abs hg B.abs PyProof.Rows.boot_abs ha (by decide) (by decide) he hpl
def rMin2 : List V → Hp → VK → Prop := fun xs H Q => ∃ i j, xs = [.int i, .int j] ∧ Q (.int (if j < i then j else i)) H
theorem p_min2 (hc : X.calm = true) (B : Bf X.mg) (ha : PA X (e :: es) t) (hg : Gl X "min" := by rfl) (he : starEach (e :: es) X.env = (false, eval e X.env) :: starEach es X.env := by rfl) (hpl : (backTo pos (starEach es X.env)).any (·.1) = false := by rfl) :
    PE X (.Call (.Name "min" p) (e :: es) [] pos) (tCB rMin2 t) := pe_callB (call_min2 hc) hg B.min PyProof.Rows.boot_min ha (by decide) (by decide) he hpl
def rMax2 : List V → Hp → VK → Prop := fun xs H Q => ∃ i j, xs = [.int i, .int j] ∧ Q (.int (if j > i then j else i)) H
theorem p_max2 (hc : X.calm = true) (B : Bf X.mg) (ha : PA X (e :: es) t) (hg : Gl X "max" := by rfl) (he : starEach (e :: es) X.env = (false, eval e X.env) :: starEach es X.env := by rfl) (hpl : (backTo pos (starEach es X.env)).any (·.1) = false := by rfl) :
    PE X (.Call (.Name "max" p) (e :: es) [] pos) (tCB rMax2 t) := pe_callB (call_max2 hc) hg B.max PyProof.Rows.boot_max ha (by decide) (by decide) he hpl
/-- a built-in type's name -/
theorem p_ty {T : String} {x : Str} (hg : Gl X x) (hm : X.mg x = none) (hv : bootBuiltins x = some (.type T)) (hn : x ≠ "__name__" := by decide) (hd : (x == ("__debug__" : Str)) = false := by decide) : PE X (.Name x pos) (tC (.ty T)) := pe_bltn hg hm hv rfl hn hd
theorem p_cls {C : Addr} {x : Str} (hg : Gl X x) (hm : X.mg x = some (.ref C)) (hd : (x == ("__debug__" : Str)) = false := by decide) : PE X (.Name x pos) (tC (.ref C)) := pe_glob hg hm rfl hd
/-- a module's own int -/
def GInt (mg : Str → Option Value) (x : Str) (i : Int) : Prop := ∃ t, mg x = some (.int i t)
theorem p_gint {i : Int} {x : Str} (h : GInt X.mg x i) (hg : Gl X x := by rfl) (hd : (x == ("__debug__" : Str)) = false := by decide) : PE X (.Name x pos) (tC (.int i)) := by
  obtain ⟨t, h⟩ := h
  exact pe_glob hg h ⟨t, rfl⟩ hd
/-- a def called -/
structure Gf (P : Program) (w : World) (K : PySem.W.Frag) (mg : Str → Option Value) (base : Heap) (k : Nat) (x : Str) (sp : Sp) : Prop where
  ex : ∃ f fd ps, FnOk P w K mg base CX0 k f fd ps sp ∧ mg x = some (.ref f) ∧ PySem.W.keepIn K (.ref f) = true ∧ Binds K fd ps []
theorem p_call {k j : Nat} {sp : Sp} (c : Gf X.prog X.w X.K X.mg X.base k f sp) (hr : Room j X.A) (hk : k ≤ j) (ha : PA X (e :: es) t) (hg : Gl X f := by rfl)
    (hdb : (f == ("__debug__" : Str)) = false := by decide) (he : starEach (e :: es) X.env = (false, eval e X.env) :: starEach es X.env := by rfl) (hpl : (backTo pos (starEach es X.env)).any (·.1) = false := by rfl) :
    PE X (.Call (.Name f p) (e :: es) [] pos) (tCall sp [] E0 t) := by
  obtain ⟨g, fd, ps, F, hm, kp, b⟩ := c.ex
  exact pe_call F (hr.mono hk) hg hm kp b .nil pass0 ha hdb he hpl
/-- a method, a property of a class with slots -/
structure MetS (P : Program) (w : World) (K : PySem.W.Frag) (mg : Str → Option Value) (base : Heap) (k : Nat) (C : Addr) (m : Str) (sp : Sp) : Prop where
  ex : ∃ g, SCls K C ∧ Meth K C m g ∧ FnR P w K mg base CX0 k g sp
structure PrpS (P : Program) (w : World) (K : PySem.W.Frag) (mg : Str → Option Value) (base : Heap) (k : Nat) (C : Addr) (m : Str) (sp : Sp) : Prop where
  ex : ∃ p g, SCls K C ∧ PySem.W.findIn K (.ref C) m = some (some (.ref p)) ∧ PySem.W.specialIn K (.ref p) "__get__" = some (some (.builtin "property.__get__")) ∧ PySem.W.takesIn K (.ref p) = some true ∧
    (∃ rest, PySem.W.recIn K p "property" = some (.ref g :: rest)) ∧ FnR P w K mg base CX0 k g sp
theorem p_met {k j : Nat} {C : Addr} {sp : Sp} {pl : Sem Bool} (c : MetS X.prog X.w X.K X.mg X.base k C m sp) (hr : Room j X.A) (hk : k ≤ j) (he : PE X o ta) (ha : PA X (e :: es) t)
    (hst : starEach (e :: es) X.env = (false, eval e X.env) :: starEach es X.env := by rfl) (hpl : (backTo pos (starEach es X.env)).any (·.1) = false := by rfl)
    (ht : eval (.Call (.Attribute o m apos) (e :: es) [] pos) X.env = (do
      let ov ← eval o X.env
      standAt apos.atName
      let (f, first) ← holding [ov] (getMethod ov m pl)
      callWith pos f first (backTo pos (starEach (e :: es) X.env)) (backToKw pos (keywordEach [] X.env))) := by rfl) :
    PE X (.Call (.Attribute o m apos) (e :: es) [] pos) (tMethSl C sp E0 ta t) := by
  obtain ⟨g, sc, me, F⟩ := c.ex
  exact pe_methSl (pl := pl) he sc me F (hr.mono hk) pass0 ha hst hpl ht
theorem p_prp {k j : Nat} {C : Addr} {sp : Sp} (c : PrpS X.prog X.w X.K X.mg X.base k C f sp) (hr : Room j X.A) (hk : k + 1 ≤ j) (he : PE X e ta) (hb : attributeBase e f X.env (eval e X.env) = eval e X.env := by rfl) :
    PE X (.Attribute e f pos) (tPropSl C sp E0 ta) := by
  obtain ⟨p, g, sc, h1, h2, h3, h4, F⟩ := c.ex
  exact pe_propSl he sc h1 h2 h3 h4 F (hr.mono hk) (fun _ _ _ _ h => h.elim) hb
end
end Rs

/-! Rs5: a def keeps its promise; runs of the short words. -/
namespace Rs
open PySem PySem.Spec PyProof.Rows L2 SlX StX
variable [Rs.Tabz]
section
variable {P : Program} {w : World} {K : PySem.W.Frag} {mg : Str → Option Value} {base : Heap}
theorem gf_ok {x qual : Str} {st : Stmt} {f : Addr} {fd : FuncData} {N ps : List Str} {k : Nat} {γ : Type} {pre : γ → Prop} {Rs : γ → List VP} {R : γ → VP} (F : Fun K x qual st f fd) (S : FnScope N ps (defScope st)) (len : ∀ g, (Rs g).length = ps.length)
    (body : ∀ (cdv : Value) (A : Around) (outer : List Env) (s : Shared) (H : Hp) (E : XK) (g : γ) (vs : List V) (F0 : Hp), Room k (A.deeper (envOfC qual (defScope st) s.heap.objs.size f cdv)) → pre g → Each (Rs g) vs F0 →
      ∃ t, PSs (cxOf CX0 P w K mg base N qual (defScope st) f cdv A outer s H E).nox (defBody st) t ∧ RunS t (start N vs) F0 [] (fun _ F' _ => R g .non F') (R g)) : FnOk P w K mg base CX0 (k + 1) f fd ps (SpF pre Rs R) := by
  refine F.ok S (fun vs H Q E ⟨g, F0, N0, hp, A, hv, q⟩ => (each_length hv).trans (len g)) fun cdv A outer s H vs Q E hr ⟨g, F0, N0, hp, A0, hv, q⟩ => ?_
  obtain ⟨t, h1, h2⟩ := body cdv A outer s H E g vs F0 hr hp hv
  exact ⟨t, h1, h2 F0 N0 H (Same.refl _) A0 _ (fun _ F' L' H' e' A' n => q .non F' H' e' A'.drop n) fun v F' H' e' A' r => q v F' H' e' A' r⟩
theorem gf_mk {x : Str} {st : Stmt} {f : Addr} {fd : FuncData} {N ps : List Str} {k : Nat} {γ : Type} {pre : γ → Prop} {Rs : γ → List VP} {R : γ → VP} (F : Fun K x x st f fd) (hm : mg x = some (.ref f)) (b : Binds K fd ps []) (S : FnScope N ps (defScope st)) (len : ∀ g, (Rs g).length = ps.length)
    (body : ∀ (cdv : Value) (A : Around) (outer : List Env) (s : Shared) (H : Hp) (E : XK) (g : γ) (vs : List V) (F0 : Hp), Room k (A.deeper (envOfC x (defScope st) s.heap.objs.size f cdv)) → pre g → Each (Rs g) vs F0 →
      ∃ t, PSs (cxOf CX0 P w K mg base N x (defScope st) f cdv A outer s H E).nox (defBody st) t ∧ RunS t (start N vs) F0 [] (fun _ F' _ => R g .non F') (R g)) : Gf P w K mg base (k + 1) x (SpF pre Rs R) :=
  ⟨f, fd, ps, gf_ok F S len body, hm, F.kp, b⟩
end
section
variable {K : PySem.W.Frag} {w : World} {σ : L2.St} {F : Hp} {L : Cells} {R : VP} {Rs : List VP} {t : TA} {te : TE}
/-! len, all, isinstance, list, tuple, sorted -/
theorem r_lnT (h : Run (t σ) F L (Each [Tp K Rs])) : Run (tCB (rLn K) t σ) F L (Dt K (.int Rs.length)) := r_cb h fun vs F1 e1 hv => by
  obtain ⟨v, rfl, a, ws, rfl, hs, hr⟩ := each1 hv
  exact fun F2 N H e A Q q => .inl ⟨.ref a, ws.length, rfl, .inr ⟨ws, sqT_up (e.trans A.ex) hs, rfl⟩, q _ F2 H (Same.refl _) A (by rw [each_length hr]; exact .int _)⟩
theorem r_lnL (h : Run (t σ) F L (Each [Ls K Rs])) : Run (tCB (rLn K) t σ) F L (Dt K (.int Rs.length)) := r_cb h fun vs F1 e1 hv => by
  obtain ⟨v, rfl, a, ws, rfl, hs, hr⟩ := each1 hv
  exact fun F2 N H e A Q q => .inl ⟨.ref a, ws.length, rfl, .inl ⟨ws, sqL_up (e.trans A.ex) hs, rfl⟩, q _ F2 H (Same.refl _) A (by rw [each_length hr]; exact .int _)⟩
theorem r_lnTD {ds : List PyData} (h : Run (t σ) F L (Each [Dt K (.tuple ds)])) : Run (tCB (rLn K) t σ) F L (Dt K (.int ds.length)) := by
  have := r_lnT (K := K) (Rs := ds.map (Dt K)) (h.weak fun vs F1 e hv => by
    obtain ⟨v, rfl, h1⟩ := each1 hv
    exact ⟨tp_dt.mpr h1, True.intro⟩)
  rwa [List.length_map] at this
/-- len of a list of one's own -/
theorem r_lnC {l : Addr} {xs : List V} (hm : (l, HO.lst xs) ∈ L) (h : Run (t σ) F L (Each [Eqv (.ref l)])) : Run (tCB (rLn K) t σ) F L (Dt K (.int xs.length)) := r_cb h fun vs F1 e1 hv => by
  obtain ⟨v, rfl, hv1⟩ := each1 hv
  cases hv1
  exact fun F2 N H e A Q q => .inl ⟨.ref l, xs.length, rfl, .inl ⟨xs, .inl (.inl (A.on _ (List.mem_append_left _ hm))), rfl⟩, q _ F2 H (Same.refl _) A (.int _)⟩
theorem each_bls : ∀ {bs : List Bool} {vs : List V} {F : Hp}, Each (bs.map fun b => Dt K (.bool b)) vs F → vs = bs.map V.bl
  | [], vs, F, h => by rw [each0 h]; rfl
  | b :: bs, vs, F, h => by
    obtain ⟨v, ws, rfl, h1, h2⟩ := each_cons h
    rw [dt_bl h1, each_bls h2]; rfl
theorem r_all {bs : List Bool} (h : Run (t σ) F L (Each [Ls K (bs.map fun b => Dt K (.bool b))])) : Run (tCB (rAll K) t σ) F L (Dt K (.bool (bs.all id))) := r_cb h fun vs F1 e1 hv => by
  obtain ⟨v, rfl, a, ws, rfl, hs, hr⟩ := each1 hv
  rw [each_bls hr] at hs
  exact fun F2 N H e A Q q => ⟨a, bs, rfl, sqL_up (e.trans A.ex) hs, q _ F2 H (Same.refl _) A (.bl _)⟩
/-- isinstance(x, T) by the kind of the value -/
theorem r_isi {T : String} {ty : Value} {b : Bool} (h : Run (t σ) F L (Each [R, Eqv (.ty T)])) (hr : ∀ v F1 F2 H, R v F1 → Same F1 F2 → Same F2 H → TyX K H v ty) (hb : PySem.W.kitOne K ty (.type T) = some b) : Run (tCB (rIsi K) t σ) F L (Dt K (.bool b)) := r_cb h fun vs F1 e1 hv => by
  obtain ⟨v, u, rfl, h1, h2⟩ := each2 hv
  cases h2
  exact fun F2 N H e A Q q => ⟨v, .ty T, ty, .type T, b, rfl, .ty T, hr v F1 F2 H h1 e A.ex, hb, q _ F2 H (Same.refl _) A (.bl _)⟩
theorem r_listT [MonoL Rs] (h : Run (t σ) F L (Each [Tp K Rs])) : Run (tCB (rListOf K) t σ) F L (Ln Rs) := r_cb h fun vs F1 e1 hv => by
  obtain ⟨v, rfl, a, ws, rfl, hs, hr⟩ := each1 hv
  exact fun F2 N H e A Q q => ⟨a, ws, rfl, .inr (sqT_up (e.trans A.ex) hs), fun l hl => q _ (upd F2 l _) _ (same_new (A.free hl)) (A.new hl) ⟨l, ws, rfl, upd_same, MonoL.mono _ _ _ (e.trans (same_new (A.free hl))) hr⟩⟩
theorem r_tupL [MonoL Rs] (h : Run (t σ) F L (Each [Ls K Rs])) : Run (tCB (rTupOf K) t σ) F L (Tp K Rs) := r_cb h fun vs F1 e1 hv => by
  obtain ⟨v, rfl, a, ws, rfl, hs, hr⟩ := each1 hv
  exact fun F2 N H e A Q q => ⟨a, ws, rfl, .inl ⟨sqL_up (e.trans A.ex) hs, fun l hl => q _ (upd F2 l _) _ (same_new (A.free hl)) (A.new hl) ⟨l, ws, rfl, .inl (.inl upd_same), MonoL.mono _ _ _ (e.trans (same_new (A.free hl))) hr⟩⟩⟩
theorem r_tupD {ds : List PyData} (h : Run (t σ) F L (Each [Dt K (.list ds)])) : Run (tCB (rTupOf K) t σ) F L (Dt K (.tuple ds)) :=
  (r_tupL (K := K) (Rs := ds.map (Dt K)) (h.weak fun vs F1 e hv => by
    obtain ⟨v, rfl, h1⟩ := each1 hv
    exact ⟨ls_dt.mpr h1, True.intro⟩)).weak fun v F1 e hv => tp_dt.mp hv
/-- tuple(l), l a list of one's own -/
theorem r_tupC {l : Addr} {xs : List V} [MonoL Rs] (hm : (l, HO.lst xs) ∈ L) (h : Run (t σ) F L (Each [Eqv (.ref l)])) (hr : Each Rs xs F) : Run (tCB (rTupOf K) t σ) F L (Tp K Rs) := r_cb h fun vs F1 e1 hv => by
  obtain ⟨v, rfl, hv1⟩ := each1 hv
  cases hv1
  exact fun F2 N H e A Q q => ⟨l, xs, rfl, .inl ⟨.inl (.inl (A.on _ (List.mem_append_left _ hm))), fun p hp => q _ (upd F2 p _) _ (same_new (A.free hp)) (A.new hp) ⟨p, xs, rfl, .inl (.inl upd_same), MonoL.mono _ _ _ ((e1.trans e).trans (same_new (A.free hp))) hr⟩⟩⟩
theorem r_sortedI {ns : List Int} (h : Run (t σ) F L (Each [R])) (hr : ∀ v F1, R v F1 → ∃ a, v = .ref a ∧ SqL K F1 a (ns.map V.int)) (hl : ns.length < 64) (os : List Int) (h1 : os.Perm ns) (h2 : os.Pairwise (· ≤ ·)) : Run (tCB (rSorted K) t σ) F L (Dt K (.list (os.map .int))) := r_cb h fun vs F1 e1 hv => by
  obtain ⟨v, rfl, hv1⟩ := each1 hv
  obtain ⟨a, rfl, hs⟩ := hr v F1 hv1
  refine fun F2 N H e A Q q => ⟨a, ns, rfl, sqL_up (e.trans A.ex) hs, hl, fun ms p hp hm hn => q _ (upd F2 p _) _ (same_new (A.free hn)) (A.new hn) ?_⟩
  have e : ms = os := List.Perm.eq_of_pairwise (le := (· ≤ ·)) (fun a b _ _ x y => Int.le_antisymm x y) hm h2 (hp.trans h1.symm)
  rw [e]
  exact .lst (.inl (.inl upd_same)) ints_vs
/-! ==, in -/
theorem r_eqD {ta tb : TE} {d e : PyData} (ha : Run (ta σ) F L (Dt K d)) (hb : Run (tb σ) F L (Dt K e)) (h1 : SeqAt.shaped d = true) (h2 : SeqAt.shaped e = true) : Run (tOp (rEqD K) ta tb σ) F L (Dt K (.bool (PyData.eqv d e))) :=
  r_op ha hb fun x y F1 e1 hx hy => fun F2 N H e2 A Q q => ⟨d, e, dp_up (e2.trans A.ex) hx, dp_up (e2.trans A.ex) hy, h1, h2, q _ F2 H (Same.refl _) A (.bl _)⟩
theorem r_neD {ta tb : TE} {d e : PyData} (ha : Run (ta σ) F L (Dt K d)) (hb : Run (tb σ) F L (Dt K e)) (h1 : SeqAt.shaped d = true) (h2 : SeqAt.shaped e = true) : Run (tOp (rNeD K) ta tb σ) F L (Dt K (.bool (!PyData.eqv d e))) :=
  r_op ha hb fun x y F1 e1 hx hy => fun F2 N H e2 A Q q => ⟨d, e, dp_up (e2.trans A.ex) hx, dp_up (e2.trans A.ex) hy, h1, h2, q _ F2 H (Same.refl _) A (.bl _)⟩
theorem inV_ints {i : Int} : ∀ {ns : List Int}, inV (.int i) (ns.map V.int) = decide (i ∈ ns)
  | [] => rfl
  | n :: ns => by
    have ih := inV_ints (i := i) (ns := ns)
    unfold inV at ih ⊢
    rw [List.map_cons, List.any_cons, ih]
    have e : eqV (.int n) (.int i) = decide (n = i) := by rfl
    rw [e]
    by_cases h : n = i
    · subst h; simp
    · have h' : ¬ i = n := fun z => h z.symm
      simp [h, h']
theorem flat_ints : ∀ {ns : List Int}, (ns.map V.int).all flatV = true
  | [] => rfl
  | n :: ns => by rw [List.map_cons, List.all_cons, flat_ints (ns := ns)]; rfl
theorem r_in {ta tb : TE} {i : Int} {ns : List Int} (ha : Run (ta σ) F L (Dt K (.int i))) (hb : Run (tb σ) F L R) (hr : ∀ v F1, R v F1 → seqI ns v F1 K) : Run (tOp (rIn K false) ta tb σ) F L (Dt K (.bool (decide (i ∈ ns)))) :=
  r_op ha hb fun x y F1 e1 hx hy => by
    cases hx
    obtain ⟨a, rfl, hs⟩ := hr y F1 hy
    refine fun F2 N H e2 A Q q => ⟨a, _, rfl, hs.imp (sqL_up (e2.trans A.ex)) (sqT_up (e2.trans A.ex)), rfl, flat_ints, q _ F2 H (Same.refl _) A ?_⟩
    rw [if_neg Bool.false_ne_true, inV_ints]
    exact .bl _
theorem r_notIn {ta tb : TE} {i : Int} {ns : List Int} (ha : Run (ta σ) F L (Dt K (.int i))) (hb : Run (tb σ) F L R) (hr : ∀ v F1, R v F1 → seqI ns v F1 K) : Run (tOp (rIn K true) ta tb σ) F L (Dt K (.bool (!decide (i ∈ ns)))) :=
  r_op ha hb fun x y F1 e1 hx hy => by
    cases hx
    obtain ⟨a, rfl, hs⟩ := hr y F1 hy
    refine fun F2 N H e2 A Q q => ⟨a, _, rfl, hs.imp (sqL_up (e2.trans A.ex)) (sqT_up (e2.trans A.ex)), rfl, flat_ints, q _ F2 H (Same.refl _) A ?_⟩
    rw [if_pos rfl, inV_ints]
    exact .bl _
/-! numbers equal -/
theorem r_eqI {ta tb : TE} {i j : Int} (ha : Run (ta σ) F L (Dt K (.int i))) (hb : Run (tb σ) F L (Dt K (.int j))) : Run (tOp rEq ta tb σ) F L (Dt K (.bool (decide (i = j)))) :=
  r_op ha hb fun x y F1 e1 hx hy => by
    cases hx; cases hy
    refine fun F2 N H e2 A Q q => ⟨rfl, q _ F2 H (Same.refl _) A ?_⟩
    have e : decide (V.int i = V.int j) = decide (i = j) := by
      by_cases h : i = j
      · subst h; simp
      · simp [h]
    rw [e]; exact .bl _
theorem r_neI {ta tb : TE} {i j : Int} (ha : Run (ta σ) F L (Dt K (.int i))) (hb : Run (tb σ) F L (Dt K (.int j))) : Run (tOp rNe ta tb σ) F L (Dt K (.bool (!decide (i = j)))) :=
  r_op ha hb fun x y F1 e1 hx hy => by
    cases hx; cases hy
    refine fun F2 N H e2 A Q q => ⟨rfl, q _ F2 H (Same.refl _) A ?_⟩
    have e : decide (V.int i = V.int j) = decide (i = j) := by
      by_cases h : i = j
      · subst h; simp
      · simp [h]
    rw [e]; exact .bl _
/-! items -/
theorem r_ixT {ta tb : TE} {ds : List PyData} {n : Nat} {d : PyData} (ha : Run (ta σ) F L (Dt K (.tuple ds))) (hb : Run (tb σ) F L (Dt K (.int (n : Nat)))) (hd : ds[n]? = some d) : Run (tOp (rIxT K) ta tb σ) F L (Dt K d) :=
  r_op ha hb fun x y F1 e1 hx hy => by
    obtain ⟨a, vs, rfl, hs, hr⟩ := tp_dt.mpr hx
    cases hy
    have hn : n < vs.length := by rw [each_length hr, List.length_map]; exact (List.getElem?_eq_some_iff.mp hd).1
    obtain ⟨R', g1, g2⟩ := each_at hr (List.getElem?_eq_getElem hn)
    rw [List.getElem?_map, hd] at g1
    cases g1
    exact fun F2 N H e2 A Q q => ⟨a, vs, (n : Int), _, rfl, rfl, sqT_up (e2.trans A.ex) hs, atI_nat (List.getElem?_eq_getElem hn), q _ F2 H (Same.refl _) A (dp_up e2 g2)⟩
theorem r_ixL {ta tb : TE} {ds : List PyData} {n : Nat} {d : PyData} (ha : Run (ta σ) F L (Dt K (.list ds))) (hb : Run (tb σ) F L (Dt K (.int (n : Nat)))) (hd : ds[n]? = some d) : Run (tOp (rIxL K) ta tb σ) F L (Dt K d) :=
  r_op ha hb fun x y F1 e1 hx hy => by
    obtain ⟨a, vs, rfl, hs, hr⟩ := ls_dt.mpr hx
    cases hy
    have hn : n < vs.length := by rw [each_length hr, List.length_map]; exact (List.getElem?_eq_some_iff.mp hd).1
    obtain ⟨R', g1, g2⟩ := each_at hr (List.getElem?_eq_getElem hn)
    rw [List.getElem?_map, hd] at g1
    cases g1
    exact fun F2 N H e2 A Q q => ⟨a, vs, (n : Int), _, rfl, rfl, sqL_up (e2.trans A.ex) hs, atI_nat (List.getElem?_eq_getElem hn), q _ F2 H (Same.refl _) A (dp_up e2 g2)⟩
/-- arguments that a star hands on -/
theorem r_star {ta : TE} {ds : List PyData} (ha : Run (ta σ) F L (Dt K (.tuple ds))) (h : Run (t σ) F L (Each Rs)) : Run (tStar K ta t σ) F L (Each (ds.map (Dt K) ++ Rs)) := fun F1 N H e A Q q =>
  ha F1 N H e A _ fun x F2 H2 e2 A2 hx => by
    obtain ⟨a, vs, rfl, hs, hr⟩ := tp_dt.mpr hx
    exact ⟨a, vs, rfl, .inl (sqT_up A2.ex hs), h F2 N H2 (e.trans e2) A2 _ fun ys F3 H3 e3 A3 hy => q _ F3 H3 (e2.trans e3) A3 (each_app (Mono.go hr e3) hy)⟩
/-! comprehensions in short -/
section
variable {ι : Type} {Ri Re : ι → VP} {f : ι → Bool} {xs : List ι} {tt : TT} {wi : TI} {vs : List Nat} {j j1 j2 : Nat}
theorem r_lcN [∀ x, Mono (Re x)] (h : Run (wi σ) F L (fun J F1 => Seqs J (xs.map Ri) F1)) (hz : xs.length ≤ 40000) (hw : ∀ v, wipe ((wipe σ vs).set j (some v)) vs = wipe σ vs)
    (he : ∀ x v F1, Same F F1 → x ∈ xs → Ri x v F1 → Run (te ((wipe σ vs).set j (some v))) F1 L (Re x)) : Run (tLc wi (gName j) tYes te vs σ) F L (Ln (xs.map Re)) := by
  have q := r_lcG (f := fun _ => true) (g := gName j) (tt := tYes) (te := te) (vs := vs) h hz fun x v F1 e hx hv => rg_name (σ := wipe σ vs) fun F2 e2 => ⟨hw v, t_yes, fun _ => (he x v F1 e hx hv).up e2⟩
  rwa [show xs.filter (fun _ => true) = xs from List.filter_eq_self.mpr fun _ _ => rfl] at q
theorem r_lcF [∀ x, Mono (Re x)] (h : Run (wi σ) F L (fun J F1 => Seqs J (xs.map Ri) F1)) (hz : xs.length ≤ 40000) (hw : ∀ v, wipe ((wipe σ vs).set j (some v)) vs = wipe σ vs)
    (ht : ∀ x v F1, Same F F1 → x ∈ xs → Ri x v F1 → Run (tt ((wipe σ vs).set j (some v))) F1 L (Eqv (f x)))
    (he : ∀ x v F1, Same F F1 → x ∈ xs → Ri x v F1 → f x = true → Run (te ((wipe σ vs).set j (some v))) F1 L (Re x)) : Run (tLc wi (gName j) tt te vs σ) F L (Ln ((xs.filter f).map Re)) :=
  r_lcG (f := f) (g := gName j) (tt := tt) (te := te) (vs := vs) h hz fun x v F1 e hx hv => rg_name (σ := wipe σ vs) fun F2 e2 => ⟨hw v, (ht x v F1 e hx hv).up e2, fun hf => (he x v F1 e hx hv hf).up e2⟩
theorem r_lcP {R1 R2 : ι → VP} [∀ x, Mono (Re x)] [∀ x, Mono (R1 x)] [∀ x, Mono (R2 x)] (h : Run (wi σ) F L (fun J F1 => Seqs J (xs.map fun x => Tp K [R1 x, R2 x]) F1)) (hz : xs.length ≤ 40000) (hw : ∀ v u, wipe (((wipe σ vs).set j1 (some v)).set j2 (some u)) vs = wipe σ vs)
    (ht : ∀ x v u F1, Same F F1 → x ∈ xs → R1 x v F1 → R2 x u F1 → Run (tt (((wipe σ vs).set j1 (some v)).set j2 (some u))) F1 L (Eqv (f x)))
    (he : ∀ x v u F1, Same F F1 → x ∈ xs → R1 x v F1 → R2 x u F1 → f x = true → Run (te (((wipe σ vs).set j1 (some v)).set j2 (some u))) F1 L (Re x)) : Run (tLc wi (gTup K 2 (gCons (gName j1) (gCons (gName j2) gNil))) tt te vs σ) F L (Ln ((xs.filter f).map Re)) :=
  r_lcG (f := f) (tt := tt) (te := te) (vs := vs) h hz fun x v F1 e hx hv => rg_pair (σ := wipe σ vs) (R1 := R1 x) (R2 := R2 x) hv fun v1 v2 F2 e2 h1 h2 => ⟨hw v1 v2, ht x v1 v2 F2 (e.trans e2) hx h1 h2, fun hf => he x v1 v2 F2 (e.trans e2) hx h1 h2 hf⟩
theorem pairs_map {R0 : ι → VP} : Pairs K (xs.map R0) = xs.zipIdx.map fun p => Tp K [Dt K (.int ((p.2 : Nat) : Int)), R0 p.1] := by
  unfold Pairs
  rw [List.mapIdx_eq_zipIdx_map, List.zipIdx_map, List.map_map]
  rfl
end
end
end Rs

/-! Rs6: kinds of data, equality of rows. -/
namespace Rs
open PySem PySem.Spec PyProof.Rows L2 SlX StX
variable [Rs.Tabz]
def tyName : PyData → String
  | .none => "NoneType" | .bool _ => "bool" | .int _ => "int" | .str _ => "str" | .list _ => "list" | .tuple _ => "tuple" | .dict _ => "dict"
theorem ty_dt {K : PySem.W.Frag} {F : Hp} {d : PyData} {v : V} (h : Dp K F v d) : TyX K F v (.type (tyName d)) := by
  cases h with
  | non => exact .base .non
  | bl b => exact .base (.bl b)
  | int i => exact .base (.int i)
  | str x => exact .base (.str x)
  | lst s t =>
    rcases s with (s | ⟨o, s⟩) | ⟨o, its, n, hk, hc, hd, hs, hz, r⟩
    · exact .base (.lst s)
    · exact .base (.frz s)
    · exact .kList hk hc
  | tup s t =>
    rcases s with (s | ⟨o, s⟩) | ⟨o, its, n, hk, hc, hs, hz, r⟩
    · exact .base (.tup s)
    · exact .fTuple s
    · exact .kTuple hk hc
section
variable {K : PySem.W.Frag} {σ : L2.St} {F : Hp} {L : Cells} {t : TA}
theorem r_isiD {T : String} {d : PyData} {b : Bool} (h : Run (t σ) F L (Each [Dt K d, Eqv (.ty T)])) (hb : kitB (tyName d) T = some b) : Run (tCB (rIsi K) t σ) F L (Dt K (.bool b)) :=
  r_isi h (fun v F1 F2 H hv e1 e2 => ty_dt (dp_up e2 (dp_up e1 hv))) (kit_ty hb)
end
/-! ### rows of ints -/
theorem eqvAll_ints : ∀ {ns ms : List Int}, PyData.eqvAll (ns.map .int) (ms.map .int) = decide (ns = ms)
  | [], [] => rfl
  | [], _ :: _ => rfl
  | _ :: _, [] => rfl
  | n :: ns, m :: ms => by
    have ih := eqvAll_ints (ns := ns) (ms := ms)
    rw [List.map_cons, List.map_cons, PyData.eqvAll, ih, PyData.eqv]
    by_cases h : n = m
    · subst h; simp
    · simp [h]
theorem eqv_listI {ns ms : List Int} : PyData.eqv (.list (ns.map .int)) (.list (ms.map .int)) = decide (ns = ms) := by rw [PyData.eqv]; exact eqvAll_ints
theorem eqv_tupI {ns ms : List Int} : PyData.eqv (.tuple (ns.map .int)) (.tuple (ms.map .int)) = decide (ns = ms) := by rw [PyData.eqv]; exact eqvAll_ints
theorem eqvAll_of {α : Type} {f : α → PyData} [DecidableEq α] (h : ∀ a b, PyData.eqv (f a) (f b) = decide (a = b)) : ∀ {xs ys : List α}, PyData.eqvAll (xs.map f) (ys.map f) = decide (xs = ys)
  | [], [] => by simp [PyData.eqvAll]
  | [], _ :: _ => by simp [PyData.eqvAll]
  | _ :: _, [] => by simp [PyData.eqvAll]
  | n :: ns, m :: ms => by
    have ih := eqvAll_of h (xs := ns) (ys := ms)
    rw [List.map_cons, List.map_cons, PyData.eqvAll, ih, h]
    by_cases h : n = m
    · subst h; simp
    · simp [h]
theorem lay_ints : ∀ {ns : List Int}, PyData.canLayAll0 (ns.map .int) = true
  | [] => rfl
  | n :: ns => by rw [List.map_cons, PyData.canLayAll0, lay_ints]; rfl
theorem dep_ints : ∀ {ns : List Int}, PyData.depthAll (ns.map .int) = 0
  | [] => rfl
  | n :: ns => by rw [List.map_cons, PyData.depthAll, dep_ints]; rfl
theorem lay_all {α : Type} {f : α → PyData} (h : ∀ a, (f a).canLay0 = true) : ∀ {xs : List α}, PyData.canLayAll0 (xs.map f) = true
  | [] => rfl
  | x :: xs => by rw [List.map_cons, PyData.canLayAll0, h, lay_all h]; rfl
theorem dep_all {α : Type} {f : α → PyData} {k : Nat} (h : ∀ a, (f a).depth ≤ k) : ∀ {xs : List α}, PyData.depthAll (xs.map f) ≤ k
  | [] => Nat.zero_le _
  | x :: xs => by
    rw [List.map_cons, PyData.depthAll]
    exact Nat.max_le.mpr ⟨h x, dep_all h⟩
theorem shaped_of {d : PyData} (h1 : d.canLay0 = true) (h2 : d.depth ≤ 64) : SeqAt.shaped d = true := by
  unfold SeqAt.shaped; rw [h1, Bool.true_and]; exact decide_eq_true h2
theorem sh_listI {ns : List Int} : SeqAt.shaped (.list (ns.map .int)) = true := shaped_of (by rw [PyData.canLay0]; exact lay_ints) (by rw [PyData.depth, dep_ints]; decide)
end Rs

/-! Rs7: runs that change cells; dicts of one's own. -/
namespace Rs
open PySem PySem.Spec PyProof.Rows L2 SlX StX
variable [Rs.Tabz]
/-- k runs, the cells may be others behind it -/
def RunX {α : Type} (k : Hp → (α → Hp → Prop) → Prop) (F : Hp) (L : Cells) (P : α → Hp → Cells → Prop) : Prop :=
  ∀ F1 N H, Same F F1 → At F1 (L ++ N) H → ∀ Q : α → Hp → Prop, (∀ v F2 L2 H2, Same F1 F2 → At F2 (L2 ++ N) H2 → P v F2 L2 → Q v H2) → k H Q
section
variable {α β : Type} {k : Hp → (α → Hp → Prop) → Prop} {F F1 : Hp} {L : Cells} {R : α → Hp → Prop} {P P' : α → Hp → Cells → Prop}
theorem RunX.up (h : RunX k F L P) (e : Same F F1) : RunX k F1 L P := fun F2 N H e2 A Q q => h F2 N H (e.trans e2) A Q q
theorem Run.x (h : Run k F L R) (hp : ∀ v F2, Same F F2 → R v F2 → P v F2 L) : RunX k F L P := fun F1 N H e A Q q => h F1 N H e A Q fun v F2 H2 e2 A2 r => q v F2 L H2 e2 A2 (hp v F2 (e.trans e2) r)
theorem x_ret {v : α} (h : ∀ F1, Same F F1 → P v F1 L) : RunX (fun H Q => Q v H) F L P := fun F1 N H e A Q q => q v F1 L H (Same.refl _) A (h F1 e)
theorem RunX.perm {L' : Cells} (h : RunX k F L' P) (p : L.Perm L') : RunX k F L P := fun F1 N H e A Q q => h F1 N H e (A.perm (List.Perm.append_right N p)) Q q
theorem At.mem {H : Hp} {N : Cells} {p : Addr × HO} (A : At F (L ++ N) H) (h : p ∈ L) : H p.1 = some p.2 := A.on p (List.mem_append_left _ h)
end
section
variable {K : PySem.W.Frag} {σ : L2.St} {F : Hp} {L : Cells} {R : VP} {Rs : List VP} {t tr ta : TA} {te td ty tv : TE} {Px : V → Hp → Cells → Prop} {Pa : List V → Hp → Cells → Prop} {Nx : L2.St → Hp → Cells → Prop} {Rt : VP} {u : TS} {i j : Nat}
theorem x_cons {S : List V → Hp → Cells → Prop} (h : RunX (te σ) F L Px) (hr : ∀ v F1 L1, Same F F1 → Px v F1 L1 → RunX (tr σ) F1 L1 (fun vs F2 L2 => S (v :: vs) F2 L2)) : RunX (tCons te tr σ) F L S := fun F1 N H e A Q q =>
  h F1 N H e A _ fun v F2 L2 H2 e2 A2 p => hr v F2 L2 (e.trans e2) p F2 N H2 (Same.refl _) A2 _ fun vs F3 L3 H3 e3 A3 s => q (v :: vs) F3 L3 H3 (e2.trans e3) A3 s
/-- [..], a list of one's own -/
theorem x_lst [MonoL Rs] (h : Run (t σ) F L (Each Rs)) (hl : Rs.length ≤ 100000) : RunX (tLst t σ) F L (fun v F1 L1 => ∃ p vs, v = .ref p ∧ Each Rs vs F1 ∧ L1 = (p, .lst vs) :: L) := fun F1 N H e A Q q =>
  h F1 N H e A _ fun vs F2 H2 e2 A2 hv => ⟨len_ok (by rw [each_length hv]; exact hl), fun p hp => q _ F2 ((p, .lst vs) :: L) _ e2 (A2.cell hp) ⟨p, vs, rfl, hv, rfl⟩⟩
/-- {k: v}, a dict of one's own -/
theorem x_disp1 {n : Int} {v : V} (hk : Run (ty σ) F L (Dt K (.int n))) (hv : Run (tv σ) F L (Eqv v)) : RunX (tDisp [(ty, tv)] σ) F L (fun x F1 L1 => ∃ p, x = .ref p ∧ L1 = (p, .dK [(Sum.inl n, v)]) :: L) := fun F1 N H e A Q q p hp => by
  have A1 : At F1 (L ++ ((p, .dK []) :: N)) (upd H p (.dK [])) := (A.cell (o := .dK []) hp).perm List.perm_middle.symm
  refine hk F1 _ _ e A1 _ fun x F2 H2 e2 A2 hx => hv F2 _ H2 (e.trans e2) A2 _ fun y F3 H3 e3 A3 hy => ?_
  cases hx
  cases hy
  have A4 : At F3 ((p, .dK []) :: (L ++ N)) H3 := A3.perm List.perm_middle
  refine ⟨A4.on1, [(Sum.inl n, v)], rfl, by simp, ?_⟩
  exact q _ F3 ((p, .dK [(Sum.inl n, v)]) :: L) _ (e2.trans e3) A4.put ⟨p, rfl, rfl⟩
theorem q_setX (h : RunX (te σ) F L Px) (k : ∀ v F1 L1, Same F F1 → Px v F1 L1 → RunS u (σ.set i (some v)) F1 L1 Nx Rt) : RunS (tSeq (tAsg te (gName i)) u) σ F L Nx Rt := fun F1 N H e A D q r =>
  h F1 N H e A _ fun v F2 L2 H2 e2 A2 hv => k v F2 L2 (e.trans e2) hv F2 N H2 (Same.refl _) A2 D (fun σ3 F3 L3 H3 e3 A3 n => q σ3 F3 L3 H3 (e2.trans e3) A3 n) fun w F3 H3 e3 A3 n => r w F3 H3 (e2.trans e3) A3 n
theorem q_par {S : V → V → Hp → Cells → Prop} (h : RunX (t σ) F L (fun vs F1 L1 => ∃ v w, vs = [v, w] ∧ S v w F1 L1)) (k : ∀ v w F1 L1, Same F F1 → S v w F1 L1 → RunS u ((σ.set i (some v)).set j (some w)) F1 L1 Nx Rt) : RunS (tSeq (tPar i j t) u) σ F L Nx Rt := fun F1 N H e A D q r =>
  h F1 N H e A _ fun vs F2 L2 H2 e2 A2 ⟨v, w, hvs, hs⟩ => ⟨v, w, hvs, k v w F2 L2 (e.trans e2) hs F2 N H2 (Same.refl _) A2 D (fun σ3 F3 L3 H3 e3 A3 n => q σ3 F3 L3 H3 (e2.trans e3) A3 n) fun w F3 H3 e3 A3 n => r w F3 H3 (e2.trans e3) A3 n⟩
/-- l.pop() -/
theorem x_pop {l : Addr} {xs : List V} {y : V} (hl : Run (te σ) F ((l, .lst (xs ++ [y])) :: L) (Eqv (.ref l))) : RunX (tBM0 K "list" rPop te σ) F ((l, .lst (xs ++ [y])) :: L) (fun v F1 L1 => v = y ∧ L1 = (l, .lst xs) :: L) := fun F1 N H e A Q q =>
  hl F1 N H e A _ fun v F2 H2 e2 A2 hv => by
    cases hv
    refine ⟨.inl ⟨rfl, _, .inl (.inl (At.on1 A2))⟩, l, _, y, rfl, rfl, At.on1 A2, by simp, ?_⟩
    have q2 := q y F2 ((l, .lst xs) :: L) _ e2 (At.put (u := .lst xs) A2) ⟨rfl, rfl⟩
    rwa [List.dropLast_concat]
theorem r_dnotin {d : Addr} {kvs : List (Key × V)} {n : Int} (hm : (d, HO.dK kvs) ∈ L) (hk : Run (ty σ) F L (Dt K (.int n))) (hd : Run (td σ) F L (Eqv (.ref d))) : Run (tDNotIn ty td σ) F L (Dt K (.bool (!(valV kvs (Sum.inl n)).isSome))) := fun F1 N H e A Q q =>
  hk F1 N H e A _ fun x F2 H2 e2 A2 hx => hd F2 N H2 (e.trans e2) A2 _ fun y F3 H3 e3 A3 hy => by
    cases hx
    cases hy
    exact ⟨d, _, rfl, DGet.k (k := Sum.inl n) (At.mem A3 hm), q _ F3 H3 (e2.trans e3) A3 (.bl _)⟩
/-- d[k] = v -/
theorem q_dput {d : Addr} {kvs : List (Key × V)} {n : Int} {v : V} (hv : Run (tv σ) F ((d, .dK kvs) :: L) (Eqv v)) (hd : Run (td σ) F ((d, .dK kvs) :: L) (Eqv (.ref d))) (hk : Run (ty σ) F ((d, .dK kvs) :: L) (Dt K (.int n))) (hl : kvs.length < 100000)
    (k : ∀ F1, Same F F1 → RunS u σ F1 ((d, .dK (putK kvs (Sum.inl n) v)) :: L) Nx Rt) : RunS (tSeq (sDPut td ty tv) u) σ F ((d, .dK kvs) :: L) Nx Rt := fun F1 N H e A D q r =>
  hv F1 N H e A _ fun x F2 H2 e2 A2 hx => hd F2 N H2 (e.trans e2) A2 _ fun y F3 H3 e3 A3 hy => hk F3 N H3 ((e.trans e2).trans e3) A3 _ fun z F4 H4 e4 A4 hz => by
    cases hx
    cases hy
    cases hz
    refine ⟨d, _, rfl, DPut.k (k := Sum.inl n) (At.on1 A4) (len_lt hl), ?_⟩
    exact k F4 (((e.trans e2).trans e3).trans e4) F4 N _ (Same.refl _) (At.put A4) D (fun σ5 F5 L5 H5 e5 A5 n => q σ5 F5 L5 H5 (((e2.trans e3).trans e4).trans e5) A5 n) fun w F5 H5 e5 A5 n => r w F5 H5 (((e2.trans e3).trans e4).trans e5) A5 n
/-- sorted(d), d by ints -/
theorem r_sortedDI {d : Addr} {kvs : List (Key × V)} {ks : List Int} (hm : (d, HO.dK kvs) ∈ L) (h : Run (t σ) F L (Each [Eqv (.ref d)])) (hk : kvs.map (·.1) = ks.map Sum.inl) (hl : ks.length < 64) (os : List Int) (h1 : os.Perm ks) (h2 : os.Pairwise (· ≤ ·)) : Run (tCB rSortedDI t σ) F L (Dt K (.list (os.map .int))) := r_cb h fun vs F1 e1 hv => by
  obtain ⟨v, rfl, hv1⟩ := each1 hv
  cases hv1
  refine fun F2 N H e A Q q => ⟨d, kvs, ks, rfl, .inl (At.mem A hm), hk, hl, fun ms p hp hmm hn => q _ (upd F2 p _) _ (same_new (A.free hn)) (A.new hn) ?_⟩
  have e : ms = os := List.Perm.eq_of_pairwise (le := (· ≤ ·)) (fun a b _ _ x y => Int.le_antisymm x y) hmm h2 (hp.trans h1.symm)
  rw [e]
  exact .lst (.inl (.inl upd_same)) ints_vs
end
end Rs

/-! Ma: rows of houses, ways. -/
namespace Ma
open PySem
abbrev Rows := List (List Nat)
abbrev nI (n : Nat) : PyData := .int (n : Int)
abbrev dRow (r : List Nat) : PyData := .tuple (r.map nI)
abbrev dRows (rs : Rows) : PyData := .tuple (rs.map dRow)
abbrev Asc (r : List Nat) : Prop := r.Pairwise (· < ·)
/-- the rows of a web -/
structure Ok (rs : Rows) : Prop where
  pos : 1 ≤ rs.length
  le : rs.length ≤ 5
  asc : ∀ r ∈ rs, Asc r
  lt : ∀ r ∈ rs, ∀ x ∈ r, x < rs.length
  ne : ∀ (i : Nat) r, rs[i]? = some r → i ∉ r
abbrev row (rs : Rows) (y : Nat) : List Nat := rs.getD y []
theorem row_get {rs : Rows} {y : Nat} {r : List Nat} (h : rs[y]? = some r) : row rs y = r := by
  rw [row, List.getD_eq_getElem?_getD, h]; rfl
theorem get_row {rs : Rows} {y : Nat} (h : y < rs.length) : rs[y]? = some (row rs y) := by
  rw [row, List.getD_eq_getElem?_getD, List.getElem?_eq_getElem h]; rfl
theorem Ok.row_asc {rs : Rows} (o : Ok rs) (y : Nat) : Asc (row rs y) := by
  by_cases h : y < rs.length
  · exact o.asc _ (List.mem_of_getElem? (get_row h))
  · rw [row, List.getD_eq_getElem?_getD, List.getElem?_eq_none (by omega)]; exact .nil
theorem Ok.row_lt {rs : Rows} (o : Ok rs) {y x : Nat} (h : x ∈ row rs y) : x < rs.length := by
  by_cases hy : y < rs.length
  · exact o.lt _ (List.mem_of_getElem? (get_row hy)) x h
  · rw [row, List.getD_eq_getElem?_getD, List.getElem?_eq_none (by omega)] at h; cases h
theorem Ok.row_ne {rs : Rows} (o : Ok rs) {y : Nat} : y ∉ row rs y := by
  by_cases hy : y < rs.length
  · exact o.ne y _ (get_row hy)
  · rw [row, List.getD_eq_getElem?_getD, List.getElem?_eq_none (by omega)]; simp
/-- ways lead from h to y -/
inductive Reach (rs : Rows) (h : Nat) : Nat → Prop
  | refl : Reach rs h h
  | step {x y : Nat} : Reach rs h x → y < rs.length → x ∈ row rs y → Reach rs h y
open Classical in
noncomputable def reachL (rs : Rows) (h : Nat) : List Nat := (List.range rs.length).filter fun y => decide (Reach rs h y)
open Classical in
theorem mem_reachL {rs : Rows} {h y : Nat} : y ∈ reachL rs h ↔ y < rs.length ∧ Reach rs h y := by
  unfold reachL
  rw [List.mem_filter, List.mem_range, decide_eq_true_eq]
theorem asc_range (n : Nat) : Asc (List.range n) := List.pairwise_lt_range
theorem asc_reachL {rs : Rows} {h : Nat} : Asc (reachL rs h) := (asc_range _).filter _
theorem asc_nodup {l : List Nat} (h : Asc l) : l.Nodup := h.imp fun x => Nat.ne_of_lt x
theorem asc_one {l m : List Nat} (h1 : Asc l) (h2 : Asc m) (h : ∀ k, k ∈ l ↔ k ∈ m) : l = m :=
  List.Perm.eq_of_pairwise (le := (· < ·)) (fun a b _ _ x y => absurd x (Nat.lt_asymm y)) h1 h2 ((List.perm_ext_iff_of_nodup (asc_nodup h1) (asc_nodup h2)).mpr h)
theorem len_reachL {rs : Rows} {h : Nat} : (reachL rs h).length ≤ rs.length := by
  unfold reachL
  exact Nat.le_trans (List.length_filter_le _ _) (by rw [List.length_range]; exact Nat.le_refl _)
/-! ### the search -/
open Classical in
/-- who hears here among the first i houses, and is not found -/
noncomputable def newOf (rs : Rows) (here : Nat) (f : List Nat) (i : Nat) : List Nat := (List.range i).filter fun y => decide (here ∈ row rs y ∧ y ∉ f)
theorem mem_new {rs : Rows} {here : Nat} {f : List Nat} {i y : Nat} : y ∈ newOf rs here f i ↔ y < i ∧ here ∈ row rs y ∧ y ∉ f := by
  unfold newOf
  rw [List.mem_filter, List.mem_range, decide_eq_true_eq]
theorem new_yes {rs : Rows} {here : Nat} {f : List Nat} {i : Nat} (h : here ∈ row rs i ∧ i ∉ f) : newOf rs here f (i + 1) = newOf rs here f i ++ [i] := by
  unfold newOf
  rw [List.range_succ, List.filter_append]
  congr 1
  rw [List.filter_cons, decide_eq_true h]; rfl
theorem new_no {rs : Rows} {here : Nat} {f : List Nat} {i : Nat} (h : ¬ (here ∈ row rs i ∧ i ∉ f)) : newOf rs here f (i + 1) = newOf rs here f i := by
  unfold newOf
  rw [List.range_succ, List.filter_append, List.filter_cons, decide_eq_false h]
  simp
structure Dfs (rs : Rows) (h : Nat) (f wt : List Nat) : Prop where
  nd : f.Nodup
  mem : h ∈ f
  lt : ∀ x ∈ f, x < rs.length
  re : ∀ x ∈ f, Reach rs h x
  sub : ∀ x ∈ wt, x ∈ f
  cl : ∀ x ∈ f, x ∉ wt → ∀ y, y < rs.length → x ∈ row rs y → y ∈ f
theorem Dfs.start {rs : Rows} {h : Nat} (hh : h < rs.length) : Dfs rs h [h] [h] :=
  ⟨by simp, by simp, by simp [hh], fun x hx => by rw [List.mem_singleton.mp hx]; exact .refl, fun x hx => hx, fun x hx hn => absurd hx hn⟩
theorem Dfs.next {rs : Rows} {h here : Nat} {f wt : List Nat} (D : Dfs rs h f (wt ++ [here])) : Dfs rs h (f ++ newOf rs here f rs.length) (wt ++ newOf rs here f rs.length) := by
  have hf : here ∈ f := D.sub _ (by simp)
  refine ⟨?_, List.mem_append_left _ D.mem, fun x hx => ?_, fun x hx => ?_, fun x hx => ?_, fun x hx hn y hy hxy => ?_⟩
  · refine List.nodup_append.mpr ⟨D.nd, ?_, fun a ha b hb e => ?_⟩
    · unfold newOf; exact List.nodup_range.filter _
    · subst e; exact (mem_new.mp hb).2.2 ha
  · rcases List.mem_append.mp hx with z | z
    · exact D.lt x z
    · exact (mem_new.mp z).1
  · rcases List.mem_append.mp hx with z | z
    · exact D.re x z
    · have q := mem_new.mp z
      exact .step (D.re _ hf) q.1 q.2.1
  · rcases List.mem_append.mp hx with z | z
    · exact List.mem_append_left _ (D.sub x (List.mem_append_left _ z))
    · exact List.mem_append_right _ z
  · rw [List.mem_append, not_or] at hn
    rcases List.mem_append.mp hx with z | z
    · by_cases e : x = here
      · subst e
        by_cases hyf : y ∈ f
        · exact List.mem_append_left _ hyf
        · exact List.mem_append_right _ (mem_new.mpr ⟨hy, hxy, hyf⟩)
      · refine List.mem_append_left _ (D.cl x z (fun w => ?_) y hy hxy)
        rcases List.mem_append.mp w with w | w
        · exact hn.1 w
        · exact e (List.mem_singleton.mp w)
    · exact absurd z hn.2
theorem nodup_len : ∀ (n : Nat) (f : List Nat), f.Nodup → (∀ x ∈ f, x < n) → f.length ≤ n
  | 0, [], _, _ => Nat.le_refl _
  | 0, x :: _, _, h => absurd (h x List.mem_cons_self) (Nat.not_lt_zero _)
  | n + 1, f, h1, h2 => by
    have ih := nodup_len n (f.erase n) (h1.erase n) fun x hx => by
      have q := (List.Nodup.mem_erase_iff h1).mp hx
      have := h2 x q.2
      omega
    rw [List.length_erase] at ih
    split at ih <;> omega
theorem Dfs.len {rs : Rows} {h : Nat} {f wt : List Nat} (D : Dfs rs h f wt) : f.length ≤ rs.length := nodup_len _ _ D.nd D.lt
theorem Dfs.done {rs : Rows} {h : Nat} {f : List Nat} (D : Dfs rs h f []) {x : Nat} : x ∈ f ↔ x ∈ reachL rs h := by
  rw [mem_reachL]
  constructor
  · exact fun hx => ⟨D.lt x hx, D.re x hx⟩
  · rintro ⟨h0, r⟩
    clear h0
    induction r with
    | refl => exact D.mem
    | step r hy hxy ih => exact D.cl _ ih (by simp) _ hy hxy
theorem Dfs.perm {rs : Rows} {h : Nat} {f : List Nat} (D : Dfs rs h f []) : (reachL rs h).Perm f :=
  (List.perm_ext_iff_of_nodup (asc_nodup asc_reachL) D.nd).mpr fun x => D.done.symm
end Ma

/-! Rn: runs over rows of houses. -/
namespace Rs
open PySem PySem.Spec PyProof.Rows L2 SlX StX Ma
variable [Rs.Tabz]
abbrev cI (r : List Nat) : List Int := r.map fun (n : Nat) => (n : Int)
theorem row_int {r : List Nat} : r.map nI = (cI r).map PyData.int := by rw [List.map_map]; rfl
theorem dRow_int {r : List Nat} : dRow r = .tuple ((cI r).map PyData.int) := congrArg PyData.tuple row_int
theorem mem_cI {r : List Nat} {n : Nat} : ((n : Int) ∈ cI r) ↔ n ∈ r := by
  rw [cI, List.mem_map]
  constructor
  · rintro ⟨a, h, e⟩
    have e' : a = n := by omega
    rw [← e']; exact h
  · exact fun h => ⟨n, h, rfl⟩
theorem asc_cI {r : List Nat} (h : Asc r) : (cI r).Pairwise (· < ·) := List.pairwise_map.mpr (h.imp fun x => by omega)
theorem cI_inj {r q : List Nat} : cI r = cI q ↔ r = q := by
  constructor
  · intro h
    have := congrArg (List.map Int.toNat) h
    simpa [cI, List.map_map, Function.comp_def] using this
  · intro h; rw [h]
section
variable {K : PySem.W.Frag} {w : World} {σ : L2.St} {F : Hp} {L : Cells} {R : VP} {Rs : List VP} {t : TA} {te ta tb : TE}
theorem seqI_row {r : List Nat} {v : V} {F1 : Hp} (h : Dt K (dRow r) v F1) : seqI (cI r) v F1 K := seqI_t (dRow_int ▸ h)
theorem r_inN {i : Nat} {r : List Nat} (ha : Run (ta σ) F L (Dt K (nI i))) (hb : Run (tb σ) F L (Dt K (dRow r))) : Run (tOp (rIn K false) ta tb σ) F L (Dt K (.bool (decide (i ∈ r)))) :=
  r_is (r_in ha hb fun v F1 h => seqI_row h) (congrArg PyData.bool (decide_eq_decide.mpr mem_cI))
theorem r_notInN {i : Nat} {r : List Nat} (ha : Run (ta σ) F L (Dt K (nI i))) (hb : Run (tb σ) F L (Dt K (dRow r))) : Run (tOp (rIn K true) ta tb σ) F L (Dt K (.bool (!decide (i ∈ r)))) :=
  r_is (r_notIn ha hb fun v F1 h => seqI_row h) (congrArg (fun b => PyData.bool (!b)) (decide_eq_decide.mpr mem_cI))
theorem r_eqN {i j : Nat} (ha : Run (ta σ) F L (Dt K (nI i))) (hb : Run (tb σ) F L (Dt K (nI j))) : Run (tOp rEq ta tb σ) F L (Dt K (.bool (decide (i = j)))) :=
  r_is (r_eqI ha hb) (congrArg PyData.bool (decide_eq_decide.mpr (by omega)))
theorem r_neN {i j : Nat} (ha : Run (ta σ) F L (Dt K (nI i))) (hb : Run (tb σ) F L (Dt K (nI j))) : Run (tOp rNe ta tb σ) F L (Dt K (.bool (!decide (i = j)))) :=
  r_is (r_neI ha hb) (congrArg (fun b => PyData.bool (!b)) (decide_eq_decide.mpr (by omega)))
theorem r_lnN {α : Type} {f : α → PyData} {xs : List α} (h : Run (t σ) F L (Each [Dt K (.tuple (xs.map f))])) : Run (tCB (rLn K) t σ) F L (Dt K (nI xs.length)) := by
  have q := r_lnTD h
  rwa [List.length_map] at q
/-- the row of a house -/
theorem r_rowN {rs : Rows} {n : Nat} (ha : Run (ta σ) F L (Dt K (dRows rs))) (hb : Run (tb σ) F L (Dt K (nI n))) (hn : n < rs.length) : Run (tOp (rIxT K) ta tb σ) F L (Dt K (dRow (row rs n))) :=
  r_ixT ha hb (by rw [List.getElem?_map, get_row hn]; rfl)
theorem pairs_get {ds : List PyData} {i : Nat} {S : VP} (h : (Pairs K (ds.map (Dt K)))[i]? = some S) : ∃ d, ds[i]? = some d ∧ S = Tp K [Dt K (nI i), Dt K d] := by
  unfold Pairs at h
  rw [List.getElem?_mapIdx, List.getElem?_map] at h
  cases e : ds[i]? with
  | none => rw [e] at h; cases h
  | some d =>
    rw [e] at h
    cases h
    exact ⟨d, rfl, rfl⟩
theorem pairs_len {Rs : List VP} : (Pairs K Rs).length = Rs.length := by unfold Pairs; rw [List.length_mapIdx]
end
/-! ### dicts by houses -/
def kvT (f : List Nat) : List (Key × V) := f.map fun (x : Nat) => ((Sum.inl (x : Int) : Key), V.bl true)
theorem kvT_val {f : List Nat} {n : Nat} : (valV (kvT f) (Sum.inl (n : Int))).isSome = decide (n ∈ f) := by
  induction f with
  | nil => rfl
  | cons a f ih =>
    show (valV (((Sum.inl (a : Int) : Key), V.bl true) :: kvT f) _).isSome = _
    by_cases h : a = n
    · subst h; rw [valV_pos rfl]; simp
    · rw [valV_neg (fun z => h (by have := Sum.inl.inj z; omega)), ih]
      have h' : ¬ n = a := fun z => h z.symm
      simp [h']
theorem kvT_put {f : List Nat} {n : Nat} (h : n ∉ f) : putK (kvT f) (Sum.inl (n : Int)) (V.bl true) = kvT (f ++ [n]) := by
  rw [putK_new _ (by
    cases e : valV (kvT f) (Sum.inl (n : Int) : Key) with
    | none => rfl
    | some v =>
      have q := kvT_val (f := f) (n := n)
      rw [e, decide_eq_false h] at q
      cases q)]
  unfold kvT
  rw [List.map_append]; rfl
theorem kvT_len {f : List Nat} : (kvT f).length = f.length := by unfold kvT; rw [List.length_map]
abbrev vN (w : List Nat) : List V := w.map fun (n : Nat) => V.int (n : Int)
end Rs

/-! Rs8: objects with slots: made, told, asked. -/
namespace Rs
open PySem PySem.Spec PyProof.Rows L2 SlX StX
variable [Rs.Tabz]
/-- the slots is of vs are xs -/
def Got (is : List Nat) (xs : List V) (vs : List (Option V)) : Prop := is.length = xs.length ∧ ∀ (k i : Nat) (x : V), is[k]? = some i → xs[k]? = some x → vs[i]? = some (some x)
theorem got_nil : Got [] [] [] := ⟨rfl, fun k i x h => by cases h⟩
theorem Got.put {is : List Nat} {xs : List V} {vs : List (Option V)} {i : Nat} {x : V} (g : Got is xs vs) (h : i ∉ is) : Got (is ++ [i]) (xs ++ [x]) (putS i x vs) := by
  refine ⟨by rw [List.length_append, List.length_append, g.1]; rfl, fun k j y hk hy => ?_⟩
  by_cases hl : k < is.length
  · rw [List.getElem?_append_left hl] at hk
    rw [List.getElem?_append_left (by rw [← g.1]; exact hl)] at hy
    have hne : j ≠ i := fun z => h (z ▸ List.mem_of_getElem? hk)
    exact (putS_ne hne).mpr (g.2 k j y hk hy)
  · rw [List.getElem?_append_right (by omega)] at hk
    rw [List.getElem?_append_right (by rw [← g.1]; omega)] at hy
    have e0 : k - is.length = 0 := by
      cases z : k - is.length with
      | zero => rfl
      | succ m => rw [z] at hk; cases hk
    rw [e0] at hk
    rw [← g.1, e0] at hy
    cases hk; cases hy
    exact putS_get i x vs
/-- an object of the class at C with slots stands -/
def Ob (C : Addr) (is : List Nat) (Rs : List VP) : VP := fun v F => ∃ a dx vs xs, v = .ref a ∧ F a = some (SlO a C dx vs) ∧ F dx = some (.xd []) ∧ Got is xs vs ∧ Each Rs xs F
instance {C : Addr} {is : List Nat} {Rs : List VP} [MonoL Rs] : Mono (Ob C is Rs) := ⟨fun _ _ _ e ⟨a, dx, vs, xs, h, h1, h2, g, r⟩ => ⟨a, dx, vs, xs, h, e _ _ h1, e _ _ h2, g, MonoL.mono _ _ _ e r⟩⟩
def IsOb (C : Addr) : VP := fun v F => ∃ a dx vs, v = .ref a ∧ F a = some (SlO a C dx vs) ∧ F dx = some (.xd [])
instance {C : Addr} : Mono (IsOb C) := ⟨fun _ _ _ e ⟨a, dx, vs, h, h1, h2⟩ => ⟨a, dx, vs, h, e _ _ h1, e _ _ h2⟩⟩
theorem Ob.is {C : Addr} {is : List Nat} {Rs : List VP} {v : V} {F : Hp} (h : Ob C is Rs v F) : IsOb C v F := by
  obtain ⟨a, dx, vs, xs, h, h1, h2, _⟩ := h
  exact ⟨a, dx, vs, h, h1, h2⟩
theorem at_slt {C a dx : Addr} {vs : List (Option V)} {F H : Hp} {L : Cells} (A : At F L H) (h1 : F a = some (SlO a C dx vs)) (h2 : F dx = some (.xd [])) : Slt H a C dx vs := .inr ⟨A.ex _ _ h1, A.ex _ _ h2⟩
/-- a slot of the text -/
def SlF (K : PySem.W.Frag) (C : Addr) (f : Str) (i : Nat) : Prop := SCls K C ∧ ∃ p, Slot1 K C f p i
section
variable {K : PySem.W.Frag} {σ : L2.St} {F : Hp} {L : Cells} {Nx : L2.St → Hp → Cells → Prop} {Rt R : VP} {Rs : List VP} {t u : TS} {ta tv te : TE} {tt : TA} {C : Addr} {is : List Nat} {f : Str} {i : Nat} {E : XK}
theorem r_fld [MonoL Rs] {k : Nat} (s : SlF K C f i) (h : Run (ta σ) F L (Ob C is Rs)) (hk : is[k]? = some i) (hR : Rs[k]? = some R) : Run (tSl K ta f σ) F L R := fun F1 N H e A Q q => by
  refine h F1 N H e A _ fun v F2 H2 e2 A2 hv => ?_
  obtain ⟨a, dx, vs, xs, rfl, h1, h2, g, r⟩ := hv
  obtain ⟨sc, p, sp⟩ := s
  have hl : k < xs.length := by rw [← g.1]; exact (List.getElem?_eq_some_iff.mp hk).1
  obtain ⟨R', hR', hx⟩ := each_at r (List.getElem?_eq_getElem hl)
  rw [hR] at hR'
  cases hR'
  exact ⟨a, C, dx, p, vs, i, xs[k], rfl, at_slt A2 h1 h2, sc, sp, g.2 k i _ hk (List.getElem?_eq_getElem hl), q _ F2 H2 e2 A2 hx⟩
/-- of an object that is still one's own -/
theorem r_sown {a dx : Addr} {vs : List (Option V)} {v : V} [Mono R] (s : SlF K C f i) (h : Run (ta σ) F L (Eqv (.ref a))) (m1 : (a, SlO a C dx vs) ∈ L) (m2 : (dx, HO.xd []) ∈ L) (hv : vs[i]? = some (some v)) (hR : R v F) : Run (tSl K ta f σ) F L R := fun F1 N H e A Q q => by
  refine h F1 N H e A _ fun v F2 H2 e2 A2 hv' => ?_
  obtain rfl : v = .ref a := hv'
  obtain ⟨sc, p, sp⟩ := s
  exact ⟨a, C, dx, p, vs, i, _, rfl, .inr ⟨A2.mem m1, A2.mem m2⟩, sc, sp, hv, q _ F2 H2 e2 A2 (Mono.go hR (e.trans e2))⟩
inductive SCell (a C dx : Addr) : List (Option V) → HO → HO → Prop
  | new : SCell a C dx [] (.ins C dx []) (.own a)
  | old (vs : List (Option V)) : SCell a C dx vs (SlO a C dx vs) (.xd [])
theorem SCell.slt {a C dx : Addr} {vs : List (Option V)} {o o2 : HO} {H : Hp} (c : SCell a C dx vs o o2) (h1 : H a = some o) (h2 : H dx = some o2) : Slt H a C dx vs := by
  cases c with
  | new => exact .inl ⟨h1, rfl⟩
  | old => exact .inr ⟨h1, h2⟩
theorem s_slset [Mono R] {a dx : Addr} {vs : List (Option V)} {o o2 : HO} (s : SlF K C f i) (hc : SCell a C dx vs o o2) (ho : Run (ta σ) F ((a, o) :: (dx, o2) :: L) (Eqv (.ref a))) (hv : Run (tv σ) F ((a, o) :: (dx, o2) :: L) R)
    (k : ∀ v F1, Same F F1 → R v F1 → Nx σ F1 ((a, SlO a C dx (putS i v vs)) :: (dx, .xd []) :: L)) : RunS (sSl K ta tv f) σ F ((a, o) :: (dx, o2) :: L) Nx Rt := fun F1 N H e A D q r => by
  refine hv F1 N H e A _ fun v F2 H2 e2 A2 hv => ?_
  refine (ho.up (e.trans e2)) F2 N H2 (Same.refl _) A2 _ fun x F3 H3 e3 A3 hx => ?_
  obtain rfl : x = .ref a := hx
  obtain ⟨sc, p, sp⟩ := s
  refine ⟨a, C, dx, p, vs, i, rfl, hc.slt (A3.on _ List.mem_cons_self) (A3.on _ (List.mem_cons_of_mem _ List.mem_cons_self)), sc, sp, ?_⟩
  have A4 : At F3 ((a, SlO a C dx (putS i v vs)) :: (dx, .xd []) :: (L ++ N)) (slH H3 a C dx (putS i v vs)) := At.put (((A3.perm (List.Perm.swap _ _ _)).put (u := .xd [])).perm (List.Perm.swap _ _ _)) (by intro _ z; unfold SlO at z; nomatch z) (by intro _ z; unfold SlO at z; nomatch z) (fun c q => codeT_ne fun h ⟨sl, h1, _⟩ => ⟨_, _, h1, fun vs z => by cases z⟩)
  exact q σ F3 _ _ (e2.trans e3) A4 (k v F3 (e.trans (e2.trans e3)) (Mono.go hv e3))
theorem q_slset [Mono R] {a dx : Addr} {vs : List (Option V)} {o o2 : HO} (s : SlF K C f i) (hc : SCell a C dx vs o o2) (ho : Run (ta σ) F ((a, o) :: (dx, o2) :: L) (Eqv (.ref a))) (hv : Run (tv σ) F ((a, o) :: (dx, o2) :: L) R)
    (k : ∀ v F1, Same F F1 → R v F1 → RunS u σ F1 ((a, SlO a C dx (putS i v vs)) :: (dx, .xd []) :: L) Nx Rt) : RunS (tSeq (sSl K ta tv f) u) σ F ((a, o) :: (dx, o2) :: L) Nx Rt :=
  s_seq (Mid := fun σ' F' L' => ∃ v, σ' = σ ∧ R v F' ∧ L' = (a, SlO a C dx (putS i v vs)) :: (dx, .xd []) :: L) (s_slset s hc ho hv fun v F1 e hr => ⟨v, rfl, hr, rfl⟩) fun σ' F' L' e ⟨v, h1, h2, h3⟩ => by
    subst h1; subst h3; exact k v F' e h2
/-! made -/
def SpI {γ : Type} (C : Addr) (pre : γ → Prop) (Rs : γ → List VP) (R : γ → VP) : Sp := fun vs H Q _ => ∃ g F N a dx ws, vs = .ref a :: ws ∧ pre g ∧ At F ((a, .ins C dx []) :: (dx, .own a) :: N) H ∧ Each (Rs g) ws F ∧ ∀ F' H', Same F F' → At F' N H' → R g (.ref a) F' → Q .non H'
theorem r_mk {γ : Type} {pre : γ → Prop} {Rs : γ → List VP} {R : γ → VP} (g : γ) (hp : pre g) [MonoL (Rs g)] (h : Run (tt σ) F L (Each (Rs g))) : Run (tMake C (SpI C pre Rs R) [] E tt σ) F L (R g) := run_bind (k := tt σ) h fun vs F1 e1 hv => fun F2 N H e2 A Q q x dx h1 h2 h3 => by
  rw [List.append_nil]
  refine ⟨g, F2, L ++ N, x, dx, vs, rfl, hp, ?_, MonoL.mono _ _ _ e2 hv, fun F' H' e' A' hr => ⟨rfl, q _ F' H' e' A' hr⟩⟩
  refine (A.cell (o := .own x) h2).cell (o := .ins C dx []) (a := x) ?_
  rw [upd_ne h3.symm]; exact h1
end
structure MkF (P : Program) (w : World) (K : PySem.W.Frag) (mg : Str → Option Value) (base : Heap) (k : Nat) (x : Str) (C : Addr) (sp : Sp) : Prop where
  ex : ∃ f fd ps, Mk K C f ∧ FnOk P w K mg base CX0 k f fd ps sp ∧ mg x = some (.ref C) ∧ Binds K fd ps []
section
variable {X : Cx} {e o : Expr} {es : List Expr} {t : TA} {ta : TE} {p pos apos : Pos} {f x m : Str}
theorem p_mk {k j : Nat} {C : Addr} {sp : Sp} (c : MkF X.prog X.w X.K X.mg X.base k x C sp) (hr : Room j X.A) (hk : k + 1 ≤ j) (ha : PA X (e :: es) t) (hg : Gl X x := by rfl)
    (hdb : (x == ("__debug__" : Str)) = false := by decide) (he : starEach (e :: es) X.env = (false, eval e X.env) :: starEach es X.env := by rfl) (hpl : (backTo pos (starEach es X.env)).any (·.1) = false := by rfl) :
    PE X (.Call (.Name x p) (e :: es) [] pos) (tMake C sp [] E0 t) := by
  obtain ⟨f, fd, ps, M, F, hm, b⟩ := c.ex
  exact pe_make M F (hr.mono hk) hg hm b .nil pass0 ha hdb he hpl
end
section
variable {P : Program} {w : World} {K : PySem.W.Frag} {mg : Str → Option Value} {base : Heap}
theorem init_ok {x qual : Str} {st : Stmt} {f C : Addr} {fd : FuncData} {N ps : List Str} {k : Nat} {γ : Type} {pre : γ → Prop} {Rs : γ → List VP} {R : γ → VP} (F : Fun K x qual st f fd) (S : FnScope N ps (defScope st)) (len : ∀ g, (Rs g).length + 1 = ps.length)
    (body : ∀ (cdv : Value) (A : Around) (outer : List Env) (s : Shared) (H : Hp) (E : XK) (g : γ) (a dx : Addr) (vs : List V) (F0 : Hp), Room k (A.deeper (envOfC qual (defScope st) s.heap.objs.size f cdv)) → pre g → Each (Rs g) vs F0 →
      ∃ t, PSs (cxOf CX0 P w K mg base N qual (defScope st) f cdv A outer s H E).nox (defBody st) t ∧ RunS t (start N (.ref a :: vs)) F0 [(a, .ins C dx []), (dx, .own a)] (fun _ F' L' => ∃ o o2, L' = [(a, o), (dx, o2)] ∧ ∀ F2, Same F' F2 → F2 a = some o → F2 dx = some o2 → R g (.ref a) F2) (fun _ _ => False)) :
    FnOk P w K mg base CX0 (k + 1) f fd ps (SpI C pre Rs R) := by
  refine F.ok S (fun vs H Q E ⟨g, F0, N0, a, dx, ws, e, hp, A, hv, q⟩ => ?_) fun cdv A outer s H vs Q E hr ⟨g, F0, N0, a, dx, ws, e, hp, A0, hv, q⟩ => ?_
  · subst e
    rw [List.length_cons, each_length hv]; exact len g
  · subst e
    obtain ⟨t, h1, h2⟩ := body cdv A outer s H E g a dx ws F0 hr hp hv
    refine ⟨t, h1, h2 F0 N0 H (Same.refl _) A0 _ (fun _ F' L' H' e' A' n => ?_) fun v F' H' e' A' r => r.elim⟩
    obtain ⟨o, o2, rfl, n⟩ := n
    have A1 : At (upd F' a o) ((dx, o2) :: N0) H' := At.keep A'
    have A2 : At (upd (upd F' a o) dx o2) N0 H' := At.keep A1
    have hne : a ≠ dx := fun z => by
      have := A1.off1
      rw [z, upd_same] at this; cases this
    have s1 : Same F' (upd (upd F' a o) dx o2) := (same_new A'.off1).trans (same_new A1.off1)
    exact q _ H' (e'.trans s1) A2 (n _ s1 (by rw [upd_ne hne, upd_same]) upd_same)
/-- by values alone -/
theorem fnr_mk {f : Addr} {fd : FuncData} {ps : List Str} {k : Nat} {sp : Sp} (G : FnOk P w K mg base CX0 k f fd ps sp) (b : Binds K fd ps []) : FnR P w K mg base CX0 k f sp :=
  (G.raw b .nil).imp fun vs H Q E h => by rw [List.append_nil]; exact h
end
section
variable {K : PySem.W.Frag} {σ : L2.St} {F : Hp} {L : Cells} {γ : Type} {pre : γ → Prop} {Rs : γ → List VP} {R : γ → VP} {S : VP} {Ss : List VP} {ta : TE} {tt : TA} {C : Addr} {E : XK}
end
end Rs

/-! Rs9: a comprehension of two fors. -/
namespace Rs
open PySem PySem.Spec PyProof.Rows L2 SlX StX
variable [Rs.Tabz]
def flat {ι κ : Type} (ys : ι → List κ) (xs : List ι) : List (ι × κ) := xs.flatMap fun x => (ys x).map fun y => (x, y)
theorem flat_take {ι κ : Type} {ys : ι → List κ} {xs : List ι} {i : Nat} {x : ι} (h : xs[i]? = some x) : flat ys (xs.take (i + 1)) = flat ys (xs.take i) ++ (ys x).map fun y => (x, y) := by
  unfold flat
  rw [List.take_succ, h, List.flatMap_append]
  simp
theorem flat_le {ι κ : Type} {ys : ι → List κ} {xs : List ι} {i : Nat} : (flat ys (xs.take i)).length ≤ (flat ys xs).length := by
  conv => rhs; rw [← List.take_append_drop i xs]
  unfold flat
  rw [List.flatMap_append, List.length_append]
  omega
section
variable {K : PySem.W.Frag} {σ : L2.St} {F : Hp} {L : Cells} {wi wi1 : TI} {g g1 : TG} {te : TE} {vs vs1 : List Nat}
theorem r_lc2 {ι κ : Type} {Ri : ι → VP} {Rj Re : ι → κ → VP} {xs : List ι} {ys : ι → List κ} [∀ x y, Mono (Re x y)] (h : Run (wi σ) F L (fun J F1 => Seqs J (xs.map Ri) F1)) (hz : (flat ys xs).length ≤ 40000)
    (ht : ∀ x v F1, Same F F1 → x ∈ xs → Ri x v F1 → RunG g v (wipe σ vs) F1 L fun σ2 F2 => wipe σ2 vs = wipe σ vs ∧ Run (wi1 σ2) F2 L (fun J F3 => Seqs J ((ys x).map (Rj x)) F3) ∧
      ∀ y u F3, Same F2 F3 → y ∈ ys x → Rj x y u F3 → RunG g1 u (wipe σ2 vs1) F3 L fun σ3 F4 => wipe σ3 vs1 = wipe σ2 vs1 ∧ Run (te σ3) F4 L (Re x y)) :
    Run (tLc2 wi g tYes wi1 g1 tYes te vs vs1 σ) F L (Ln ((flat ys xs).map fun p => Re p.1 p.2)) := fun F1 N H e A Q q =>
  h F1 N H e A _ fun J F2 H2 e2 A2 ⟨G, Y, wk, hG, hY⟩ D hD => by
    rw [List.length_map] at wk
    let Pv : Nat → Hp → Prop := fun i H' => ∃ F' acc, Same F2 F' ∧ At F' ((D, .lst acc) :: (L ++ N)) H' ∧ Each ((flat ys (xs.take i)).map fun p => Re p.1 p.2) acc F'
    refine ⟨fun i m H => m = xs.length - i ∧ i ≤ xs.length ∧ Pv i H, ⟨xs.length, by simp, Nat.zero_le _, F2, [], Same.refl _, A2.cell hD, by simp [flat, Each]⟩, ?_⟩
    rintro i m H0 ⟨rfl, hi0, F', acc, e', A', hacc⟩
    have q0 := hG F' _ H0 e' A'
    by_cases hi : i < xs.length
    · refine .inr ⟨wk.goes i H0 hi q0, Pv (i + 1), fun H' p' => ⟨xs.length - (i + 1), by omega, rfl, hi, p'⟩, fun x H4 y0 => ?_⟩
      have y := wk.yields i H0 x H4 hi q0 y0
      obtain ⟨F3, R, e3, A3, hR, hx⟩ := hY F' _ H0 i x H4 e' A' (by rw [List.length_map]; exact hi) y
      rw [List.getElem?_map] at hR
      have hxi : xs[i]? = some xs[i] := List.getElem?_eq_getElem hi
      rw [hxi] at hR
      cases hR
      have P0 : ∀ ac : List V, ((D, HO.lst ac) :: (L ++ N)).Perm (L ++ ((D, .lst ac) :: N)) := fun ac => List.perm_middle.symm
      refine ht xs[i] x F3 (((e.trans e2).trans e').trans e3) (List.getElem_mem hi) hx F3 ((D, .lst acc) :: N) H4 (Same.refl _) (A3.perm (P0 _)) _ fun σ2 F4 H5 e4 A4 ⟨hw, hi1, hin⟩ => ⟨hw, ?_⟩
      unfold tYes
      refine iteT ?_
      refine hi1 F4 ((D, .lst acc) :: N) H5 (Same.refl _) A4 _ fun J1 F5 H6 e5 A5 ⟨G1, Y1, wk1, hG1, hY1⟩ => ?_
      rw [List.length_map] at wk1
      let Pw : Nat → Hp → Prop := fun j H' => ∃ F' acc, Same F5 F' ∧ At F' ((D, .lst acc) :: (L ++ N)) H' ∧ Each ((flat ys (xs.take i) ++ ((ys xs[i]).take j).map fun y => (xs[i], y)).map fun p => Re p.1 p.2) acc F'
      refine ⟨fun j k H => k = (ys xs[i]).length - j ∧ j ≤ (ys xs[i]).length ∧ Pw j H, ⟨_, rfl, Nat.zero_le _, F5, acc, Same.refl _, A5.perm (P0 _).symm, ?_⟩, ?_⟩
      · rw [List.take_zero, List.map_nil, List.append_nil]
        exact Mono.go hacc ((e3.trans e4).trans e5)
      · rintro j k H7 ⟨rfl, hj0, F7, ac7, e7, A7, hac7⟩
        have q7 := hG1 F7 _ H7 e7 A7
        by_cases hj : j < (ys xs[i]).length
        · refine .inr ⟨wk1.goes j H7 hj q7, Pw (j + 1), fun H' p' => ⟨_, by omega, rfl, hj, p'⟩, fun u H8 y8 => ?_⟩
          have y9 := wk1.yields j H7 u H8 hj q7 y8
          obtain ⟨F8, R, e8, A8, hR, hu⟩ := hY1 F7 _ H7 j u H8 e7 A7 (by rw [List.length_map]; exact hj) y9
          rw [List.getElem?_map] at hR
          have hyj : (ys xs[i])[j]? = some (ys xs[i])[j] := List.getElem?_eq_getElem hj
          rw [hyj] at hR
          cases hR
          refine hin (ys xs[i])[j] u F8 ((e5.trans e7).trans e8) (List.getElem_mem hj) hu F8 ((D, .lst ac7) :: N) H8 (Same.refl _) (A8.perm (P0 _)) _ fun σ3 F9 H9 e9 A9 ⟨hw3, hv⟩ => ⟨hw3, ?_⟩
          refine iteT ?_
          refine hv F9 ((D, .lst ac7) :: N) H9 (Same.refl _) A9 _ fun z F10 H10 e10 A10 hz10 => ?_
          have A11 := A10.perm (P0 _).symm
          have hlen : ac7.length ≤ (flat ys xs).length := by
            rw [each_length hac7, List.length_map]
            refine Nat.le_trans ?_ (flat_le (i := i + 1))
            rw [flat_take hxi, List.length_append, List.length_append, List.length_map, List.length_map, List.length_take]
            omega
          refine ⟨ac7, A11.on1, len_lt (by omega), F10, ac7 ++ [z], ((e7.trans e8).trans e9).trans e10, A11.put, ?_⟩
          rw [List.take_succ, hyj, Option.toList_some, List.map_append, List.map_append, List.map_append, ← List.append_assoc, ← List.map_append]
          exact each_app (Mono.go hac7 ((e8.trans e9).trans e10)) ⟨hz10, True.intro⟩
        · have ej : j = (ys xs[i]).length := by omega
          subst ej
          refine .inl ⟨wk1.stops H7 q7, F7, ac7, (((e'.trans e3).trans e4).trans e5).trans e7, A7, ?_⟩
          rw [flat_take hxi]
          rw [List.take_length] at hac7
          exact hac7
    · have ei : i = xs.length := by omega
      subst ei
      rw [List.take_length] at hacc
      refine .inl ⟨wk.stops H0 q0, ?_⟩
      have A1 : At F' ((D, .lst acc) :: (L ++ N)) H0 := A'
      exact q (.ref D) (upd F' D (.lst acc)) H0 ((e2.trans e').trans (same_new A1.off1)) A1.keep ⟨D, acc, rfl, upd_same, Mono.go hacc (same_new A1.off1)⟩
end
end Rs

/-! Rw: what a web is. -/
namespace Rs
open PySem PySem.Spec PyProof.Rows L2 SlX StX Ma
variable [Rs.Tabz]
noncomputable def reachs (rs : Rows) : Rows := (List.range rs.length).map (reachL rs)
noncomputable def rootsN (rs : Rows) : List Nat := (List.range rs.length).filter fun h => decide ((reachL rs h).length = rs.length)
def pairsN (rs : Rows) : List (Nat × Nat) := (flat (fun p : List Nat × Nat => p.1) rs.zipIdx).map fun q => (q.1.2, q.2)
abbrev dPair (p : Nat × Nat) : PyData := .tuple [nI p.1, nI p.2]
abbrev wIx : List Nat := [0, 4, 2, 3, 1]
noncomputable def webVs (K : PySem.W.Frag) (rs : Rows) : List VP := [Dt K (dRows rs), Dt K (nI rs.length), Dt K (dRows (reachs rs)), Dt K (dRow (rootsN rs)), Dt K (.tuple ((pairsN rs).map dPair))]
instance {K : PySem.W.Frag} {rs : Rows} : MonoL (webVs K rs) := by unfold webVs; infer_instance
noncomputable def webP (C : Addr) (K : PySem.W.Frag) (rs : Rows) : VP := fun v F => Ok rs ∧ Ob C wIx (webVs K rs) v F
instance {C : Addr} {K : PySem.W.Frag} {rs : Rows} : Mono (webP C K rs) := ⟨fun _ _ _ e h => ⟨h.1, Mono.go h.2 e⟩⟩
structure WebK (K : PySem.W.Frag) (C : Addr) : Prop where
  sc : SCls K C
  si : SIsi K C
  kit : PySem.W.kitOne K (.ref C) (.ref C) = some true
  heard : SlF K C "own_heard" 0
  size : SlF K C "own_size" 4
  reached : SlF K C "own_reached" 2
  roots : SlF K C "own_roots" 3
  pairs : SlF K C "own_pairs" 1
section
variable {K : PySem.W.Frag} {w : World} {σ : L2.St} {F : Hp} {L : Cells} {R : VP} {Rs : List VP} {t : TA} {te ta tb : TE} {C : Addr} {rs : Rows}
theorem each_map_dt {α : Type} {f : α → PyData} {xs : List α} {vs : List V} {F : Hp} : Each (xs.map fun x => Dt K (f x)) vs F ↔ Each ((xs.map f).map (Dt K)) vs F := by
  rw [List.map_map]; rfl
theorem r_tpD {α : Type} {f : α → PyData} {xs : List α} (h : Run (te σ) F L (Tp K (xs.map fun x => Dt K (f x)))) : Run (te σ) F L (Dt K (.tuple (xs.map f))) :=
  h.weak fun v F1 e hv => tp_dt.mp (by rw [List.map_map]; exact hv)
theorem r_lnD {α : Type} {f : α → PyData} {xs : List α} (h : Run (te σ) F L (Ln (xs.map fun x => Dt K (f x)))) : Run (te σ) F L (Dt K (.list (xs.map f))) :=
  h.weak fun v F1 e hv => ls_dt.mp (Ln.ls (by rw [List.map_map]; exact hv))
theorem r_tupLn {α : Type} {f : α → PyData} {xs : List α} (h : Run (te σ) F L (Ln (xs.map fun x => Dt K (f x)))) : Run (tCB (rTupOf K) (tCons te tNil) σ) F L (Dt K (.tuple (xs.map f))) :=
  r_tpD (r_tupL (r_cons (r_ls h) r_nil))
theorem i_enumRows {α : Type} {f : α → PyData} {xs : List α} (h : Run (te σ) F L (Dt K (.tuple (xs.map f)))) : Run (iEnumT K (tCons te tNil) σ) F L (fun J F1 => Seqs J (xs.zipIdx.map fun p => Tp K [Dt K (nI p.2), Dt K (f p.1)]) F1) := by
  have q := i_enumT (Rs := xs.map fun x => Dt K (f x)) (r_cons (h.weak fun v F1 e hv => by have := tp_dt.mpr hv; rwa [List.map_map] at this) r_nil)
  rwa [pairs_map] at q
theorem i_rangeN {n : Nat} (h : Run (te σ) F L (Dt K (nI n))) (hn : n ≤ 1000) : Run (iRng1 (tCons te tNil) σ) F L (fun J F1 => Seqs J ((List.range n).map fun i => Dt K (nI i)) F1) :=
  i_range (n := (n : Int)) (r_cons h r_nil) (by omega) (by omega)
theorem i_tupN {α : Type} {f : α → PyData} {xs : List α} (h : Run (te σ) F L (Dt K (.tuple (xs.map f)))) : Run (iTup K te σ) F L (fun J F1 => Seqs J (xs.map fun x => Dt K (f x)) F1) :=
  i_tup (h.weak fun v F1 e hv => by have := tp_dt.mpr hv; rwa [List.map_map] at this)
/-! what a web tells -/
theorem r_heard (W : WebK K C) (h : Run (ta σ) F L (webP C K rs)) : Run (tSl K ta "own_heard" σ) F L (Dt K (dRows rs)) := r_fld (k := 0) W.heard (h.weak fun _ _ _ q => q.2) rfl rfl
theorem r_size (W : WebK K C) (h : Run (ta σ) F L (webP C K rs)) : Run (tSl K ta "own_size" σ) F L (Dt K (nI rs.length)) := r_fld (k := 1) W.size (h.weak fun _ _ _ q => q.2) rfl rfl
theorem r_reached (W : WebK K C) (h : Run (ta σ) F L (webP C K rs)) : Run (tSl K ta "own_reached" σ) F L (Dt K (dRows (reachs rs))) := r_fld (k := 2) W.reached (h.weak fun _ _ _ q => q.2) rfl rfl
theorem r_roots (W : WebK K C) (h : Run (ta σ) F L (webP C K rs)) : Run (tSl K ta "own_roots" σ) F L (Dt K (dRow (rootsN rs))) := r_fld (k := 3) W.roots (h.weak fun _ _ _ q => q.2) rfl rfl
theorem r_pairs (W : WebK K C) (h : Run (ta σ) F L (webP C K rs)) : Run (tSl K ta "own_pairs" σ) F L (Dt K (.tuple ((pairsN rs).map dPair))) := r_fld (k := 4) W.pairs (h.weak fun _ _ _ q => q.2) rfl rfl
theorem webP.is {v : V} {F : Hp} (h : webP C K rs v F) : IsOb C v F := h.2.is
end
theorem reachs_data {rs : Rows} : PyData.tuple ((List.range rs.length).map fun i => dRow (reachL rs i)) = dRows (reachs rs) := by
  unfold reachs dRows; rw [List.map_map]; rfl
theorem reachs_len {rs : Rows} : (reachs rs).length = rs.length := by unfold reachs; rw [List.length_map, List.length_range]
theorem reachs_row {rs : Rows} {h : Nat} (hh : h < rs.length) : row (reachs rs) h = reachL rs h := row_get (by unfold reachs; rw [List.getElem?_map, List.getElem?_range hh]; rfl)
theorem zip_range {α : Type} {g : Nat → α} {n : Nat} : ((List.range n).map g).zipIdx = (List.range n).map fun i => (g i, i) := by
  apply List.ext_getElem
  · simp
  · intro i h1 h2
    simp
theorem roots_zip {rs : Rows} : ((reachs rs).zipIdx.filter fun p => decide (p.1.length = rs.length)).map (·.2) = rootsN rs := by
  unfold reachs rootsN
  rw [zip_range, List.filter_map, List.map_map]
  show List.map (fun x => x) _ = _
  rw [List.map_id']
  rfl
theorem roots_data {rs : Rows} : PyData.tuple (((reachs rs).zipIdx.filter fun p => decide (p.1.length = rs.length)).map fun p => nI p.2) = dRow (rootsN rs) := by
  rw [← roots_zip, dRow, List.map_map]; rfl
theorem pairs_flat {rs : Rows} : ((flat (fun p : List Nat × Nat => p.1) rs.zipIdx).map fun q => dPair (q.1.2, q.2)) = (pairsN rs).map dPair := by
  unfold pairsN; rw [List.map_map]; rfl
theorem flat_len {rs : Rows} (ok : Ok rs) : (flat (fun p : List Nat × Nat => p.1) rs.zipIdx).length ≤ 40000 := by
  unfold flat
  rw [List.length_flatMap]
  have h1 : ∀ x ∈ rs.zipIdx.map fun p : List Nat × Nat => (p.1.map fun y => (p, y)).length, x ≤ 5 := by
    intro x hx
    obtain ⟨p, hp, rfl⟩ := List.mem_map.mp hx
    rw [List.length_map]
    have hm : p.1 ∈ rs := by
      have := List.mem_zipIdx hp
      simp only [Nat.zero_le, Nat.sub_zero, true_and] at this
      rw [this.2]; exact List.getElem_mem _
    exact Nat.le_trans (nodup_len _ _ (asc_nodup (ok.asc _ hm)) (ok.lt _ hm)) ok.le
  have h2 : ∀ (l : List Nat), (∀ x ∈ l, x ≤ 5) → l.sum ≤ 5 * l.length := by
    intro l
    induction l with
    | nil => intro _; simp
    | cons a l ih =>
      intro h
      have := ih fun x hx => h x (List.mem_cons_of_mem _ hx)
      have := h a List.mem_cons_self
      simp only [List.sum_cons, List.length_cons]
      omega
  have h3 := h2 _ h1
  rw [List.length_map, List.length_zipIdx] at h3
  show (List.map (fun p : List Nat × Nat => (p.1.map fun y => (p, y)).length) rs.zipIdx).sum ≤ 40000
  have := ok.le
  omega
end Rs

/-! RsK: the words with K told, for blocks within a block. -/
namespace Rs
open PySem PySem.Spec PyProof.Rows L2 SlX StX
variable [Rs.Tabz]
section
variable {X : Cx} {e o : Expr} {es : List Expr} {ta te : TE} {t : TA} {p pos apos : Pos} {f m x : Str} {tg l : Expr}

theorem p_lenK (K : PySem.W.Frag) (B : Bf X.mg) (ha : PA X (e :: es) t) (hg : Gl X "len" := by rfl) (he : starEach (e :: es) X.env = (false, eval e X.env) :: starEach es X.env := by rfl) (hpl : (backTo pos (starEach es X.env)).any (·.1) = false := by rfl) (hK : X.K = K := by rfl) :
    PE X (.Call (.Name "len" p) (e :: es) [] pos) (tCB (rLn K) t) := by
  subst hK; exact p_len B ha hg he hpl

theorem p_tupleK (K : PySem.W.Frag) (B : Bf X.mg) (ha : PA X (e :: es) t) (hg : Gl X "tuple" := by rfl) (he : starEach (e :: es) X.env = (false, eval e X.env) :: starEach es X.env := by rfl) (hpl : (backTo pos (starEach es X.env)).any (·.1) = false := by rfl) (hK : X.K = K := by rfl) :
    PE X (.Call (.Name "tuple" p) (e :: es) [] pos) (tCB (rTupOf K) t) := by
  subst hK; exact p_tuple B ha hg he hpl

theorem pi_tupK (K : PySem.W.Frag) (hl : PE X l ta) (hK : X.K = K := by rfl) : PI X tg l (iTup K ta) := by
  subst hK; exact pi_tup hl
theorem ix_tupK (K : PySem.W.Frag) (hK : X.K = K := by rfl) : IxR X (rIxT K) := by subst hK; exact ix_tup
theorem op_in_seqK (K : PySem.W.Frag) (hK : X.K = K := by rfl) : OpR X (compareOp .In) (rIn K false) := by subst hK; exact op_in_seq
theorem op_eqDK (K : PySem.W.Frag) (hu : X.A.units + 64 < cLine) (hK : X.K = K := by rfl) : OpR X (compareOp .Eq) (rEqD K) := by subst hK; exact op_eqD hu
theorem op_neDK (K : PySem.W.Frag) (hu : X.A.units + 64 < cLine) (hK : X.K = K := by rfl) : OpR X (compareOp .NotEq) (rNeD K) := by subst hK; exact op_neD hu
theorem pe_slK (K : PySem.W.Frag) (he : PE X e ta) (hb : attributeBase e f X.env (eval e X.env) = eval e X.env := by rfl) (hK : X.K = K := by rfl) : PE X (.Attribute e f pos) (tSl K ta f) := by
  subst hK; exact pe_sl he hb
end
end Rs

/-! RsT: tuple * int, once too. -/
namespace L2
open PySem PySem.Spec PyProof.Rows
variable [Rs.Tabz]
theorem tuple_mul1 (l : Addr) (items : Array Value) (n : Nat) (dd : Option Addr) (sl : Array (Option Value)) (u : Tok) :
    Meets (Builtin.«tuple.__mul__» ⟨[.ref l, .int 1 u], []⟩) (fun _ R s => s.heap.get? l = some { cls := .type "tuple", dict := dd, data := .seq items n, slots := sl } ∧
      ∀ tk, R (.ok (.ret (Value.ref l))) { s with toks := tk }) :=
  .of_wp fun prog w A R s h => by
    obtain ⟨hp, g, d, tk, os⟩ := s
    obtain ⟨hl, h⟩ := h
    have f1 := AutoSeq1.idx_int
    wp_walk using wpAny_loadPart' hl
    repeat (first
      | exact ⟨_, rfl, h _⟩
      | (refine wpAny_ite_false (by decide) ?_; wp_walk using wpAny_loadPart' hl)
      | (refine wpAny_ite_true (by simp) ?_; wp_walk using wpAny_loadPart' hl))
def rRep1 (K : PySem.W.Frag) : R2 := fun x y H Q => ∃ l xs, x = .ref l ∧ y = .int 1 ∧ SqT K H l xs ∧ Q (.ref l) H
section
variable {X : Cx}
theorem op_rep1 : OpR X (binaryOp .Mult) (rRep1 X.K) := by
  intro pins s σ H x y v u Q I rx ry h
  obtain ⟨l, xs, rfl, rfl, hT, q⟩ := h
  cases rx
  obtain ⟨t, rfl⟩ := ry
  obtain ⟨its, r, ⟨⟨cls, dd, data, sl⟩, ho, hc, n, hd⟩, hs⟩ := I.tuple hT
  simp only at hc hd
  subst hc hd
  refine wpAny_binaryOp_repeat_ref (T := "tuple") (U := "int") (by decide) ⟨_, ho, rfl⟩ (fun s' => typeIs_int s' 1 t) noFill_tuple_mul F.fills_int_mul F.slot_int_rmul repeat_tuple F.slot_int_index.lookup
    (call_meets F.slot_int_rmul (typeIs_int s 1 t) F.entry_int_rmul (F.args_int_rmul_2 _ _) (int_rmul_tuple 1 t l its.toArray n dd sl)
      ⟨ho, rfl, ⟨_, ho, rfl⟩, call_meets F.slot_tuple_mul ⟨_, ho, rfl⟩ F.entry_tuple_mul (F.args_tuple_mul_2 _ _) (tuple_mul1 l its.toArray n dd sl t) ⟨ho, fun tk => ?_⟩⟩)
  exact ⟨.ref l, H, I.tok _, rfl, q⟩
def rRepTA (K : PySem.W.Frag) : R2 := fun x y H Q => rRepT K x y H Q ∨ rRep1 K x y H Q
theorem op_repTA : OpR X (binaryOp .Mult) (rRepTA X.K) := fun pins s σ H x y v u Q I rx ry h => h.elim (op_repT pins s σ H x y v u Q I rx ry) (op_rep1 pins s σ H x y v u Q I rx ry)
end
end L2
namespace Rs
open PySem PySem.Spec PyProof.Rows L2 SlX StX
variable [Rs.Tabz]
section
variable {K : PySem.W.Frag} {σ : L2.St} {F : Hp} {L : Cells} {ta tb : TE}
theorem rep_flat {α : Type} {k : Nat} {x : α} : (List.replicate k [x]).flatten = List.replicate k x := by
  induction k with
  | zero => rfl
  | succ k ih => rw [List.replicate_succ, List.flatten_cons, ih]; rfl
/-- (x,) * k -/
theorem r_rep1 {d : PyData} {k : Nat} (ha : Run (ta σ) F L (Dt K (.tuple [d]))) (hb : Run (tb σ) F L (Dt K (.int (k : Nat)))) (h1 : 1 ≤ k) (h2 : k ≤ 1000) : Run (tOp (rRepTA K) ta tb σ) F L (Dt K (.tuple (List.replicate k d))) :=
  r_op ha hb fun x y F1 e hx hy => by
    cases hy
    obtain ⟨a, vs, rfl, hs, hr⟩ := tp_dt.mpr hx
    obtain ⟨v, rfl, hv⟩ := each1 hr
    by_cases hk : k = 1
    · subst hk
      refine fun F2 N H e2 A Q q => .inr ⟨a, [v], rfl, rfl, sqT_up (e2.trans A.ex) hs, q _ F2 H (Same.refl _) A (dp_up e2 hx)⟩
    · refine fun F2 N H e2 A Q q => .inl ⟨a, (k : Int), [v], rfl, rfl, sqT_up (e2.trans A.ex) hs, by simp, by omega, by omega, by simp, fun p hp => q _ (upd F2 p _) _ (same_new (A.free hp)) (A.new hp) ?_⟩
      refine tp_dt.mp ⟨p, List.replicate k v, rfl, .inl ?_, ?_⟩
      · exact .inl (by rw [upd_same, Int.toNat_natCast, rep_flat])
      · have hv' := dp_up (e2.trans (same_new (o := .tup (List.replicate (k : Int).toNat [v]).flatten) (A.free hp))) hv
        have : ∀ m : Nat, Each ((List.replicate m d).map (Dt K)) (List.replicate m v) (upd F2 p (.tup (List.replicate (k : Int).toNat [v]).flatten)) := by
          intro m
          induction m with
          | zero => exact True.intro
          | succ m ih => exact ⟨hv', ih⟩
        exact this k
end
end Rs

/-! Mb: rounds one behind the other. -/
namespace Ma
open PySem Rs
/-- whom h hears, with itself -/
def hbL (rs : Rows) (h : Nat) : List Nat := (List.range rs.length).filter fun x => decide (x ∈ row rs h ∨ x = h)
theorem mem_hb {rs : Rows} (ok : Ok rs) {h x : Nat} (hh : h < rs.length) : x ∈ hbL rs h ↔ x ∈ row rs h ∨ x = h := by
  unfold hbL
  rw [List.mem_filter, List.mem_range, decide_eq_true_eq]
  refine ⟨fun z => z.2, fun z => ⟨?_, z⟩⟩
  rcases z with z | z
  · exact ok.row_lt z
  · rw [z]; exact hh
theorem asc_hb {rs : Rows} {h : Nat} : Asc (hbL rs h) := (asc_range _).filter _
theorem hb_len {rs : Rows} {h : Nat} : (hbL rs h).length ≤ rs.length := by
  unfold hbL
  exact Nat.le_trans (List.length_filter_le _ _) (by rw [List.length_range]; exact Nat.le_refl _)
theorem hb_perm {rs : Rows} (ok : Ok rs) {h : Nat} (hh : h < rs.length) : (hbL rs h).Perm (row rs h ++ [h]) := by
  refine (List.perm_ext_iff_of_nodup (asc_nodup asc_hb) ?_).mpr fun x => by rw [mem_hb ok hh, List.mem_append, List.mem_singleton]
  rw [List.nodup_append]
  refine ⟨asc_nodup (ok.row_asc h), by simp, fun a ha b hb => ?_⟩
  rw [List.mem_singleton] at hb
  subst hb
  exact fun z => ok.row_ne (z ▸ ha)
/-- what is told to h by qs and, before, by rs -/
def toldL (rs qs : Rows) (h : Nat) : List Nat := (flat (fun near => hbL rs near) (hbL qs h)).map (·.2)
def allL (rs qs : Rows) (h : Nat) : List Nat := (List.range rs.length).filter fun x => decide (x ∈ toldL rs qs h)
def thenRow (rs qs : Rows) (h : Nat) : List Nat := (allL rs qs h).filter fun x => !decide (x = h)
/-- rs and then qs -/
def thenR (rs qs : Rows) : Rows := (List.range rs.length).map (thenRow rs qs)
theorem then_len {rs qs : Rows} : (thenR rs qs).length = rs.length := by unfold thenR; rw [List.length_map, List.length_range]
def silentR (n : Nat) : Rows := List.replicate n []
end Ma

/-! RsD: dicts by tuples of ints: put, sorted. -/
namespace L2
open PySem PySem.Spec PyProof.Rows
variable [Rs.Tabz]
def dI (k : List Int) : PyData := .tuple (k.map .int)
theorem alike_rows {bs : List (Addr × List Int)} : PySem.W.AllAlike (bs.map fun z => dI z.2) := PySem.W.AllAlike.of fun a b => by
  show PySem.W.alike (.tuple _) (.tuple _) = true
  rw [PySem.W.alike]; exact PySem.W.alike_ints _ _
theorem dataLe_tups {β : Type} (x : β → List Int) : PySem.W.dataLe false (fun b => dI (x b)) = fun p q => decide (x p ≤ x q) := by
  funext p q
  show (!PySem.W.dataLt (.tuple ((x q).map .int)) (.tuple ((x p).map .int))) = _
  rw [PySem.W.dataLt_tuple]
  show (!PySem.W.rowLt ((x q).map .int) ((x p).map .int)) = _
  rw [PySem.W.dataLt_ints]
  by_cases h : x q < x p
  · have h' : ¬ x p ≤ x q := fun r => List.not_lt.mpr r h
    simp [h, h']
  · have h' : x p ≤ x q := List.not_lt.mp h
    simp [h, h']
def rSortedDT : List V → Hp → VK → Prop := fun xs H Q => ∃ (a : Addr) (kvs : List (List Key × V)) (ks : List (List Int)), xs = [.ref a] ∧ H a = some (.dT kvs) ∧ kvs.map (·.1) = ks.map (fun k => k.map Sum.inl) ∧ ks.length < 64 ∧ (∀ k ∈ ks, k ≠ []) ∧
    ∀ (bs : List (Addr × List Int)) (p : Addr), (∀ z ∈ bs, H z.1 = some (.tup (z.2.map V.int))) → (bs.map (·.2)).Perm ks → (bs.map (·.2)).Pairwise (· ≤ ·) → H p = none → Q (.ref p) (upd H p (.lst (bs.map fun z => V.ref z.1)))
section
variable {X : Cx}
theorem reads_ints {h : Heap} : ∀ {ks : List Int} {its : List Value}, Vals (ks.map V.int) its → ReadsAll h its (ks.map PyData.int) []
  | [], _, r => by cases r; exact .nil
  | k :: ks, _, r => by
    cases r with
    | cons r1 r2 =>
      obtain ⟨t, rfl⟩ := r1
      exact ReadsAll.cons (.int _ _) (reads_ints r2)
theorem kV_ints {k : List Int} : (k.map (Sum.inl : Int → Key)).map kV = k.map V.int := by rw [List.map_map]; rfl
theorem isKeys_zip {H : Hp} : ∀ {kvs : List (List Key × V)} {bs : List Addr} {ks : List (List Int)}, IsKeys H kvs bs → kvs.map (·.1) = ks.map (fun k => k.map Sum.inl) → bs.length = ks.length ∧ ∀ z ∈ bs.zip ks, H z.1 = some (.tup (z.2.map V.int))
  | [], _, ks, h, e => by
    cases h
    cases ks with
    | nil => exact ⟨rfl, fun z hz => by cases hz⟩
    | cons a l => cases e
  | p :: kvs, _, ks, h, e => by
    cases h with
    | cons h1 h2 =>
      cases ks with
      | nil => cases e
      | cons a l =>
        rw [List.map_cons, List.map_cons] at e
        injection e with e1 e2
        obtain ⟨q1, q2⟩ := isKeys_zip h2 e2
        refine ⟨by rw [List.length_cons, List.length_cons, q1], fun z hz => ?_⟩
        rw [List.zip_cons_cons] at hz
        rcases List.mem_cons.mp hz with rfl | hz
        · rw [h1]
          show some (HO.tup (p.1.map kV)) = _
          rw [e1, kV_ints]
        · exact q2 z hz
theorem eachIs_refs : ∀ {bs : List (Addr × List Int)}, PySem.W.EachIs (fun (v : Value) (z : Addr × List Int) => v = .ref z.1) (bs.map fun z => Value.ref z.1) bs
  | [] => .nil
  | _ :: _ => .cons rfl eachIs_refs
theorem eachIs_out : ∀ {bs : List (Addr × List Int)} {out : List Value}, PySem.W.EachIs (fun (v : Value) (z : Addr × List Int) => v = .ref z.1) out bs → out = bs.map fun z => Value.ref z.1
  | _, _, .nil => rfl
  | _, _, .cons h t => by rw [h, eachIs_out t]; rfl
theorem vals_refs2 : ∀ {bs : List (Addr × List Int)}, Vals (bs.map fun z => V.ref z.1) (bs.map fun z => Value.ref z.1)
  | [] => .nil
  | _ :: _ => .cons rfl vals_refs2
theorem call_sortedDT (hcalm : X.calm = true) (hu : X.A.units + 64 < cLine) : CallR X (.builtin "sorted") rSortedDT := by
  intro pins s σ H xs us Q I r q
  obtain ⟨a, kvs, ks, ex, hd, hks, h64, hne, q⟩ := q
  subst ex
  obtain ⟨u, eu, rx⟩ := vals1 r
  subst eu
  cases rx
  obtain ⟨z, lo, xs', pr, o, es, ep, ho, hx, hdt, he, hn⟩ := (show ObjOk X.prog X.w H s.heap a (.dT kvs) from I.hok a _ hd)
  have l1 : es.size = xs'.length := size_of_entries he
  have l2 : kvs.length = xs'.length := Paired.length pr
  have hk0 : IsKeys H kvs (xs'.map fun x => x.2.1) := isKeys_of pr
  obtain ⟨lz, hz⟩ := isKeys_zip hk0 hks
  rw [List.length_map] at lz
  refine Calls.call_function_entry PyProof.Rows.kind_sorted PyProof.Rows.plain_sorted PyProof.Rows.entry_sorted (PyProof.Rows.args_sorted1 _) ?_
  unfold Builtin.«sorted»
  refine wpAny_bind (m := checkCount "sorted" 1 1 _) (wpAny_pure ?_)
  refine wpAny_bind (PySem.W.kdu_collect (A := X.A.in1) (kdl_raw lo hx hdt) (I.ok.hd hcalm) ho (by omega) fun h' tk acc hk hacc => ?_)
  have ea : acc.toList = (xs'.map fun x => x.2.1).map Value.ref := by
    rw [List.map_map]
    have hl : acc.toList.length = xs'.length := by rw [Array.length_toList, hacc.1]; exact l1
    apply List.ext_getElem?
    intro j
    rw [List.getElem?_map]
    cases hj : acc.toList[j]? with
    | none =>
      have h1 := List.getElem?_eq_none_iff.mp hj
      rw [List.getElem?_eq_none (by omega)]
      rfl
    | some v =>
      obtain ⟨en, hen, hv⟩ := hacc.2 j v (by rw [← Array.getElem?_toList]; exact hj)
      have qe := entry_at he j
      rw [hen] at qe
      cases hb : xs'[j]? with
      | none =>
        rw [hb] at qe
        exact nomatch (show some en = none from qe)
      | some b =>
        rw [hb] at qe
        have e2 : en = entryOfKey (tupleKind (mixKind X.prog X.w)) b := Option.some.inj qe
        rw [hv, e2]
        rfl
  generalize hbs : (xs'.map fun x => x.2.1).zip ks = bs at hz
  have eb : acc.toList = bs.map fun z => Value.ref z.1 := by
    have e0 : (bs.map fun z => Value.ref z.1) = (bs.map Prod.fst).map Value.ref := by rw [List.map_map]; rfl
    rw [e0, ea, ← hbs, List.map_fst_zip (by rw [List.length_map]; omega)]
  have e2 : bs.map (·.2) = ks := by rw [← hbs, List.map_snd_zip (by rw [List.length_map]; omega)]
  have hlb : bs.length = ks.length := by rw [← e2, List.length_map]
  have I1 : Inv X pins σ H { s with heap := h', toks := tk } := I.kept hk
  have hal : acc.toList.length = ks.length := by rw [eb, List.length_map, hlb]
  refine wpAny_bind (wpAny_newList ?_ (by rw [hal, sizeLine_eq]; omega))
  have hoL : (h'.push (seqObj "list" acc.toList.toArray 0)).get? h'.objs.size = some (seqObj "list" acc.toList.toArray 0) := Heap.get?_push_size _ rfl
  have kb : ∀ b o, h'.get? b = some o → (h'.push (seqObj "list" acc.toList.toArray 0)).get? b = some o := fun b o e => Heap.get?_push_of_some _ e
  show wpAny _ _ _ _ _ { s with heap := h'.push (seqObj "list" acc.toList.toArray 0), toks := tk }
  refine wpAny_bind (wpAny_holding (PySem.W.list_sort_data (s := { s with heap := h'.push (seqObj "list" acc.toList.toArray 0), toks := tk }) (bs := bs) (enc := fun z => dI z.2) (R := fun v z => v = .ref z.1) hoL (eb ▸ eachIs_refs) ?er alike_rows ?so (by rw [hlb, sizeLine_eq]; omega) ?un fun out hlo ho' => ?_))
  case er =>
    have all : ∀ l : List (Addr × List Int), (∀ z ∈ l, z ∈ bs) → PySem.W.EachIs (fun (v : Value) (b : Addr × List Int) => ∃ as, Reads (h'.push (seqObj "list" acc.toList.toArray 0)) v (dI b.2) as ∧ h'.objs.size ∉ as) (l.map fun z => Value.ref z.1) l := by
      intro l
      induction l with
      | nil => intro _; exact .nil
      | cons z l ih =>
        intro hm
        refine .cons ⟨[], ?_, by simp⟩ (ih fun y hy => hm y (List.mem_cons_of_mem _ hy))
        obtain ⟨_, its, rv, ot, hot, hct, nt, hdt⟩ := (show ObjOk X.prog X.w H h' z.1 (.tup (z.2.map V.int)) from I1.hok _ _ (hz z (hm z List.mem_cons_self)))
        exact Reads.tuple (kb _ _ hot) hct hdt (by rw [List.toList_toArray]; exact reads_ints rv)
    have h1 := all bs fun z hz => hz
    rw [← eb] at h1
    exact h1
  case so =>
    refine .inl fun d hd => ?_
    obtain ⟨z, hz, rfl⟩ := List.mem_map.mp hd
    have hm : z.2 ∈ ks := e2 ▸ List.mem_map.mpr ⟨z, hz, rfl⟩
    have hn := hne _ hm
    cases ez : z.2 with
    | nil => exact absurd ez hn
    | cons a l => exact ⟨.int a, l.map .int, rfl⟩
  case un =>
    intro b hb
    have : (dI b.2).depth = 1 := by rw [dI, PyData.depth, PySem.W.depth_ints]
    rw [this]
    show X.A.in1.units + 1 + 1 < cLine
    have h1 : X.A.in1.units ≤ X.A.units + 1 := Nat.le_refl _
    omega
  have eo := eachIs_out ho'
  rw [dataLe_tups] at eo
  generalize hms : bs.mergeSort (fun p q => decide (p.2 ≤ q.2)) = ms at eo
  have hpm : ms.Perm bs := hms ▸ List.mergeSort_perm _ _
  have hmem : ∀ z ∈ ms, H z.1 = some (.tup (z.2.map V.int)) := fun z hm => hz z (hpm.mem_iff.mp hm)
  have hpw : (ms.map (·.2)).Pairwise (· ≤ ·) := by
    rw [List.pairwise_map]
    have := List.pairwise_mergeSort (le := fun (p q : Addr × List Int) => decide (p.2 ≤ q.2)) (fun a b c h1 h2 => by
      simp only [decide_eq_true_eq] at *; exact List.le_trans h1 h2) (fun a b => by
      simp only [Bool.or_eq_true, decide_eq_true_eq]; exact List.le_total _ _) bs
    rw [hms] at this
    exact this.imp fun h => of_decide_eq_true h
  have hml : ms.length = ks.length := by rw [hpm.length_eq, hlb]
  obtain ⟨e', he'⟩ := PyProof.Rows.sortedHeap_at (vs := acc.toList) (out := out.toArray) hoL
  have hlen : (ms.map fun z => V.ref z.1).length ≤ sizeLine := by rw [List.length_map, hml, sizeLine_eq]; omega
  refine wpAny_pure ⟨_, rfl, .ref h'.objs.size, upd H h'.objs.size (.lst (ms.map fun z => V.ref z.1)), I1.laid (t' := tk) (fun b u e => ?_) (Nat.le_refl _)
    (show ObjOk X.prog X.w _ _ _ (.lst (ms.map fun z => V.ref z.1)) from ⟨hlen, out, e', eo ▸ vals_refs2, he'⟩), rfl, q ms _ hmem (by rw [← e2]; exact hpm.map _) hpw (I1.hok.fresh (Nat.le_refl _))⟩
  have hb : b < h'.objs.size := Heap.lt_size e
  rw [PyProof.Rows.sortedHeap_old (Nat.ne_of_lt hb) (by rw [size_push']; exact Nat.lt_succ_of_lt hb)]
  exact Heap.get?_push_of_some _ e
end
end L2

/-! RsE: runs over dicts by tuples of ints. -/
namespace Rs
open PySem PySem.Spec PyProof.Rows L2 SlX StX Ma
variable [Rs.Tabz]
section
variable {X : Cx} {e : Expr} {es : List Expr} {t : TA} {p pos : Pos}
theorem p_sortedDT (hc : X.calm = true) (hu : X.A.units + 64 < cLine) (B : Bf X.mg) (ha : PA X (e :: es) t) (hg : Gl X "sorted" := by rfl) (he : starEach (e :: es) X.env = (false, eval e X.env) :: starEach es X.env := by rfl) (hpl : (backTo pos (starEach es X.env)).any (·.1) = false := by rfl) :
    PE X (.Call (.Name "sorted" p) (e :: es) [] pos) (tCB rSortedDT t) := pe_callB (call_sortedDT hc hu) hg B.sorted boot_sorted ha (by decide) (by decide) he hpl
end
/-- a tuple that stands as .tup -/
def Tn (Rs : List VP) : VP := fun v F => ∃ a vs, v = .ref a ∧ F a = some (.tup vs) ∧ Each Rs vs F
instance {Rs : List VP} [MonoL Rs] : Mono (Tn Rs) := ⟨fun _ _ _ e ⟨a, vs, h, s, r⟩ => ⟨a, vs, h, e _ _ s, MonoL.mono _ _ _ e r⟩⟩
section
variable {K : PySem.W.Frag} {σ : L2.St} {F : Hp} {L : Cells} {R : VP} {Rs : List VP} {t : TA} {te ty td tv : TE} {Nx : L2.St → Hp → Cells → Prop} {Rt : VP} {u : TS}
theorem Tn.tp {v : V} {F : Hp} (h : Tn Rs v F) : Tp K Rs v F := by
  obtain ⟨a, vs, rfl, h1, h2⟩ := h
  exact ⟨a, vs, rfl, .inl (.inl h1), h2⟩
theorem r_tupTn [MonoL Rs] (h : Run (t σ) F L (Each [Ls K Rs])) : Run (tCB (rTupOf K) t σ) F L (Tn Rs) := r_cb h fun vs F1 e1 hv => by
  obtain ⟨v, rfl, a, ws, rfl, hs, hr⟩ := each1 hv
  exact fun F2 N H e A Q q => ⟨a, ws, rfl, .inl ⟨sqL_up (e.trans A.ex) hs, fun p hp => q _ (upd F2 p _) _ (same_new (A.free hp)) (A.new hp) ⟨p, ws, rfl, upd_same, MonoL.mono _ _ _ (e.trans (same_new (A.free hp))) hr⟩⟩⟩
theorem x_dnewT {P : V → Hp → Cells → Prop} (h : ∀ p F1, Same F F1 → P (.ref p) F1 ((p, .dT []) :: L)) : RunX (tDNewT σ) F L P := fun F1 N H e A Q q p hp =>
  q (.ref p) F1 ((p, .dT []) :: L) _ (Same.refl _) (A.cell hp) (h p F1 e)
abbrev kT (k : List Int) : List Key := k.map Sum.inl
theorem kT_inj {a b : List Int} (h : kT a = kT b) : a = b := by
  induction a generalizing b with
  | nil => cases b with
    | nil => rfl
    | cons x y => cases h
  | cons x y ih => cases b with
    | nil => cases h
    | cons x' y' =>
      rw [kT, List.map_cons, kT, List.map_cons] at h
      injection h with h1 h2
      rw [Sum.inl.inj h1, ih h2]
theorem s_dputT {d : Addr} {kvs : List (List Key × V)} {k : List Int} {v : V} (hv : Run (tv σ) F ((d, .dT kvs) :: L) (Eqv v)) (hd : Run (td σ) F ((d, .dT kvs) :: L) (Eqv (.ref d))) (hk : Run (ty σ) F ((d, .dT kvs) :: L) R) (hR : ∀ x F1, R x F1 → ∃ b, x = .ref b ∧ F1 b = some (.tup (k.map V.int))) (hl : kvs.length < 100000)
    (c : ∀ F1, Same F F1 → Nx σ F1 ((d, .dT (putK kvs (kT k) v)) :: L)) : RunS (sDPut td ty tv) σ F ((d, .dT kvs) :: L) Nx Rt := fun F1 N H e A D q r =>
  hv F1 N H e A _ fun x F2 H2 e2 A2 hx => hd F2 N H2 (e.trans e2) A2 _ fun y F3 H3 e3 A3 hy => hk F3 N H3 ((e.trans e2).trans e3) A3 _ fun z F4 H4 e4 A4 hz => by
    cases hx
    cases hy
    obtain ⟨b, rfl, hb⟩ := hR _ _ hz
    refine ⟨d, _, rfl, DPut.t (k := kT k) (At.on1 A4) (A4.ex _ _ (by rw [hb, kV_ints])) (len_lt hl), ?_⟩
    exact q _ F4 _ _ ((e2.trans e3).trans e4) (At.put A4) (c F4 (((e.trans e2).trans e3).trans e4))
/-- cells stay apart from tuples: what is told of tuples stays told -/
theorem at_tups {F : Hp} {L : Cells} {H : Hp} (A : At F L H) : ∀ bs : List (Addr × List Int), (∀ z ∈ bs, H z.1 = some (.tup (z.2.map V.int))) → ∃ F', Same F F' ∧ At F' L H ∧ ∀ z ∈ bs, F' z.1 = some (.tup (z.2.map V.int))
  | [], _ => ⟨F, Same.refl F, A, fun z h => by cases h⟩
  | z :: bs, h => by
    obtain ⟨F', e, A', h'⟩ := at_tups A bs fun y hy => h y (List.mem_cons_of_mem _ hy)
    have hz := h z List.mem_cons_self
    have ne : ∀ p ∈ L, p.1 ≠ z.1 := fun p hp q => by
      have h1 := A.on p hp
      rw [q, hz] at h1
      exact A.nt p hp _ (Option.some.inj h1).symm
    have s1 : Same F' (upd F' z.1 (.tup (z.2.map V.int))) := fun b o eb => by
      by_cases hb : b = z.1
      · subst hb
        have := A'.ex _ _ eb
        rw [hz] at this
        rw [upd_same]; exact this
      · rw [upd_ne hb]; exact eb
    refine ⟨upd F' z.1 (.tup (z.2.map V.int)), e.trans s1, ⟨fun b o eb => ?_, A'.on, fun p hp => by rw [upd_ne (ne p hp)]; exact A'.off p hp, A'.nd, A'.nt, A'.nb, A'.nc, A'.tb.same s1, fun P hP => by rw [upd_ne (A'.notT hP (.inr ⟨_, hz, fun ps q => nomatch q⟩))]; exact A'.ft P hP⟩, fun y hy => ?_⟩
    · by_cases hb : b = z.1
      · subst hb; rw [upd_same] at eb; rw [← eb]; exact hz
      · rw [upd_ne hb] at eb; exact A'.ex b o eb
    · rcases List.mem_cons.mp hy with rfl | hy
      · exact upd_same
      · exact s1 _ _ (h' y hy)
theorem r_sortedDT {d : Addr} {kvs : List (List Key × V)} {ks : List (List Int)} (hm : (d, HO.dT kvs) ∈ L) (h : Run (t σ) F L (Each [Eqv (.ref d)])) (hk : kvs.map (·.1) = ks.map kT) (hl : ks.length < 64) (hne : ∀ k ∈ ks, k ≠ []) (os : List (List Int)) (h1 : os.Perm ks) (h2 : os.Pairwise (· ≤ ·)) :
    Run (tCB rSortedDT t σ) F L (Dt K (.list (os.map dI))) := r_cb h fun vs F1 e1 hv => by
  obtain ⟨v, rfl, hv1⟩ := each1 hv
  cases hv1
  refine fun F2 N H e A Q q => ⟨d, kvs, ks, rfl, At.mem A hm, hk, hl, hne, fun bs p hb hp hw hn => ?_⟩
  obtain ⟨F3, e3, A3, hb3⟩ := at_tups A bs hb
  have e : bs.map (·.2) = os := List.Perm.eq_of_pairwise (le := (· ≤ ·)) (fun a b _ _ x y => List.le_antisymm x y) hw h2 (hp.trans h1.symm)
  refine q _ (upd F3 p _) _ (e3.trans (same_new (A3.free hn))) (A3.new hn) ?_
  have s4 : Same F3 (upd F3 p (.lst (bs.map fun z => V.ref z.1))) := same_new (A3.free hn)
  refine ls_dt.mp ⟨p, _, rfl, .inl (.inl upd_same), ?_⟩
  rw [← e, List.map_map, List.map_map]
  have all : ∀ l : List (Addr × List Int), (∀ z ∈ l, z ∈ bs) → Each (l.map fun z => Dt K (dI z.2)) (l.map fun z => V.ref z.1) (upd F3 p (.lst (bs.map fun z => V.ref z.1))) := by
    intro l
    induction l with
    | nil => intro _; exact True.intro
    | cons z l ih =>
      intro hz
      refine ⟨tp_dt.mp ⟨z.1, _, rfl, .inl (.inl (s4 _ _ (hb3 z (hz z List.mem_cons_self)))), each_dt.mpr ints_vs⟩, ih fun y hy => hz y (List.mem_cons_of_mem _ hy)⟩
  exact all bs fun z hz => hz
end
end Rs

/-! RsC: a list of ints that is written by callees, told as a thing that stays. -/
namespace Rs
open PySem PySem.Spec PyProof.Rows L2 SlX StX Ma
variable [Rs.Tabz]
/-- a list of n whole numbers, whichever -/
def ckO (n : Nat) (a : Addr) : HO := .ext fun h => ∃ (xs : List Int) (its : List Value) (c : Nat), xs.length = n ∧ Vals (xs.map V.int) its ∧ h.get? a = some { cls := .type "list", data := .seq its.toArray c }
def Ck (n : Nat) : VP := fun v F => ∃ a, v = .ref a ∧ F a = some (ckO n a)
instance {n : Nat} : Mono (Ck n) := ⟨fun _ _ _ e ⟨a, h, h1⟩ => ⟨a, h, e _ _ h1⟩⟩
section
variable {P : Program} {w : World} {K : PySem.W.Frag} {mg : Str → Option Value} {base : Heap} {A : Around} {outer : List Env} {s s' : Shared} {H H' : Hp} {a : Addr} {n : Nat}
theorem ck_open {h : Heap} (ok : HOk P w H h) (ha : H a = some (ckO n a)) (hn : n ≤ 1000) : ∃ xs : List Int, xs.length = n ∧ HOk P w (upd H a (.lst (xs.map V.int))) h := by
  obtain ⟨⟨xs, its, c, h1, h2, h3⟩, _⟩ := ok a _ ha
  refine ⟨xs, h1, ok.write (by rw [ha]; exact True.intro) (.inl rfl) (fun b u _ e => e) ⟨_, h3⟩ ⟨by rw [List.length_map, sizeLine_eq]; omega, its, c, h2, h3⟩⟩
theorem ck_shut {h : Heap} {xs : List Int} (ok : HOk P w H h) (ha : H a = some (.lst (xs.map V.int))) (hn : xs.length = n) : HOk P w (upd H a (ckO n a)) h := by
  obtain ⟨_, its, c, h2, h3⟩ := ok a _ ha
  refine ok.write (by rw [ha]; exact True.intro) (.inl rfl) (fun b u _ e => e) ⟨_, h3⟩ ⟨⟨xs, its, c, hn, h2, h3⟩, ⟨_, h3⟩, fun h1 h2 ⟨xs, its, c, q1, q2, q3⟩ st => ⟨xs, its, c, q1, q2, st _ q3⟩⟩
theorem un_same {fs : List Addr} {o : HO} {h : Heap} {u : Obj} (mu : Mut (H a)) (hu : h.get? a = some u) : Un fs [] H (upd H a o) h h := Un.write mu (.inl rfl) (fun b u _ e => e) ⟨_, hu⟩
theorem lst_at {h : Heap} {xs : List V} (ok : HOk P w H h) (ha : H a = some (.lst xs)) : ∃ u, h.get? a = some u := by
  obtain ⟨_, its, c, h2, h3⟩ := ok a _ ha
  exact ⟨_, h3⟩
theorem ck_at {h : Heap} (ok : HOk P w H h) (ha : H a = some (ckO n a)) : ∃ u, h.get? a = some u := by
  obtain ⟨_, h3, _⟩ := ok a _ ha
  exact h3
theorem env_cast {o : HO} (e : Env0 P w K mg base A outer s H) (ha : H a ≠ none) (ok : HOk P w (upd H a o) s.heap) : Env0 P w K mg base A outer s (upd H a o) :=
  ⟨e.frames, e.mod, fun b ob q => ⟨(e.bs b ob q).1, by
    have h1 := (e.bs b ob q).2
    rw [upd_ne (fun z : b = a => ha (by rw [← z]; exact h1))]; exact h1⟩, e.bsz, e.funs, fun b hb => by
    have h1 := e.frf b hb
    rw [upd_ne (fun z : b = a => ha (by rw [← z]; exact h1))]; exact h1, ok, e.bare⟩
theorem cr_cast {Q Q' : VK} {E : XK} {H0 : Hp} {r : Result} (u0 : Un (frs outer) [] H H0 s.heap s.heap) (h : CR CX0 outer P w H0 s Q' E r s') (c : ∀ v H', HOk P w H' s'.heap → Q' v H' → ∃ H'', Un (frs outer) [] H' H'' s'.heap s'.heap ∧ HOk P w H'' s'.heap ∧ Q v H'') :
    CR CX0 outer P w H s Q E r s' := by
  cases r with
  | error e => exact (show False from h).elim
  | ok fl =>
    cases fl with
    | ret u =>
      obtain ⟨v, H', e1, e2, e3, e4, e5, e6⟩ := h
      obtain ⟨H'', f1, f2, f3⟩ := c v H' e4 e6
      exact ⟨v, H'', e1, e2, (u0.trans e3).trans f1, f2, e5, f3⟩
    | next => exact h
    | brk => exact h
    | cont => exact h
/-- a def that writes to its first argument, a list of ints of one's own -/
def SpC {γ : Type} (n : Nat) (pre : γ → Prop) (Rs : γ → List VP) (R : γ → VP) : Sp := fun vs H Q _ => ∃ (g : γ) (F : Hp) (N : Cells) (a : Addr) (xs : List Int) (ws : List V), vs = .ref a :: ws ∧ pre g ∧ xs.length = n ∧ At F ((a, .lst (xs.map V.int)) :: N) H ∧ Each (Rs g) ws F ∧
  ∀ v F' H' (xs' : List Int), xs'.length = n → Same F F' → At F' ((a, .lst (xs'.map V.int)) :: N) H' → R g v F' → Q v H'
def del (F : Hp) (a : Addr) : Hp := fun b => if b = a then none else F b
theorem ck_fn {γ : Type} {pre : γ → Prop} {Rs : γ → List VP} {R : γ → VP} {k : Nat} {f : Addr} {fd : FuncData} {ps : List Str} (hn : n ≤ 1000) (hR : ∀ g v F F', R g v F → R g v F') (hRs : ∀ g vs F F', Each (Rs g) vs F → Each (Rs g) vs F')
    (G : FnOk P w K mg base CX0 k f fd ps (SpC n pre Rs R)) (len : ∀ g, (Rs g).length + 1 = ps.length) : FnOk P w K mg base CX0 k f fd ps (SpF pre (fun g => Ck n :: Rs g) R) := by
  refine ⟨fun vs H Q E ⟨g, F0, N0, hp, A, hv, q⟩ => (each_length hv).trans (len g), fun A outer s H args us vs Q E hr e0 hb r hs => ?_⟩
  obtain ⟨g, F, N, hp, hA, hv, q⟩ := hs
  obtain ⟨v, ws, rfl, ⟨a, rfl, ha⟩, hw⟩ := each_cons hv
  have hHa : H a = some (ckO n a) := hA.ex _ _ ha
  obtain ⟨xs, hx, ok1⟩ := ck_open e0.hok hHa hn
  have e1 : Env0 P w K mg base A outer s (upd H a (.lst (xs.map V.int))) := env_cast e0 (by rw [hHa]; intro z; cases z) ok1
  obtain ⟨u, hu⟩ := ck_at e0.hok hHa
  have Nne : ∀ p ∈ N, p.1 ≠ a := fun p hm z => by
    have h1 := hA.off p hm
    rw [z, ha] at h1; cases h1
  refine codeAny_mono (G.run A outer s _ args us _ (fun v H' => ∃ (F' : Hp) (xs' : List Int), xs'.length = n ∧ Same (del F a) F' ∧ At F' ((a, .lst (xs'.map V.int)) :: N) H' ∧ R g v F') E hr e1 hb r
    ⟨g, del F a, N, a, xs, ws, rfl, hp, hx, ?_, hRs g ws F _ hw, fun v F' H' xs' h1 h2 h3 h4 => ⟨F', xs', h1, h2, h3, h4⟩⟩) fun r s' hq => cr_cast (un_same (by rw [hHa]; exact True.intro) hu) hq fun v H' ok' ⟨F', xs', h1, h2, h3, h4⟩ => ?_
  · have nT : ∀ P, Tabz.ts P → P ≠ a := fun P hP => hA.notT hP (.inr ⟨_, hHa, fun ps q => by unfold ckO at q; nomatch q⟩)
    refine ⟨fun b o eb => ?_, fun p hm => ?_, fun p hm => ?_, ?_, fun p hm => ?_, fun p hm => ?_, fun p hm => ?_, (hA.tb.upd nT).up fun c q hc => ?_, fun P hP => by unfold del; rw [if_neg (nT P hP)]; exact hA.ft P hP⟩
    · unfold del at eb
      split at eb
      · cases eb
      · rename_i hne
        rw [upd_ne hne]; exact hA.ex _ _ eb
    · rcases List.mem_cons.mp hm with rfl | hm
      · exact upd_same
      · rw [upd_ne (Nne p hm)]; exact hA.on p hm
    · rcases List.mem_cons.mp hm with rfl | hm
      · unfold del; rw [if_pos rfl]
      · unfold del; rw [if_neg (Nne p hm)]; exact hA.off p hm
    · rw [List.map_cons, List.nodup_cons]
      refine ⟨fun z => ?_, hA.nd⟩
      obtain ⟨p, hm, e⟩ := List.mem_map.mp z
      exact Nne p hm e
    · rcases List.mem_cons.mp hm with rfl | hm
      · intro ys z; nomatch z
      · exact hA.nt p hm
    · rcases List.mem_cons.mp hm with rfl | hm
      · intro ys z; nomatch z
      · exact hA.nb p hm
    · rcases List.mem_cons.mp hm with rfl | hm
      · intro c q z; nomatch z
      · exact hA.nc p hm
    · have hne : c ≠ a := fun z => by
        subst z
        rw [ha] at hc
        exact codeT_ne (fun h ⟨xs, its, n, _, _, h1⟩ => ⟨_, _, h1, fun vs z => by cases z⟩) (Option.some.inj hc)
      show (if c = a then none else F c) = _
      rw [if_neg hne]; exact hc
  · have hH' : H' a = some (.lst (xs'.map V.int)) := h3.on1
    obtain ⟨u', hu'⟩ := lst_at ok' hH'
    refine ⟨upd H' a (ckO n a), un_same (by rw [hH']; exact True.intro) hu', ck_shut ok' hH' h1, ?_⟩
    have A4 : At (upd F' a (ckO n a)) N (upd H' a (ckO n a)) := At.swap (u := ckO n a) h3 (by intro ys z; unfold ckO at z; nomatch z)
    refine q v (upd F' a (ckO n a)) _ (fun b o eb => ?_) A4 (hR g v F' _ h4)
    by_cases hba : b = a
    · subst hba; rw [upd_same, ← ha]; exact eb
    · rw [upd_ne hba]
      refine h2 b o ?_
      unfold del; rw [if_neg hba]; exact eb
/-- a def that hands out a new list of ints -/
theorem ck_new {γ : Type} {pre : γ → Prop} {Rs : γ → List VP} {k : Nat} {x qual : Str} {st : Stmt} {f : Addr} {fd : FuncData} {N ps : List Str} (F : Fun K x qual st f fd) (S : FnScope N ps (defScope st)) (len : ∀ g, (Rs g).length = ps.length)
    (body : ∀ (cdv : Value) (A : Around) (outer : List Env) (s : Shared) (H : Hp) (E : XK) (g : γ) (vs : List V) (F0 : Hp), Room k (A.deeper (envOfC qual (defScope st) s.heap.objs.size f cdv)) → pre g → Each (Rs g) vs F0 →
      ∃ t, PSs (cxOf CX0 P w K mg base N qual (defScope st) f cdv A outer s H E).nox (defBody st) t ∧ RunS t (start N vs) F0 [] (fun _ _ _ => False) (fun v F' => ∃ (a : Addr) (xs : List Int), v = .ref a ∧ F' a = some (.lst (xs.map V.int)) ∧ xs.length = n ∧ F0 a = none)) :
    FnOk P w K mg base CX0 (k + 1) f fd ps (SpF pre Rs (fun _ => Ck n)) := by
  have G : FnOk P w K mg base CX0 (k + 1) f fd ps (fun vs H Q _ => ∃ g F N, pre g ∧ At F N H ∧ Each (Rs g) vs F ∧ ∀ v F' H', Same F F' → At F' N H' → (∃ (a : Addr) (xs : List Int), v = .ref a ∧ F' a = some (.lst (xs.map V.int)) ∧ xs.length = n ∧ F a = none) → Q v H') := by
    refine F.ok S (fun vs H Q E ⟨g, F0, N0, hp, A, hv, q⟩ => (each_length hv).trans (len g)) fun cdv A outer s H vs Q E hr ⟨g, F0, N0, hp, A0, hv, q⟩ => ?_
    obtain ⟨t, h1, h2⟩ := body cdv A outer s H E g vs F0 hr hp hv
    exact ⟨t, h1, h2 F0 N0 H (Same.refl _) A0 _ (fun _ F' L' H' e' A' n => n.elim) fun v F' H' e' A' r => q v F' H' e' A' r⟩
  refine ⟨fun vs H Q E ⟨g, F0, N0, hp, A, hv, q⟩ => (each_length hv).trans (len g), fun A outer s H args us vs Q E hr e0 hb r hs => ?_⟩
  obtain ⟨g, F, N, hp, hA, hv, q⟩ := hs
  refine codeAny_mono (G.run A outer s _ args us _ (fun v H' => ∃ (F' : Hp) (a : Addr) (xs : List Int), v = .ref a ∧ Same F F' ∧ At F' N H' ∧ F' a = some (.lst (xs.map V.int)) ∧ xs.length = n ∧ F a = none) E hr e0 hb r
    ⟨g, F, N, hp, hA, hv, fun v F' H' h1 h2 ⟨a, xs, h3, h4, h5, h6⟩ => ⟨F', a, xs, h3, h1, h2, h4, h5, h6⟩⟩) fun r s' hq => cr_cast (Un.refl) hq fun v H' ok' ⟨F', a, xs, h3, h1, h2, h4, h5, h6⟩ => ?_
  have hH' : H' a = some (.lst (xs.map V.int)) := h2.ex _ _ h4
  obtain ⟨u', hu'⟩ := lst_at ok' hH'
  subst h3
  refine ⟨upd H' a (ckO n a), un_same (by rw [hH']; exact True.intro) hu', ck_shut ok' hH' h5, q (.ref a) (upd F' a (ckO n a)) _ (fun b o eb => ?_) ?_ ⟨a, rfl, upd_same⟩⟩
  · rw [upd_ne (fun z => by rw [z, h6] at eb; cases eb)]; exact h1 b o eb
  · have Nne : ∀ p ∈ N, p.1 ≠ a := fun p hm z => by
      have := h2.off p hm
      rw [z, h4] at this; cases this
    refine ⟨fun b o eb => ?_, fun p hm => by rw [upd_ne (Nne p hm)]; exact h2.on p hm, fun p hm => by rw [upd_ne (Nne p hm)]; exact h2.off p hm, h2.nd, h2.nt, h2.nb, h2.nc, (h2.tb.upd fun P hP => h2.notT hP (.inr ⟨_, hH', fun ps q => nomatch q⟩)).up fun c q hc => (upd_ne (fun z => by rw [z, h4] at hc; cases hc)).trans hc, fun P hP => by rw [upd_ne (h2.notT hP (.inr ⟨_, hH', fun ps q => nomatch q⟩))]; exact h2.ft P hP⟩
    by_cases hba : b = a
    · subst hba; rw [upd_same] at eb ⊢; exact eb
    · rw [upd_ne hba] at eb ⊢; exact h2.ex b o eb
end
end Rs

/-! RsN: own == and !=, in of tuples of data, powers. -/
namespace Nq
open PySem PySem.Spec PyProof.Rows L2 SlX
variable [Rs.Tabz]
section
variable {prog : Program} {w : World} {A : Around} {E : Value → Shared → Prop} {s : Shared} {K : PySem.W.Frag} {x C L f : Addr} {h₀ : Heap} {m : Str → Option Value} {ox : Obj} {od : Option Obj} {b tb : Value}
theorem bound_ne {M : Model} {args : List Value} {Q : Option Value → Shared → Prop} (X : K.In s.heap) (I : PySem.W.InstAt s.heap x ox C od) (hs : PySem.W.findIn K (.ref C) "__ne__" = some (some (.builtin "object.__ne__")))
    (h : wpAny M A (call (.builtin "object.__ne__") (.ref x :: args)) (fun v => Q (some v)) E s) : wpAny M A (callSpecialIfBound? (.ref x) "__ne__" args) Q E s := by
  simp only [callSpecialIfBound?, bindSpecialIfBound?]
  refine wpAny_holding (wpAny_bind (wpAny_bind (wpAny_bind (I.type.here ((PySem.W.looks_findIn X hs).here ?_)))))
  simp only [F.cmp_object.ne.bind]
  refine wpAny_bind (wpAny_askSetting (wpAny_ite ?_))
  have fin : wpAny M A (call (.builtin "object.__ne__") ([.ref x] ++ args) >>= fun v => pure (some v)) Q E s := wpAny_bind (wpAny_mono h (fun v s' h' => wpAny_pure h') fun _ _ h' => h')
  split
  · exact wpAny_bind (wpAny_pure (wpAny_pure (by exact fin)))
  · exact wpAny_tryCatch (wpAny_bind (wpAny_pure (wpAny_pure (by exact fin))))
theorem ne_body {Q : Fin → Shared → Prop} (hu : A.units < cLine) (X : K.In s.heap) (I : PySem.W.InstAt s.heap x ox C od) (hs : PySem.W.findIn K (.ref C) "__eq__" = some (some (.ref f))) (hf : PySem.W.isFn K (.ref f) = true)
    (h : wpAny (model prog w) A (call (.ref f) [.ref x, b]) (fun v s' => ∃ c, v = .bool c ∧ Q (.done (.ret (.bool (!c)))) s') E s) : wpAny (model prog w) A (Builtin.«object.__ne__» ⟨[.ref x, b], []⟩) Q E s := by
  show wpAny _ _ (cRoomFor "comparison" [.ref x, b] >>= _) _ _ _
  refine wpAny_bind (wpAny_cRoomFor hu ?_)
  refine wpAny_bind (PySem.W.ifBound_K X I hs hf (wpAny_mono h (fun v s' hv => ?_) fun _ _ e => e))
  obtain ⟨c, rfl, q⟩ := hv
  show wpAny _ _ (truthy (.bool c) >>= _) _ _ _
  exact wpAny_bind (wpAny_truthy_bool (wpAny_pure q))
theorem ne_K {Q : Value → Shared → Prop} (hu : A.units + 1 < cLine) (F : Fr h₀ L s.heap m) (X₀ : K.In h₀) (I : PySem.W.InstAt s.heap x ox C od) (hb : PySem.W.Looks (model prog w) s.heap (typeOf b) tb) (hn : PySem.W.notFirst K C tb = true)
    (hs : PySem.W.findIn K (.ref C) "__ne__" = some (some (.builtin "object.__ne__"))) (hsub : PySem.W.mroIn K C (.type "object") = some true) (he : PySem.W.findIn K (.ref C) "__eq__" = some (some (.ref f))) (hf : PySem.W.isFn K (.ref f) = true)
    (h : wpAny (model prog w) A.in1 (call (.ref f) [.ref x, b]) (fun v s' => ∃ c, v = .bool c ∧ Q (.bool (!c)) s') E s) : wpAny (model prog w) A (richCompare .NotEq (.ref x) b) Q E s := by
  have X := X₀.keeps F.keep
  have one : wpAny (model prog w) A (tryCompare (.ref x) (cmpInfo .NotEq).2.1 b) (fun r s' => ∃ v, r = some v ∧ Q v s') E s := by
    unfold tryCompare
    refine wpAny_bind (bound_ne X I hs (wpAny_call (codeAny_call_builtin PySem.F.cmp_object.ne.plain PySem.F.cmpEntry_ne (PySem.W.check_slot PySem.F.cmpKind_ne PySem.F.cmpSplit_ne (I.type.andThen (PySem.W.looks_mroIn X hsub)) (PySem.F.cmpArgs_ne _ _)
      (ne_body (A := A.in1) (by show A.units + 1 < cLine; exact hu) X I he hf (wpAny_mono h (fun v s' hv => ?_) fun _ _ e => e))))))
    obtain ⟨c, rfl, q⟩ := hv
    first | exact ⟨c, rfl, wpAny_pure ⟨_, rfl, q⟩⟩ | exact ⟨c, rfl, ⟨_, rfl, q⟩⟩
  unfold richCompare
  simp only [oneThing_ref]
  refine wpAny_holding (wpAny_bind (wpAny_cRoomFor (by omega) ?_))
  refine wpAny_bind (I.type.here (wpAny_bind (hb.here ?_)))
  split
  · rename_i q
    have e : PySem.W.subIn K tb (.ref C) = some false := by
      rcases Bool.or_eq_true_iff.mp hn with e | e
      · rw [beq_iff_eq.mp e] at q; simp at q
      · exact beq_iff_eq.mp e
    refine wpAny_bind ((PySem.W.looks_subIn X e).here ?_)
    simp only [Bool.false_eq_true, if_false]
    refine wpAny_bind (wpAny_mono one (fun r s' z => ?_) fun _ _ e => e)
    obtain ⟨v, rfl, hq⟩ := z
    exact wpAny_pure hq
  · refine wpAny_bind (wpAny_pure ?_)
    simp only [Bool.false_eq_true, if_false]
    refine wpAny_bind (wpAny_mono one (fun r s' z => ?_) fun _ _ e => e)
    obtain ⟨v, rfl, hq⟩ := z
    exact wpAny_pure hq
end
/-- x != y by the class's own == -/
def rNeOwn (K : PySem.W.Frag) (C : Addr) (sp : Sp) (E : XK) : R2 := fun x y H Q => ∃ a dx vs b C' dy ws, x = .ref a ∧ y = .ref b ∧ Slt H a C dx vs ∧ Slt H b C' dy ws ∧ PySem.W.notFirst K C (.ref C') = true ∧ sp [x, y] H (fun v H' => ∃ c, v = .bl c ∧ Q (.bl (!c)) H') E
section
variable {X : Cx} {CX : CXT} {C g : Addr} {n : Nat} {sp : Sp} {E : XK}
theorem op_neOwn (hs : PySem.W.findIn X.K (.ref C) "__ne__" = some (some (.builtin "object.__ne__"))) (hsub : PySem.W.mroIn X.K C (.type "object") = some true) (he : PySem.W.findIn X.K (.ref C) "__eq__" = some (some (.ref g))) (hf : PySem.W.isFn X.K (.ref g) = true) (F : FnR X.prog X.w X.K X.mg X.base CX n g sp)
    (hr : Room (n + 1) X.A) (hx : Passes CX X E) : OpR X (compareOp .NotEq) (rNeOwn X.K C sp E) := by
  intro pins s σ H x y v u Q I rx ry h
  obtain ⟨a, dx, vs, b, C', dy, ws, rfl, rfl, ha, hb, hn, q⟩ := h
  cases (show v = Value.ref a from rx)
  cases (show u = Value.ref b from ry)
  obtain ⟨sl, od, _, J, _⟩ := slt_inst I ha
  obtain ⟨sl', od', _, J', _⟩ := slt_inst I hb
  obtain ⟨m, hF⟩ := I.fr
  have hu := hr.units
  unfold compareOp
  refine ne_K (by omega) hF I.ok.mod.kin J J'.type hn hs hsub he hf ?_
  refine wpAny_mono (wpAny_call (SlX.run_at (us := [.ref a, .ref b]) (ws := [.ref a, .ref b]) F hr.in1 I.env0.in1 hx I (.cons rfl (.cons rfl .nil)) q)) (fun w s' z => ?_) fun _ _ x => x
  obtain ⟨z', H', I', rz, c, rfl, qz⟩ := z
  obtain rfl : w = Value.bool c := rz
  exact ⟨c, rfl, .bl (!c), H', I', rfl, qz⟩
def CPowX (i j : Int) : Prop := 0 ≤ j ∧ (Builtin.Int.intBits i : Int) * j ≤ 2 ^ 27
theorem op_powX : OpR X (binaryOp .Pow) (rI CPowX fun i j => .int (i ^ j.toNat)) := opI fun _ _ _ _ _ _ _ hc q => pow_int hc.1 hc.2 q
end
end Nq

/-! RsO: runs over lists of objects, own == and !=, written lists. -/
namespace Rs
open PySem PySem.Spec PyProof.Rows L2 SlX StX Ma
variable [Rs.Tabz]
structure EqS (P : Program) (w : World) (K : PySem.W.Frag) (mg : Str → Option Value) (base : Heap) (k : Nat) (C : Addr) (sp : Sp) : Prop where
  ex : ∃ g, PySem.W.findIn K (.ref C) "__ne__" = some (some (.builtin "object.__ne__")) ∧ PySem.W.mroIn K C (.type "object") = some true ∧ PySem.W.findIn K (.ref C) "__eq__" = some (some (.ref g)) ∧ PySem.W.isFn K (.ref g) = true ∧ FnR P w K mg base CX0 k g sp
section
variable {X : Cx}
theorem op_eqO {k j : Nat} {C : Addr} {sp : Sp} (c : EqS X.prog X.w X.K X.mg X.base k C sp) (hr : Room j X.A) (hk : k + 1 ≤ j) : OpR X (compareOp .Eq) (rOwn X.K C sp E0) := by
  obtain ⟨g, h1, h2, h3, h4, F⟩ := c.ex
  exact op_own (op := .Eq) (fun _ _ => rfl) h3 h4 F (hr.mono (by omega)) pass0
theorem op_neO {k j : Nat} {C : Addr} {sp : Sp} (c : EqS X.prog X.w X.K X.mg X.base k C sp) (hr : Room j X.A) (hk : k + 1 ≤ j) : OpR X (compareOp .NotEq) (Nq.rNeOwn X.K C sp E0) := by
  obtain ⟨g, h1, h2, h3, h4, F⟩ := c.ex
  exact Nq.op_neOwn h1 h2 h3 h4 F (hr.mono hk) pass0
end
section
variable {K : PySem.W.Frag} {σ : L2.St} {F : Hp} {L : Cells} {R : VP} {ta tb te : TE} {C : Addr} {E : XK} {S1 S2 : VP}
/-! lists -/
theorem r_cat {α : Type} {f : α → VP} [∀ x, Mono (f x)] {xs ys : List α} (ha : Run (ta σ) F L (Ln (xs.map f))) (hb : Run (tb σ) F L (Ln (ys.map f))) (h1 : xs.length + ys.length ≤ 10000) : Run (tOp rCat ta tb σ) F L (Ln ((xs ++ ys).map f)) :=
  r_op ha hb fun x y F1 e hx' hy => fun F2 N H e2 A Q q => by
    obtain ⟨a, vs, rfl, hs, hr⟩ := hx'
    obtain ⟨b, ws, rfl, hs', hr'⟩ := hy
    have hl : vs.length = xs.length := by rw [each_length hr, List.length_map]
    have hl' : ws.length = ys.length := by rw [each_length hr', List.length_map]
    refine ⟨a, b, vs, ws, rfl, rfl, A.ex _ _ (e2 _ _ hs), A.ex _ _ (e2 _ _ hs'), by rw [sizeLine_eq]; omega, fun p hp => ?_⟩
    refine q _ (upd F2 p _) _ (same_new (A.free hp)) (A.new hp) ⟨p, _, rfl, upd_same, ?_⟩
    rw [List.map_append]
    exact each_app (Mono.go hr (e2.trans (same_new (A.free hp)))) (Mono.go hr' (e2.trans (same_new (A.free hp))))
/-- one of a list -/
theorem r_ixLs {Rs : List VP} [MonoL Rs] {n : Nat} {R : VP} (ha : Run (ta σ) F L (Ls K Rs)) (hb : Run (tb σ) F L (Dt K (.int (n : Nat)))) (hn : Rs[n]? = some R) : Run (tOp (rIxL K) ta tb σ) F L R :=
  r_op ha hb fun x y F1 e hx hy => fun F2 N H e2 A Q q => by
    cases hy
    obtain ⟨a, vs, rfl, hs, hr⟩ := hx
    have hr2 : Each Rs vs F2 := MonoL.mono _ _ _ e2 hr
    have hl := each_length hr2
    have hlt : n < vs.length := by rw [hl]; exact (List.getElem?_eq_some_iff.mp hn).1
    obtain ⟨R', hR', hv⟩ := each_at hr2 (List.getElem?_eq_getElem hlt)
    rw [hn] at hR'
    cases hR'
    refine ⟨a, vs, (n : Int), vs[n], rfl, rfl, sqL_up (e2.trans A.ex) hs, ?_, q _ F2 H (Same.refl _) A hv⟩
    unfold atI ixN
    rw [if_pos (by omega), if_pos (by omega)]
    simp [List.getElem?_eq_getElem hlt]
/-- one of a list of one's own -/
theorem r_ixC {l : Addr} {xs : List V} {n : Nat} {v : V} (hm : (l, HO.lst xs) ∈ L) (ha : Run (ta σ) F L (Eqv (.ref l))) (hb : Run (tb σ) F L (Dt K (.int (n : Nat)))) (hn : xs[n]? = some v) : Run (tOp (rIxL K) ta tb σ) F L (Eqv v) :=
  fun F1 N H e A Q q => ha F1 N H e A _ fun x F2 H2 e2 A2 hx => hb F2 N H2 (e.trans e2) A2 _ fun y F3 H3 e3 A3 hy => by
    cases hx
    cases hy
    have hlt : n < xs.length := (List.getElem?_eq_some_iff.mp hn).1
    refine ⟨l, xs, (n : Int), v, rfl, rfl, .inl (.inl (A3.mem hm)), ?_, q _ F3 H3 (e2.trans e3) A3 rfl⟩
    unfold atI ixN
    rw [if_pos (by omega), if_pos (by omega)]
    simpa using hn
theorem r_ixI {l : Addr} {xs : List Int} {n : Nat} {i : Int} (hm : (l, HO.lst (xs.map V.int)) ∈ L) (ha : Run (ta σ) F L (Eqv (.ref l))) (hb : Run (tb σ) F L (Dt K (.int (n : Nat)))) (hn : xs[n]? = some i) : Run (tOp (rIxL K) ta tb σ) F L (Dt K (.int i)) :=
  (r_ixC hm ha hb (v := .int i) (by rw [List.getElem?_map, hn]; rfl)).weak fun v F1 e h => by
    obtain rfl : v = .int i := h
    exact .int i
theorem r_lstN {t : TA} {Rs : List VP} (h : Run (t σ) F L (Each Rs)) [MonoL Rs] (hl : Rs.length ≤ 100000) : Run (tLst t σ) F L (fun v F1 => ∃ a vs, v = .ref a ∧ F1 a = some (.lst vs) ∧ Each Rs vs F1 ∧ F a = none) := fun F1 N H e A Q q =>
  h F1 N H e A _ fun vs F2 H2 e2 A2 hv => ⟨len_ok (by rw [each_length hv]; exact hl), fun p hp => q _ (upd F2 p _) _ (e2.trans (same_new (A2.free hp))) (A2.new hp) ⟨p, vs, rfl, upd_same, MonoL.mono _ _ _ (same_new (A2.free hp)) hv, (e.trans e2).free (A2.free hp)⟩⟩
end
end Rs

/-! RsP: any whole number; bodies that hand their cells back. -/
namespace Rs
open PySem PySem.Spec PyProof.Rows L2 SlX StX Ma
variable [Rs.Tabz]
theorem room65 {k : Nat} {A : Around} (r : Room k A) : A.units + 65 < cLine := by have := r.un; omega
def IntV : VP := fun v _ => ∃ i : Int, v = .int i
instance : Mono IntV := ⟨fun _ _ _ _ h => h⟩
def BoolV : VP := fun v _ => ∃ b : Bool, v = .bl b
instance : Mono BoolV := ⟨fun _ _ _ _ h => h⟩
/-- a number below t -/
def Bd (t : Nat) : VP := fun v _ => ∃ n : Nat, n < t ∧ v = .int n
instance {t : Nat} : Mono (Bd t) := ⟨fun _ _ _ _ h => h⟩
section
variable {K : PySem.W.Frag} {σ : L2.St} {F : Hp} {L : Cells} {R : VP} {ta tb te : TE} {t : TA} {u w : TS} {tc : TT} {i : Nat} {b : Bool}
theorem r_any {d : Int} (h : Run (te σ) F L (Dt K (.int d))) : Run (te σ) F L IntV := h.weak fun v F1 e hv => ⟨d, dt_int hv⟩
theorem r_anyI {j : Int} : Run (tC (.int j) σ) F L IntV := r_c ⟨j, rfl⟩
theorem r_lnLD {ds : List PyData} (h : Run (te σ) F L (Dt K (.list ds))) : Run (tCB (rLn K) (tCons te tNil) σ) F L (Dt K (.int ds.length)) := by
  have q := r_lnL (Rs := ds.map (Dt K)) (r_cons (h.weak fun v F e hv => ls_dt.mpr hv) r_nil)
  rwa [List.length_map] at q
theorem r_anyB {n : Nat} (h : Run (te σ) F L (Bd n)) : Run (te σ) F L IntV := h.weak fun v F1 e ⟨m, _, hv⟩ => ⟨m, hv⟩
theorem a_op0 {f : Int → Int → Int} (ha : Run (ta σ) F L IntV) (hb : Run (tb σ) F L IntV) : Run (tOp (rI0 fun i j => .int (f i j)) ta tb σ) F L IntV :=
  r_op ha hb fun x y F1 e ⟨i, hx⟩ ⟨j, hy⟩ => by
    subst hx; subst hy
    exact fun F2 N H e2 A Q q => ⟨i, j, rfl, rfl, q _ F2 H (Same.refl _) A ⟨_, rfl⟩⟩
theorem a_cmp {f : Int → Int → Bool} (ha : Run (ta σ) F L IntV) (hb : Run (tb σ) F L IntV) : Run (tOp (rI0 fun i j => .bl (f i j)) ta tb σ) F L BoolV :=
  r_op ha hb fun x y F1 e ⟨i, hx⟩ ⟨j, hy⟩ => by
    subst hx; subst hy
    exact fun F2 N H e2 A Q q => ⟨i, j, rfl, rfl, q _ F2 H (Same.refl _) A ⟨_, rfl⟩⟩
/-- a factor that is small -/
theorem a_mulL {c : Int} (ha : Run (ta σ) F L (Dt K (.int c))) (hb : Run (tb σ) F L IntV) (h : -(2 ^ 64) < c ∧ c < 2 ^ 64) : Run (tOp (rI CMul fun i j => .int (i * j)) ta tb σ) F L IntV :=
  r_op ha hb fun x y F1 e hx ⟨j, hy⟩ => by
    cases hx; subst hy
    exact fun F2 N H e2 A Q q => ⟨c, j, rfl, rfl, .inl h, q _ F2 H (Same.refl _) A ⟨_, rfl⟩⟩
theorem a_mulB {n : Nat} (ha : Run (ta σ) F L (Bd n)) (hb : Run (tb σ) F L IntV) (h : n ≤ 2 ^ 63) : Run (tOp (rI CMul fun i j => .int (i * j)) ta tb σ) F L IntV :=
  r_op ha hb fun x y F1 e ⟨m, hm, hx⟩ ⟨j, hy⟩ => by
    subst hx; subst hy
    have h1 : (n : Int) ≤ 2 ^ 63 := by exact_mod_cast h
    exact fun F2 N H e2 A Q q => ⟨m, j, rfl, rfl, .inl ⟨by omega, by omega⟩, q _ F2 H (Same.refl _) A ⟨_, rfl⟩⟩
theorem a_mod {m : Nat} (ha : Run (ta σ) F L IntV) (hb : Run (tb σ) F L (Dt K (.int (m : Nat)))) (h : 0 < m) : Run (tOp (rI (fun _ j => 0 < j) fun i j => .int (i % j)) ta tb σ) F L (Bd m) :=
  r_op ha hb fun x y F1 e ⟨i, hx⟩ hy => by
    subst hx; cases hy
    have h1 : (0 : Int) ≤ i % (m : Int) := Int.emod_nonneg _ (by omega)
    have h2 : i % (m : Int) < m := Int.emod_lt_of_pos _ (by omega)
    exact fun F2 N H e2 A Q q => ⟨i, m, rfl, rfl, by omega, q _ F2 H (Same.refl _) A ⟨(i % (m : Int)).toNat, by omega, by rw [Int.toNat_of_nonneg h1]⟩⟩
theorem a_modI {m : Int} (ha : Run (ta σ) F L IntV) (hb : Run (tb σ) F L (Dt K (.int m))) (h : 0 < m) : Run (tOp (rI (fun _ j => 0 < j) fun i j => .int (i % j)) ta tb σ) F L IntV :=
  r_op ha hb fun x y F1 e ⟨i, hx⟩ hy => by
    subst hx; cases hy
    exact fun F2 N H e2 A Q q => ⟨i, m, rfl, rfl, h, q _ F2 H (Same.refl _) A ⟨_, rfl⟩⟩
theorem a_div {m : Int} (ha : Run (ta σ) F L IntV) (hb : Run (tb σ) F L (Dt K (.int m))) (h : CDivW 0 m) : Run (tOp (rI CDivW fun i j => .int (i / j)) ta tb σ) F L IntV :=
  r_op ha hb fun x y F1 e ⟨i, hx⟩ hy => by
    subst hx; cases hy
    exact fun F2 N H e2 A Q q => ⟨i, m, rfl, rfl, h, q _ F2 H (Same.refl _) A ⟨_, rfl⟩⟩
theorem a_int (h : Run (t σ) F L (Each [IntV])) : Run (tCB rIntOf t σ) F L IntV := r_cb h fun vs F1 e1 hv => by
  obtain ⟨v, rfl, i, rfl⟩ := each1 hv
  exact fun F2 N H e2 A Q q => .inl ⟨i, rfl, q _ F2 H (Same.refl _) A ⟨i, rfl⟩⟩
theorem a_intB (h : Run (t σ) F L (Each [BoolV])) : Run (tCB rIntOf t σ) F L IntV := r_cb h fun vs F1 e1 hv => by
  obtain ⟨v, rfl, i, rfl⟩ := each1 hv
  exact fun F2 N H e2 A Q q => .inr ⟨i, rfl, q _ F2 H (Same.refl _) A ⟨_, rfl⟩⟩
theorem a_abs (h : Run (t σ) F L (Each [IntV])) : Run (tCB rAbs t σ) F L IntV := r_cb h fun vs F1 e1 hv => by
  obtain ⟨v, rfl, i, rfl⟩ := each1 hv
  exact fun F2 N H e2 A Q q => ⟨i, rfl, q _ F2 H (Same.refl _) A ⟨_, rfl⟩⟩
/-- a test of whatever truth -/
theorem a_test (h : Run (te σ) F L BoolV) : Run (tTest te σ) F L (fun _ _ => True) := run_bind (k := te σ) h fun x F1 e1 ⟨b, hx⟩ => by
  subst hx
  exact run_ex b (run_and (fun _ _ _ _ _ => rfl) (run_ret fun _ _ => True.intro))
theorem a_if (h : Run (tc σ) F L (fun _ _ => True)) (h1 : Run (ta σ) F L R) (h2 : Run (tb σ) F L R) : Run (tIf tc ta tb σ) F L R := run_bind (k := tc σ) h fun b F1 e1 _ => by
  cases b with
  | true => exact fun F2 N H e2 A Q q => iteT (h1 F2 N H (e1.trans e2) A Q q)
  | false => exact fun F2 N H e2 A Q q => iteF (h2 F2 N H (e1.trans e2) A Q q)
/-! bodies that hand their cells back -/
def RunT (t : TS) (σ : L2.St) (F : Hp) (L : Cells) (Rt : V → Hp → Cells → Prop) : Prop :=
  ∀ F1 N H, Same F F1 → At F1 (L ++ N) H → ∀ D : Ends, (∀ v F' L' H', Same F1 F' → At F' (L' ++ N) H' → Rt v F' L' → D.rt v H') → t D σ H
variable {Rt : V → Hp → Cells → Prop}
theorem u_assoc {t u w : TS} (h : RunT (tSeq t (tSeq u w)) σ F L Rt) : RunT (tSeq (tSeq t u) w) σ F L Rt := h
theorem u_next (h : RunT u σ F L Rt) : RunT (tSeq tNext u) σ F L Rt := h
theorem u_set (h : Run (te σ) F L R) (k : ∀ v F1, Same F F1 → R v F1 → RunT u (σ.set i (some v)) F1 L Rt) : RunT (tSeq (tAsg te (gName i)) u) σ F L Rt := fun F1 N H e A D r =>
  h F1 N H e A _ fun v F2 H2 e2 A2 hv => k v F2 (e.trans e2) hv F2 N H2 (Same.refl _) A2 D fun w F3 L3 H3 e3 A3 n => r w F3 L3 H3 (e2.trans e3) A3 n
theorem u_ret (h : Run (te σ) F L R) (k : ∀ v F1, Same F F1 → R v F1 → Rt v F1 L) : RunT (tRet te) σ F L Rt := fun F1 N H e A D r =>
  h F1 N H e A _ fun v F2 H2 e2 A2 hv => r v F2 L H2 e2 A2 (k v F2 (e.trans e2) hv)
theorem u_retq (h : Run (te σ) F L R) (k : ∀ v F1, Same F F1 → R v F1 → Rt v F1 L) : RunT (tSeq (tRet te) u) σ F L Rt := fun F1 N H e A D r =>
  h F1 N H e A _ fun v F2 H2 e2 A2 hv => r v F2 L H2 e2 A2 (k v F2 (e.trans e2) hv)
theorem u_if {t u w : TS} (h : Run (tc σ) F L (fun _ _ => True)) (h1 : RunT (tSeq t w) σ F L Rt) (h2 : RunT (tSeq u w) σ F L Rt) : RunT (tSeq (tIfS tc t u) w) σ F L Rt := fun F1 N H e A D r =>
  h F1 N H e A _ fun b F2 H2 e2 A2 _ => by
    cases b with
    | true => exact iteT (h1 F2 N H2 (e.trans e2) A2 D fun v F3 L3 H3 e3 A3 n => r v F3 L3 H3 (e2.trans e3) A3 n)
    | false => exact iteF (h2 F2 N H2 (e.trans e2) A2 D fun v F3 L3 H3 e3 A3 n => r v F3 L3 H3 (e2.trans e3) A3 n)
theorem u_setC [Mono R] {l : Addr} {xs : List V} {n : Nat} (hv : Run (te σ) F ((l, .lst xs) :: L) R) (ha : Run (ta σ) F ((l, .lst xs) :: L) (Eqv (.ref l))) (hb : Run (tb σ) F ((l, .lst xs) :: L) (Dt K (.int (n : Nat)))) (hn : n < xs.length)
    (k : ∀ v F1, Same F F1 → R v F1 → RunT u σ F1 ((l, .lst (xs.set n v)) :: L) Rt) : RunT (tSeq (tAsg te (gSub ta tb rSetL)) u) σ F ((l, .lst xs) :: L) Rt := fun F1 N H e A D r =>
  hv F1 N H e A _ fun v F2 H2 e2 A2 hvv => ha F2 N H2 (e.trans e2) A2 _ fun x F3 H3 e3 A3 hx => hb F3 N H3 ((e.trans e2).trans e3) A3 _ fun y F4 H4 e4 A4 hy => by
    cases hx
    cases hy
    refine ⟨l, xs, (n : Int), n, rfl, rfl, At.on1 A4, by unfold ixN; rw [if_pos (by omega), if_pos (by omega)]; simp, ?_⟩
    exact k v F4 (((e.trans e2).trans e3).trans e4) (Mono.go hvv (e3.trans e4)) F4 N _ (Same.refl _) (At.put A4) D fun w F5 L5 H5 e5 A5 n => r w F5 L5 H5 (((e2.trans e3).trans e4).trans e5) A5 n
end
section
variable {P : Program} {w : World} {K : PySem.W.Frag} {mg : Str → Option Value} {base : Heap}
theorem cell_ok {n : Nat} {x qual : Str} {st : Stmt} {f : Addr} {fd : FuncData} {N ps : List Str} {k : Nat} {γ : Type} {pre : γ → Prop} {Rs : γ → List VP} {R : γ → VP} (F : Fun K x qual st f fd) (S : FnScope N ps (defScope st)) (len : ∀ g, (Rs g).length + 1 = ps.length)
    (body : ∀ (cdv : Value) (A : Around) (outer : List Env) (s : Shared) (H : Hp) (E : XK) (g : γ) (a : Addr) (xs : List Int) (vs : List V) (F0 : Hp), Room k (A.deeper (envOfC qual (defScope st) s.heap.objs.size f cdv)) → pre g → xs.length = n → Each (Rs g) vs F0 →
      ∃ t, PSs (cxOf CX0 P w K mg base N qual (defScope st) f cdv A outer s H E).nox (defBody st) t ∧ RunT t (start N (.ref a :: vs)) F0 [(a, .lst (xs.map V.int))] (fun v F' L' => R g v F' ∧ ∃ xs' : List Int, xs'.length = n ∧ L' = [(a, .lst (xs'.map V.int))])) :
    FnOk P w K mg base CX0 (k + 1) f fd ps (SpC n pre Rs R) := by
  refine F.ok S (fun vs H Q E ⟨g, F0, N0, a, xs, ws, e, hp, hx, A, hv, q⟩ => ?_) fun cdv A outer s H vs Q E hr ⟨g, F0, N0, a, xs, ws, e, hp, hx, A0, hv, q⟩ => ?_
  · subst e
    rw [List.length_cons, each_length hv]; exact len g
  · subst e
    obtain ⟨t, h1, h2⟩ := body cdv A outer s H E g a xs ws F0 hr hp hx hv
    refine ⟨t, h1, h2 F0 N0 H (Same.refl _) A0 _ fun v F' L' H' e' A' ⟨hr, xs', hx', hl⟩ => ?_⟩
    subst hl
    exact q v F' H' xs' hx' e' A' hr
end
end Rs

/-! RsQ: runs of what is drawn. -/
namespace Rs
open PySem PySem.Spec PyProof.Rows L2 SlX StX Ma
variable [Rs.Tabz]
def NatV : VP := fun v _ => ∃ n : Nat, v = .int n
instance : Mono NatV := ⟨fun _ _ _ _ h => h⟩
def OneD (K : PySem.W.Frag) (ds : List PyData) : VP := fun v F => ∃ d ∈ ds, Dt K d v F
instance {K : PySem.W.Frag} {ds : List PyData} : Mono (OneD K ds) := ⟨fun _ _ _ e ⟨d, h, h1⟩ => ⟨d, h, dp_up e h1⟩⟩
/-- a list of numbers of which P holds -/
def LsP (K : PySem.W.Frag) (P : List Nat → Prop) : VP := fun v F => ∃ ns, P ns ∧ Dt K (.list (ns.map nI)) v F
instance {K : PySem.W.Frag} {P : List Nat → Prop} : Mono (LsP K P) := ⟨fun _ _ _ e ⟨d, h, h1⟩ => ⟨d, h, dp_up e h1⟩⟩
def TpP (K : PySem.W.Frag) (P : List Nat → Prop) : VP := fun v F => ∃ ns, P ns ∧ Dt K (dRow ns) v F
instance {K : PySem.W.Frag} {P : List Nat → Prop} : Mono (TpP K P) := ⟨fun _ _ _ e ⟨d, h, h1⟩ => ⟨d, h, dp_up e h1⟩⟩
def RwP (K : PySem.W.Frag) (P : Rows → Prop) : VP := fun v F => ∃ rs, P rs ∧ Dt K (dRows rs) v F
instance {K : PySem.W.Frag} {P : Rows → Prop} : Mono (RwP K P) := ⟨fun _ _ _ e ⟨d, h, h1⟩ => ⟨d, h, dp_up e h1⟩⟩
section
variable {K : PySem.W.Frag} {σ : L2.St} {F : Hp} {L : Cells} {R S : VP} {ta tb te : TE} {t : TA} {q : List V → Hp → VK → Prop} {E : XK} {Nx : L2.St → Hp → Cells → Prop} {Rt : VP}
theorem r_min2N {i j : Nat} (h : Run (t σ) F L (Each [Dt K (nI i), Dt K (nI j)])) : Run (tCB rMin2 t σ) F L (Dt K (nI (min i j))) := r_cb h fun vs F1 e1 hv => by
  obtain ⟨v, u, rfl, h1, h2⟩ := each2 hv
  cases h1; cases h2
  refine fun F2 N H e2 A Q q => ⟨i, j, rfl, ?_⟩
  by_cases hji : (j : Int) < i
  · rw [if_pos hji, show ((j : Nat) : Int) = ((min i j : Nat) : Int) from by omega]
    exact q _ F2 H (Same.refl _) A (.int _)
  · rw [if_neg hji, show ((i : Nat) : Int) = ((min i j : Nat) : Int) from by omega]
    exact q _ F2 H (Same.refl _) A (.int _)
theorem r_max2N {i j : Nat} (h : Run (t σ) F L (Each [Dt K (nI i), Dt K (nI j)])) : Run (tCB rMax2 t σ) F L (Dt K (nI (max i j))) := r_cb h fun vs F1 e1 hv => by
  obtain ⟨v, u, rfl, h1, h2⟩ := each2 hv
  cases h1; cases h2
  refine fun F2 N H e2 A Q q => ⟨i, j, rfl, ?_⟩
  by_cases hji : (j : Int) > i
  · rw [if_pos hji, show ((j : Nat) : Int) = ((max i j : Nat) : Int) from by omega]
    exact q _ F2 H (Same.refl _) A (.int _)
  · rw [if_neg hji, show ((i : Nat) : Int) = ((max i j : Nat) : Int) from by omega]
    exact q _ F2 H (Same.refl _) A (.int _)
end
end Rs

/-! Mc: parts. -/
namespace Ma
open PySem Rs L2
variable [Rs.Tabz]
def partOf (re : Rows) (h : Nat) : List Nat := (row re h).filter fun o => decide (h ∈ row re o)
def addK (f : List (List Nat)) (k : List Nat) : List (List Nat) := if k ∈ f then f else f ++ [k]
def keysOf (re : Rows) : Nat → List (List Nat)
  | 0 => []
  | i + 1 => addK (keysOf re i) (partOf re i)
def kvP (f : List (List Nat)) : List (List Key × V) := f.map fun r => (kT (cI r), V.bl true)
theorem kvP_keys {f : List (List Nat)} : (kvP f).map (·.1) = (f.map cI).map kT := by unfold kvP; rw [List.map_map, List.map_map]; rfl
theorem kTcI {a b : List Nat} : kT (cI a) = kT (cI b) ↔ a = b := ⟨fun h => cI_inj.mp (kT_inj h), fun h => by rw [h]⟩
theorem kvP_put {f : List (List Nat)} {r : List Nat} : putK (kvP f) (kT (cI r)) (V.bl true) = kvP (addK f r) := by
  unfold putK addK
  have h1 : ((kvP f).any fun kv => decide (kv.1 = kT (cI r))) = decide (r ∈ f) := by
    unfold kvP
    rw [List.any_map, Bool.eq_iff_iff, List.any_eq_true, decide_eq_true_eq]
    constructor
    · rintro ⟨x, hx, e⟩
      have := kTcI.mp (of_decide_eq_true e)
      rw [← this]; exact hx
    · intro h
      exact ⟨r, h, decide_eq_true rfl⟩
  rw [h1]
  by_cases h : r ∈ f
  · rw [if_pos (decide_eq_true h), if_pos h]
    unfold kvP
    rw [List.map_map]
    apply List.map_congr_left
    intro x _
    show (if kT (cI x) = kT (cI r) then _ else _) = _
    split <;> rfl
  · rw [if_neg (by rw [decide_eq_false h]; decide), if_neg h]
    unfold kvP
    rw [List.map_append]; rfl
theorem keys_len {re : Rows} : ∀ i, (keysOf re i).length ≤ i
  | 0 => Nat.le_refl _
  | i + 1 => by
    unfold keysOf addK
    have := keys_len (re := re) i
    split
    · omega
    · rw [List.length_append, List.length_singleton]; omega
theorem mem_keys {re : Rows} {k : List Nat} : ∀ {i}, k ∈ keysOf re i ↔ ∃ h < i, k = partOf re h
  | 0 => by simp [keysOf]
  | i + 1 => by
    unfold keysOf addK
    have ih := mem_keys (re := re) (k := k) (i := i)
    split
    · rename_i hc
      rw [ih]
      constructor
      · rintro ⟨h, hh, e⟩; exact ⟨h, by omega, e⟩
      · rintro ⟨h, hh, e⟩
        by_cases q : h = i
        · subst q; rw [e]; exact mem_keys.mp hc
        · exact ⟨h, by omega, e⟩
    · rw [List.mem_append, ih, List.mem_singleton]
      constructor
      · rintro (⟨h, hh, e⟩ | e)
        · exact ⟨h, by omega, e⟩
        · exact ⟨i, by omega, e⟩
      · rintro ⟨h, hh, e⟩
        by_cases q : h = i
        · subst q; exact .inr e
        · exact .inl ⟨h, by omega, e⟩
def partsI (re : Rows) : List (List Int) := ((keysOf re re.length).map cI).mergeSort fun a b => decide (a ≤ b)
theorem parts_perm {re : Rows} : (partsI re).Perm ((keysOf re re.length).map cI) := List.mergeSort_perm _ _
theorem parts_sorted {re : Rows} : (partsI re).Pairwise (· ≤ ·) := by
  have := List.pairwise_mergeSort (le := fun (a b : List Int) => decide (a ≤ b)) (fun a b c h1 h2 => by
    simp only [decide_eq_true_eq] at *; exact List.le_trans h1 h2) (fun a b => by
    simp only [Bool.or_eq_true, decide_eq_true_eq]; exact List.le_total _ _) ((keysOf re re.length).map cI)
  exact this.imp fun h => of_decide_eq_true h
theorem part_self {rs : Rows} {h : Nat} (hh : h < rs.length) : h ∈ partOf (reachs rs) h := by
  unfold partOf
  rw [List.mem_filter, reachs_row hh, decide_eq_true_eq]
  have : h ∈ reachL rs h := mem_reachL.mpr ⟨hh, .refl⟩
  exact ⟨this, this⟩
end Ma

/-! Md: rounds and roots. -/
namespace Ma
open PySem Rs L2
variable [Rs.Tabz]
def wholeR (webs : List Rows) (n : Nat) : Rows := webs.foldl thenR (silentR n)
theorem fold_len : ∀ (l : List Rows) (z : Rows), (l.foldl thenR z).length = z.length
  | [], _ => rfl
  | _ :: l, z => by rw [List.foldl_cons, fold_len l, then_len]
/-! ### who has heard -/
theorem Reach.trans {rs : Rows} {x y z : Nat} (h1 : Reach rs x y) (h2 : Reach rs y z) : Reach rs x z := by
  induction h2 with
  | refl => exact h1
  | step _ a b ih => exact .step ih a b
open Classical in
open Classical in
/-! ### roots -/
/-! ### the closure -/
end Ma

/-! RsR: lists of webs. -/
namespace Rs
open PySem PySem.Spec PyProof.Rows L2 SlX StX Ma
variable [Rs.Tabz]
/-- a list of webs of which P holds -/
def WsP (C : Addr) (K : PySem.W.Frag) (P : List Rows → Prop) : VP := fun v F => ∃ l, P l ∧ Ln (l.map fun r => webP C K r) v F
instance {C : Addr} {K : PySem.W.Frag} {P : List Rows → Prop} : Mono (WsP C K P) := ⟨fun _ _ _ e ⟨l, h, h1⟩ => ⟨l, h, Mono.go h1 e⟩⟩
def WbP (C : Addr) (K : PySem.W.Frag) (P : Rows → Prop) : VP := fun v F => ∃ r, P r ∧ webP C K r v F
instance {C : Addr} {K : PySem.W.Frag} {P : Rows → Prop} : Mono (WbP C K P) := ⟨fun _ _ _ e ⟨l, h, h1⟩ => ⟨l, h, Mono.go h1 e⟩⟩
def NumP (P : Nat → Prop) : VP := fun v _ => ∃ n : Nat, P n ∧ v = .int n
instance {P : Nat → Prop} : Mono (NumP P) := ⟨fun _ _ _ _ h => h⟩
section
variable {K : PySem.W.Frag} {σ : L2.St} {F : Hp} {L : Cells} {R S : VP} {ta tb te : TE} {t : TA} {E : XK} {C : Addr}
/-! a for over what is drawn -/
variable {Nx : L2.St → Hp → Cells → Prop} {Rt : VP} {tb' u : TS} {g : TG} {wi : TI}
end
end Rs

/-! RsS: the length of a set of ints; lists of two starred rows. -/
namespace Rs
open PySem PySem.Spec PyProof.Rows L2 SlX StX Ma
variable [Rs.Tabz]
section
variable {X : Cx}
variable {e : Expr} {es : List Expr} {t : TA} {p pos : Pos}
end
section
variable {K : PySem.W.Frag} {w : World} {σ : L2.St} {F : Hp} {L : Cells} {t : TA} {ta tb te : TE}
end
end Rs

/-! RsU: list(range(..)), tuple(range(..)), texts. -/
namespace Rs
open PySem PySem.Spec PyProof.Rows L2 SlX StX Ma
variable [Rs.Tabz]
section
variable {X : Cx} {a : Expr} {ta : TE} {p q pos pos2 : Pos}
theorem p_str (B : Bf X.mg) {e : Expr} {es : List Expr} {t : TA} (hm : X.mg "str" = none) (ha : PA X (e :: es) t) (hg : Gl X "str" := by rfl) (he : starEach (e :: es) X.env = (false, eval e X.env) :: starEach es X.env := by rfl) (hpl : (backTo pos (starEach es X.env)).any (·.1) = false := by rfl) :
    PE X (.Call (.Name "str" p) (e :: es) [] pos) (tCB (fun xs H Q => ∃ i, xs = [.int i] ∧ i.natAbs.log2 < 1920 ∧ Q (.str (toString i)) H) t) := pe_callTy call_str_int hg hm boot_str ha (by decide) (by decide) he hpl
end
section
variable {K : PySem.W.Frag} {σ : L2.St} {F : Hp} {L : Cells} {R : VP} {t : TA} {ta tb te : TE}
theorem each_ints : ∀ {xs : List Nat} {F : Hp}, Each (xs.map fun x => Dt K (nI x)) (xs.map fun i : Nat => V.int ((i : Nat) : Int)) F
  | [], _ => True.intro
  | _ :: _, _ => ⟨.int _, each_ints⟩
theorem log_small {n : Nat} (h : n ≤ 1000) : ((n : Int)).natAbs.log2 < 1920 := by
  rw [Int.natAbs_natCast]
  by_cases h0 : n = 0
  · subst h0; decide
  · exact Nat.lt_of_lt_of_le ((Nat.log2_lt h0).mpr (show n < 2 ^ 10 by omega)) (by decide)
theorem r_strI {n : Nat} (h : Run (t σ) F L (Each [Dt K (nI n)])) (hn : n ≤ 1000) : Run (tCB (fun xs H Q => ∃ i, xs = [V.int i] ∧ i.natAbs.log2 < 1920 ∧ Q (.str (toString i)) H) t σ) F L (Dt K (.str (toString (n : Int)))) := r_cb h fun vs F1 e hv => by
  obtain ⟨v, rfl, hw⟩ := each1 hv
  cases hw
  exact run_ex (n : Int) (run_and (fun _ _ _ _ _ => rfl) (run_and (fun _ _ _ _ _ => log_small hn) (run_ret fun _ _ => .str _)))
theorem r_addS {x y : PySem.Str} (ha : Run (ta σ) F L (Dt K (.str x))) (hb : Run (tb σ) F L (Dt K (.str y))) (hl : x.length + y.length ≤ 100000) : Run (tOp (fun u v H Q => ∃ i j, u = V.str i ∧ v = .str j ∧ i.length + j.length ≤ sizeLine ∧ Q (.str (i ++ j)) H) ta tb σ) F L (Dt K (.str (x ++ y))) :=
  r_op ha hb fun u v F1 e hx hy => by
    cases hx; cases hy
    exact run_ex x (run_ex y (run_and (fun _ _ _ _ _ => rfl) (run_and (fun _ _ _ _ _ => rfl) (run_and (fun _ _ _ _ _ => len_ok hl) (run_ret fun _ _ => .str _)))))
def rJoin (K : PySem.W.Frag) : V → List V → Hp → VK → Prop := fun x xs H Q => ∃ a p, ∃ ys : List Str, x = .str a ∧ xs = [.ref p] ∧ (SqL K H p (ys.map V.str) ∨ SqT K H p (ys.map V.str)) ∧
    (ys.map (·.length)).sum + ys.length * a.length ≤ 16777216 ∧ Q (.str (Txt.join a ys)) H
theorem each_strs : ∀ {ys : List Str} {vs : List V} {F : Hp}, Each (ys.map fun y => Dt K (.str y)) vs F → vs = ys.map V.str
  | [], [], _, _ => rfl
  | [], _ :: _, _, h => h.elim
  | _ :: _, [], _, h => h.elim
  | y :: ys, v :: vs, F, h => by
    have h1 := h.1
    cases h1
    rw [each_strs (ys := ys) h.2]
    rfl
theorem r_join {a : PySem.Str} {ys : List Str} (ha : Run (ta σ) F L (Dt K (.str a))) (hb : Run (tb σ) F L (Dt K (.list (ys.map PyData.str)))) (hl : (ys.map (·.length)).sum + ys.length * a.length ≤ 16777216) : Run (tM1 (rJoin K) ta tb σ) F L (Dt K (.str (Txt.join a ys))) :=
  run_bind (k := ta σ) ha fun x F1 e1 hx => by
    cases hx
    refine run_and (fun _ _ _ _ _ => ⟨a, rfl⟩) (run_bind (k := tb σ) (hb.up e1) fun y F2 e2 hy => ?_)
    have q := ls_dt.mpr (show Dt K (.list (ys.map PyData.str)) y F2 from hy)
    rw [List.map_map] at q
    obtain ⟨p, vs, rfl, sq, ev⟩ := q
    have ev := each_strs (ys := ys) ev
    subst ev
    exact run_ex a (run_ex p (run_ex ys (run_and (fun _ _ _ _ _ => rfl) (run_and (fun _ _ _ _ _ => rfl) (run_and (fun F3 N H e3 A => .inl (sqL_up (e3.trans A.ex) sq)) (run_and (fun _ _ _ _ _ => hl) (run_ret fun _ _ => .str _)))))))
/-- a text, or another where it is empty -/
def tOrS (ta tb : TE) : TE := fun σ H Q => ta σ H fun x H1 => ∃ c : PySem.Str, x = .str c ∧ c.length ≤ 100000 ∧ if c.length = 0 then tb σ H1 Q else Q (.str c) H1
end
section
variable {X : Cx} {a b : Expr} {rest : List Expr} {ta tb : TE} {pos : Pos}
theorem pe_orS (ha : PE X a ta) (hb : PE X (.BoolOp .Or (b :: rest) pos) tb) : PE X (.BoolOp .Or (a :: b :: rest) pos) (tOrS ta tb) := by
  refine ⟨fun pins s σ H Q I h => ?_⟩
  refine BoolOp_or (thn (ha.run pins s σ H _ I h) fun v s1 ⟨x, H1, I1, r1, q1⟩ => ?_)
  obtain ⟨c, rfl, hl, q1⟩ := q1
  obtain ⟨t, rfl⟩ := r1
  refine P.truthy_str (by omega) ?_
  by_cases h : c.length = 0
  · rw [if_pos h] at q1
    rw [h]
    exact hb.run pins _ σ H1 Q (I1.tok _) q1
  · rw [if_neg h] at q1
    rw [show ((c.length : Int) != 0) = true from by simp; omega]
    exact ⟨.str c, H1, I1.tok _, ⟨_, rfl⟩, q1⟩
theorem p_join {o e : Expr} {to te : TE} {apos pos : Pos} (ho : PE X o to) (he : PE X e te) (hs : starEach [e] X.env = [(false, eval e X.env)] := by rfl) (hbase : attributeBase o "join" X.env (eval o X.env) = eval o X.env := by rfl) (hline : (apos.endLine == pos.line) = true := by rfl) :
    PE X (.Call (.Attribute o "join" apos) [e] [] pos) (tM1 (rJoin X.K) to te) := pe_join ho he hs hbase hline
end
end Rs

/-! RsV: own len, str, in. -/
namespace Rs
open PySem PySem.Spec PyProof.Rows L2 SlX StX Ma
variable [Rs.Tabz]
section
variable {X : Cx} {CX : CXT} {C g : Addr} {n : Nat} {sp : Sp} {E : XK}
def rLenOwn (C : Addr) (sp : Sp) (E : XK) : List V → Hp → VK → Prop := fun xs H Q => ∃ a dx vs, xs = [V.ref a] ∧ Slt H a C dx vs ∧ sp [.ref a] H (fun z H' => ∃ i : Int, z = .int i ∧ 0 ≤ i ∧ i < 2 ^ 63 ∧ Q z H') E
theorem call_lenOwn (hs : PySem.W.findIn X.K (.ref C) "__len__" = some (some (.ref g))) (hf : PySem.W.isFn X.K (.ref g) = true) (F : FnR X.prog X.w X.K X.mg X.base CX n g sp) (hr : Room (n + 1) X.A) (hx : Passes CX X E) : CallR X (.builtin "len") (rLenOwn C sp E) := by
  intro pins s σ H xs us Q I r h
  obtain ⟨a, dx, vs, rfl, hsl, q⟩ := h
  obtain ⟨u, rfl, ru⟩ := r.one
  cases (show u = Value.ref a from ru)
  obtain ⟨sl, od, _, J, _⟩ := slt_inst I hsl
  obtain ⟨m, hF⟩ := I.fr
  have hr2 : Room n X.A.in1 := Room.in1 hr
  refine PySem.W.len_K hF I.ok.mod.kin J hs hf (wpAny_mono (wpAny_call (run_at (us := [.ref a]) (ws := [.ref a]) F hr2 I.env0.in1 hx I (.cons rfl .nil) q)) (fun w s' z => ?_) fun _ _ x => x)
  obtain ⟨z', H', I', rz, i, ei, h0, h1, qz⟩ := z
  subst ei
  obtain ⟨t, e⟩ := (show ∃ t, w = Value.int i t from rz)
  cases e
  exact ⟨⟨h0, h1⟩, .int i, H', I'.tok _, ⟨_, rfl⟩, qz⟩
def rStrOwn (C : Addr) (sp : Sp) (E : XK) : List V → Hp → VK → Prop := fun xs H Q => ∃ a dx vs, xs = [V.ref a] ∧ Slt H a C dx vs ∧ sp [.ref a] H (fun z H' => ∃ y : Str, z = .str y ∧ Q z H') E
theorem call_strOwn (hs : PySem.W.findIn X.K (.ref C) "__str__" = some (some (.ref g))) (hf : PySem.W.isFn X.K (.ref g) = true) (F : FnR X.prog X.w X.K X.mg X.base CX n g sp) (hr : Room (n + 2) X.A) (hx : Passes CX X E) : CallR X (.type "str") (rStrOwn C sp E) := by
  intro pins s σ H xs us Q I r h
  obtain ⟨a, dx, vs, rfl, hsl, q⟩ := h
  obtain ⟨u, rfl, ru⟩ := r.one
  cases (show u = Value.ref a from ru)
  obtain ⟨sl, od, _, J, _⟩ := slt_inst I hsl
  have hr2 : Room n X.A.in1.in1 := (show Room (n + 1) X.A.in1 from Room.in1 hr).in1
  refine PySem.W.kso_call hr2.units0 I.kIn J hs hf (wpAny_mono (wpAny_call (run_at (us := [.ref a]) (ws := [.ref a]) F hr2 I.env0.in1.in1 hx I (.cons rfl .nil) q)) (fun w s' z => ?_) fun _ _ x => x)
  obtain ⟨z', H', I', rz, y, ey, qz⟩ := z
  subst ey
  obtain ⟨t, e⟩ := (show ∃ t, w = Value.str y t from rz)
  cases e
  exact ⟨.str y, H', I', ⟨t, rfl⟩, qz⟩
def rInOwn (C : Addr) (sp : Sp) (E : XK) : R2 := fun x y H Q => ∃ a dx vs, y = V.ref a ∧ Slt H a C dx vs ∧ sp [.ref a, x] H (fun z H' => ∃ b : Bool, z = .bl b ∧ Q (.bl b) H') E
theorem op_inOwn (hs : PySem.W.findIn X.K (.ref C) "__contains__" = some (some (.ref g))) (hf : PySem.W.isFn X.K (.ref g) = true) (F : FnR X.prog X.w X.K X.mg X.base CX n g sp) (hr : Room n X.A) (hx : Passes CX X E) : OpR X (compareOp .In) (rInOwn C sp E) := by
  intro pins s σ H x y v u Q I rx ry h
  obtain ⟨a, dx, vs, rfl, hsl, q⟩ := h
  cases (show u = Value.ref a from ry)
  obtain ⟨sl, od, _, J, _⟩ := slt_inst I hsl
  obtain ⟨m, hF⟩ := I.fr
  refine PySem.W.in_K hF I.ok.mod.kin J hs hf (wpAny_mono (wpAny_call (run_at (us := [.ref a, v]) (ws := [.ref a, x]) F hr I.env0 hx I (.cons rfl (.cons rx .nil)) q)) (fun w s' z => ?_) fun _ _ x => x)
  obtain ⟨z', H', I', rz, b, eb, qz⟩ := z
  subst eb
  cases (show w = Value.bool b from rz)
  exact wpAny_truthy_bool ⟨.bl b, H', I', rfl, qz⟩
end
/-- the own len, str and in of the class at C -/
structure OwnS (P : Program) (w : World) (K : PySem.W.Frag) (mg : Str → Option Value) (base : Heap) (nm : Str) (k : Nat) (C : Addr) (sp : Sp) : Prop where
  ex : ∃ g, PySem.W.findIn K (.ref C) nm = some (some (.ref g)) ∧ PySem.W.isFn K (.ref g) = true ∧ FnR P w K mg base CX0 k g sp
section
variable {X : Cx} {k j : Nat} {C : Addr} {sp : Sp} {e : Expr} {es : List Expr} {t : TA} {p pos : Pos}
theorem p_lenO (B : Bf X.mg) (c : OwnS X.prog X.w X.K X.mg X.base "__len__" k C sp) (hr : Room j X.A) (hk : k + 1 ≤ j) (ha : PA X (e :: es) t) (hg : Gl X "len" := by rfl) (he : starEach (e :: es) X.env = (false, eval e X.env) :: starEach es X.env := by rfl) (hpl : (backTo pos (starEach es X.env)).any (·.1) = false := by rfl) :
    PE X (.Call (.Name "len" p) (e :: es) [] pos) (tCB (rLenOwn C sp E0) t) := by
  obtain ⟨g, h1, h2, F⟩ := c.ex
  exact pe_callB (call_lenOwn h1 h2 F (hr.mono hk) pass0) hg B.len PySem.boot_len ha (by decide) (by decide) he hpl
theorem p_strO (hm : X.mg "str" = none) (c : OwnS X.prog X.w X.K X.mg X.base "__str__" k C sp) (hr : Room j X.A) (hk : k + 2 ≤ j) (ha : PA X (e :: es) t) (hg : Gl X "str" := by rfl) (he : starEach (e :: es) X.env = (false, eval e X.env) :: starEach es X.env := by rfl) (hpl : (backTo pos (starEach es X.env)).any (·.1) = false := by rfl) :
    PE X (.Call (.Name "str" p) (e :: es) [] pos) (tCB (rStrOwn C sp E0) t) := by
  obtain ⟨g, h1, h2, F⟩ := c.ex
  exact pe_callTy (call_strOwn h1 h2 F (hr.mono hk) pass0) hg hm boot_str ha (by decide) (by decide) he hpl
theorem op_inO (c : OwnS X.prog X.w X.K X.mg X.base "__contains__" k C sp) (hr : Room j X.A) (hk : k ≤ j) : OpR X (compareOp .In) (rInOwn C sp E0) := by
  obtain ⟨g, h1, h2, F⟩ := c.ex
  exact op_inOwn h1 h2 F (hr.mono hk) pass0
end
section
variable {K : PySem.W.Frag} {σ : L2.St} {F : Hp} {L : Cells} {R : VP} {ta tb te : TE} {t : TA} {C : Addr} {E : XK} {S1 S2 : VP}
end
/-! f'..' -/
section
variable {K : PySem.W.Frag} {σ : L2.St} {F : Hp} {L : Cells} {te : TE}
theorem r_fmtI {n : Nat} (h : Run (te σ) F L (Dt K (nI n))) (hn : n ≤ 1000) : Run (tFmt te σ) F L (Dt K (.str (toString (n : Int)))) :=
  run_bind (k := te σ) h fun x F1 e hx => fun F2 N H e2 A Q q => by
    cases hx
    exact .inr ⟨n, rfl, log_small hn, q _ F2 H (Same.refl _) A (.str _)⟩
theorem r_fmtS {y : Str} (h : Run (te σ) F L (Dt K (.str y))) (hn : y.length ≤ 100000) : Run (tFmt te σ) F L (Dt K (.str y)) :=
  run_bind (k := te σ) h fun x F1 e hx => fun F2 N H e2 A Q q => by
    cases hx
    exact .inl ⟨y, rfl, len_ok hn, q _ F2 H (Same.refl _) A (.str _)⟩
end
/-! words within comprehension blocks: the world told too -/
section
variable {X : Cx} {e : Expr} {es : List Expr} {t : TA} {p pos : Pos}
end
end Rs

/-! Tw0: from readings to what they ask in plain terms: no heap, no places. -/
namespace Tw
open PySem PySem.Spec PyProof.Rows L2 SlX StX Rs Ma
variable [Rs.Tabz]
/-- what is wanted of a result, of an exception -/
abbrev Wm (ε α : Type) := (α → Prop) → (ε → Prop) → Prop
@[reducible] def pur {ε α : Type} (a : α) : Wm ε α := fun Q _ => Q a
/-- how exceptions are told -/
structure Wsh (ε : Type) where
  wi : WX
  xr : ε → Value → Option Addr → Hp → Prop
  t : L2.St → Hp → Cells → Prop
  tl : ∀ σ F L M, t σ F L → t σ F (L ++ M)
section
variable {ε α β γ : Type} {Z : Wsh ε} {F F' F1 : Hp} {N M L : Cells} {X X' : ε → Prop}
def WishOk (Z : Wsh ε) (F : Hp) (N : Cells) (X : ε → Prop) : Prop := ∀ e cls d σ F1 L1 H1, Same F F1 → At F1 (L1 ++ N) H1 → Z.t σ F1 L1 → X e → Z.xr e cls d F1 → Z.wi cls d σ H1
theorem WishOk.up (h : WishOk Z F N X) (e : Same F F') : WishOk Z F' N X := fun x cls d σ F1 L1 H1 e1 => h x cls d σ F1 L1 H1 (e.trans e1)
theorem WishOk.push (h : WishOk Z F N X) : WishOk Z F (M ++ N) X := fun x cls d σ F1 L1 H1 e1 A t q r =>
  h x cls d σ F1 (L1 ++ M) H1 e1 (by rw [List.append_assoc]; exact A) (Z.tl _ _ _ _ t) q r
theorem WishOk.push1 {c : Addr × HO} (h : WishOk Z F N X) : WishOk Z F (c :: N) X := h.push (M := [c])
theorem WishOk.imp (h : WishOk Z F N X) (i : ∀ e, X' e → X e) : WishOk Z F N X' := fun x cls d σ F1 L1 H1 e1 A t q r => h x cls d σ F1 L1 H1 e1 A t (i _ q) r
/-- as Run, with the wish of exceptions -/
def RunW (Z : Wsh ε) (k : Hp → (α → Hp → Prop) → Prop) (F : Hp) (L : Cells) (R : α → Hp → Prop) (X : ε → Prop) : Prop :=
  ∀ F1 N H, Same F F1 → At F1 (L ++ N) H → WishOk Z F1 N X → ∀ Q : α → Hp → Prop, (∀ v F2 H2, Same F1 F2 → At F2 (L ++ N) H2 → R v F2 → Q v H2) → k H Q
variable {k : Hp → (α → Hp → Prop) → Prop} {R R' : α → Hp → Prop}
theorem RunW.of (h : Run k F L R) : RunW Z k F L R X := fun F1 N H e A _ Q q => h F1 N H e A Q q
theorem RunW.up (h : RunW Z k F L R X) (e : Same F F1) : RunW Z k F1 L R X := fun F2 N H e2 A w Q q => h F2 N H (e.trans e2) A w Q q
theorem RunW.weak (h : RunW Z k F L R X) (hr : ∀ v F2, Same F F2 → R v F2 → R' v F2) : RunW Z k F L R' X := fun F2 N H e2 A w Q q =>
  h F2 N H e2 A w Q fun v F3 H3 e3 A3 r => q v F3 H3 e3 A3 (hr v F3 (e2.trans e3) r)
theorem rw_bind {k2 : α → Hp → (β → Hp → Prop) → Prop} {S : β → Hp → Prop} (h1 : RunW Z k F L R X) (h2 : ∀ v F1, Same F F1 → R v F1 → RunW Z (k2 v) F1 L S X) : RunW Z (fun H Q => k H fun v H1 => k2 v H1 Q) F L S X := fun F1 N H e A w Q q =>
  h1 F1 N H e A w _ fun v F2 H2 e2 A2 r => h2 v F2 (e.trans e2) r F2 N H2 (Same.refl _) A2 (w.up e2) Q fun u F3 H3 e3 A3 s => q u F3 H3 (e2.trans e3) A3 s
theorem rw_ret {v : α} (h : ∀ F1, Same F F1 → R v F1) : RunW Z (fun H Q => Q v H) F L R X := RunW.of (run_ret h)
end

/-! ### what the slots hold -/
def SatV : List (Option VP) → L2.St → Hp → Prop
  | [], [], _ => True
  | none :: ρ, _ :: σ, F => SatV ρ σ F
  | some R :: ρ, o :: σ, F => (∃ v, o = some v ∧ R v F ∧ Mono R) ∧ SatV ρ σ F
  | _, _, _ => False
def lk : List (Option VP) → Nat → Option VP
  | [], _ => none
  | o :: _, 0 => o
  | _ :: ρ, i + 1 => lk ρ i
def st : List (Option VP) → Nat → Option VP → List (Option VP)
  | [], _, _ => []
  | _ :: ρ, 0, o => o :: ρ
  | p :: ρ, i + 1, o => p :: st ρ i o
def wipeE (ρ : List (Option VP)) : List Nat → List (Option VP)
  | [] => ρ
  | v :: vs => st (wipeE ρ vs) v none
section
variable {ρ ρ' : List (Option VP)} {σ σ' : L2.St} {F F' : Hp} {i j : Nat} {R : VP} {v : V}
theorem satV_up (e : Same F F') : ∀ {ρ σ}, SatV ρ σ F → SatV ρ σ F'
  | [], [], _ => True.intro
  | none :: ρ, _ :: σ, h => satV_up (ρ := ρ) (σ := σ) e h
  | some R :: ρ, o :: σ, ⟨⟨v, h1, h2, h3⟩, h⟩ => ⟨⟨v, h1, h3.mono _ _ _ e h2, h3⟩, satV_up (ρ := ρ) (σ := σ) e h⟩
  | [], _ :: _, h => h.elim
  | none :: _, [], h => h.elim
  | some _ :: _, [], h => h.elim
theorem satV_get : ∀ {ρ σ i}, SatV ρ σ F → lk ρ i = some R → ∃ v, σ[i]? = some (some v) ∧ R v F ∧ Mono R
  | none :: ρ, _ :: σ, 0, h, e => nomatch e
  | none :: ρ, _ :: σ, i + 1, h, e => satV_get (ρ := ρ) (σ := σ) (i := i) h e
  | some S :: ρ, o :: σ, 0, ⟨⟨v, h1, h2, h3⟩, h⟩, e => by
    cases e
    exact ⟨v, by rw [h1]; rfl, h2, h3⟩
  | some S :: ρ, o :: σ, i + 1, ⟨_, h⟩, e => satV_get (ρ := ρ) (σ := σ) (i := i) h e
  | [], _, _, _, e => nomatch e
  | none :: _, [], _, h, _ => h.elim
  | some _ :: _, [], _, h, _ => h.elim
theorem satV_none : ∀ {ρ σ i} {o : Option V}, SatV ρ σ F → SatV (st ρ i none) (σ.set i o) F
  | [], [], _, _, h => h
  | none :: ρ, _ :: σ, 0, _, h => h
  | none :: ρ, _ :: σ, i + 1, o, h => satV_none (ρ := ρ) (σ := σ) (i := i) (o := o) h
  | some S :: ρ, _ :: σ, 0, _, h => h.2
  | some S :: ρ, _ :: σ, i + 1, o, h => ⟨h.1, satV_none (ρ := ρ) (σ := σ) (i := i) (o := o) h.2⟩
  | [], _ :: _, _, _, h => h.elim
  | none :: _, [], _, _, h => h.elim
  | some _ :: _, [], _, _, h => h.elim
theorem satV_set (hr : R v F) (m : Mono R) : ∀ {ρ σ i}, SatV ρ σ F → SatV (st ρ i (some R)) (σ.set i (some v)) F
  | [], [], _, h => h
  | none :: ρ, _ :: σ, 0, h => ⟨⟨v, rfl, hr, m⟩, h⟩
  | none :: ρ, _ :: σ, i + 1, h => satV_set hr m (ρ := ρ) (σ := σ) (i := i) h
  | some S :: ρ, _ :: σ, 0, h => ⟨⟨v, rfl, hr, m⟩, h.2⟩
  | some S :: ρ, _ :: σ, i + 1, h => ⟨h.1, satV_set hr m (ρ := ρ) (σ := σ) (i := i) h.2⟩
  | [], _ :: _, _, h => h.elim
  | none :: _, [], _, h => h.elim
  | some _ :: _, [], _, h => h.elim
theorem satV_wipe (h : SatV ρ σ F) : ∀ vs, SatV (wipeE ρ vs) (wipe σ vs) F
  | [] => h
  | v :: vs => satV_none (satV_wipe h vs)
/-- some is forgotten -/
def leV : List (Option VP) → List (Option VP) → Prop
  | [], [] => True
  | _ :: ρ, none :: ρ' => leV ρ ρ'
  | some R :: ρ, some R' :: ρ' => R = R' ∧ leV ρ ρ'
  | _, _ => False
theorem satV_le : ∀ {ρ ρ' σ}, leV ρ ρ' → SatV ρ σ F → SatV ρ' σ F
  | [], [], _, _, h => h
  | none :: ρ, none :: ρ', _ :: σ, l, h => satV_le (ρ := ρ) (ρ' := ρ') (σ := σ) l h
  | some R :: ρ, none :: ρ', _ :: σ, l, h => satV_le (ρ := ρ) (ρ' := ρ') (σ := σ) l h.2
  | some R :: ρ, some R' :: ρ', o :: σ, l, h => by
    obtain ⟨l1, l2⟩ := l
    subst l1
    exact ⟨h.1, satV_le (ρ := ρ) (ρ' := ρ') (σ := σ) l2 h.2⟩
  | none :: _, some _ :: _, _, l, _ => l.elim
  | [], _ :: _, _, l, _ => l.elim
  | none :: _, [], _, l, _ => l.elim
  | some _ :: _, [], _, l, _ => l.elim
  | none :: _, none :: _, [], _, h => h.elim
  | some _ :: _, none :: _, [], _, h => h.elim
  | some _ :: _, some _ :: _, [], _, h => h.elim
end

/-! ### cells of one's own -/
/-- a cell of one's own that a slot holds; a thing of several cells -/
inductive Ow where
  | one (i : Nat) (p : Addr → HO → Hp → Prop)
  | many (i : Nat) (P : Addr → Cells → Hp → Prop)
def Ow.slot : Ow → Nat
  | .one i _ => i
  | .many i _ => i
def Ow.hold : Ow → Addr → Cells → Hp → Prop
  | .one _ p => fun a M F => ∃ o, M = [(a, o)] ∧ p a o F
  | .many _ P => P
def SatC : List Ow → L2.St → Hp → Cells → Prop
  | [], _, _, _ => True
  | .one i p :: κ, σ, F, L => ∃ a o L', L = (a, o) :: L' ∧ σ[i]? = some (some (.ref a)) ∧ (∀ F', Same F F' → p a o F') ∧ SatC κ σ F L'
  | .many i P :: κ, σ, F, L => ∃ a M L', L = M ++ L' ∧ σ[i]? = some (some (.ref a)) ∧ (∀ F', Same F F' → P a M F') ∧ SatC κ σ F L'
theorem satC_cons {c : Ow} {κ : List Ow} {σ : L2.St} {F : Hp} {L : Cells} : SatC (c :: κ) σ F L ↔ ∃ a M L', L = M ++ L' ∧ σ[c.slot]? = some (some (.ref a)) ∧ (∀ F', Same F F' → c.hold a M F') ∧ SatC κ σ F L' := by
  cases c with
  | one i p =>
    refine ⟨fun ⟨a, o, L', h1, h2, h3, h4⟩ => ⟨a, [(a, o)], L', h1, h2, fun F' e => ⟨o, rfl, h3 F' e⟩, h4⟩, fun ⟨a, M, L', h1, h2, h3, h4⟩ => ?_⟩
    obtain ⟨o, hM, _⟩ := h3 F (Same.refl _)
    subst hM
    refine ⟨a, o, L', h1, h2, fun F' e => ?_, h4⟩
    obtain ⟨o', hM, hp⟩ := h3 F' e
    cases hM
    exact hp
  | many i P => exact Iff.rfl
/-- a list of one's own -/
def ownL (Rs : List VP) : Addr → HO → Hp → Prop := fun _ o F => ∃ vs, o = .lst vs ∧ Each Rs vs F
def freeC (i : Nat) : List Ow → Bool
  | [] => true
  | c :: κ => !(Nat.beq c.slot i) && freeC i κ
def freeCs (vs : List Nat) (κ : List Ow) : Bool := vs.all fun v => freeC v κ
section
variable {κ κ' : List Ow} {σ σ' : L2.St} {F F' : Hp} {L M : Cells} {i j : Nat} {v : V} {o : Option V}
theorem satC_up (e : Same F F') : ∀ {κ L}, SatC κ σ F L → SatC κ σ F' L
  | [], _, _ => True.intro
  | c :: κ, _, h => let ⟨a, o, L', h1, h2, h3, h4⟩ := satC_cons.mp h; satC_cons.mpr ⟨a, o, L', h1, h2, fun F2 e2 => h3 F2 (e.trans e2), satC_up e h4⟩
theorem satC_set : ∀ {κ L}, freeC i κ = true → SatC κ σ F L → SatC κ (σ.set i o) F L
  | [], _, _, _ => True.intro
  | c :: κ, _, f, h => by
    obtain ⟨a, o, L', h1, h2, h3, h4⟩ := satC_cons.mp h
    rw [freeC, Bool.and_eq_true] at f
    obtain ⟨f1, f2⟩ := f
    refine satC_cons.mpr ⟨a, o, L', h1, ?_, h3, satC_set f2 h4⟩
    rw [List.getElem?_set_ne, h2]
    intro z
    rw [z, Nat.beq_refl] at f1
    cases f1
theorem satC_wipe (h : SatC κ σ F L) : ∀ {vs}, freeCs vs κ = true → SatC κ (wipe σ vs) F L
  | [], _ => h
  | v :: vs, f => by
    rw [freeCs, List.all_cons, Bool.and_eq_true] at f
    exact satC_set f.1 (satC_wipe h f.2)
/-- the same slots hold the same -/
theorem satC_agree {js : List Nat} (ag : ∀ i, i ∉ js → σ'[i]? = σ[i]?) : ∀ {κ L}, freeCs js κ = true → SatC κ σ F L → SatC κ σ' F L
  | [], _, _, _ => True.intro
  | c :: κ, _, f, h => by
    obtain ⟨a, o, L', h1, h2, h3, h4⟩ := satC_cons.mp h
    refine satC_cons.mpr ⟨a, o, L', h1, ?_, h3, satC_agree ag ?_ h4⟩
    · rw [ag, h2]
      intro z
      have := List.all_eq_true.mp f _ z
      rw [freeC, Bool.and_eq_true, Nat.beq_refl] at this
      exact absurd this.1 (by decide)
    · refine List.all_eq_true.mpr fun x hx => ?_
      have := List.all_eq_true.mp f x hx
      rw [freeC, Bool.and_eq_true] at this
      exact this.2
/-- two things change places -/
theorem satC_swap {c d : Ow} (h : SatC (c :: d :: κ) σ F L) : ∃ L2, L.Perm L2 ∧ SatC (d :: c :: κ) σ F L2 := by
  obtain ⟨a, M, L', h1, h2, h3, h4⟩ := satC_cons.mp h
  obtain ⟨a', M', L'', h1', h2', h3', h4'⟩ := satC_cons.mp h4
  subst h1 h1'
  refine ⟨M' ++ (M ++ L''), ?_, satC_cons.mpr ⟨a', M', _, rfl, h2', h3', satC_cons.mpr ⟨a, M, L'', rfl, h2, h3, h4'⟩⟩⟩
  rw [← List.append_assoc, ← List.append_assoc]
  exact List.perm_append_comm.append_right _
end

/-! ### the judgements -/
section
variable {ε α β γ δ S : Type}
structure TrE (Z : Wsh ε) (ρ : List (Option VP)) (κ : List Ow) (te : TE) (m : Wm ε α) (R : α → VP) : Prop where
  mono : ∀ a, Mono (R a)
  run : ∀ σ F L, SatV ρ σ F → SatC κ σ F L → ∀ Q X, m Q X → RunW Z (te σ) F L (fun v F1 => ∃ a, Q a ∧ R a v F1) X
structure TrT (Z : Wsh ε) (ρ : List (Option VP)) (κ : List Ow) (tt : TT) (m : Wm ε Bool) : Prop where
  run : ∀ σ F L, SatV ρ σ F → SatC κ σ F L → ∀ Q X, m Q X → RunW Z (tt σ) F L (fun b _ => Q b) X
structure TrA (Z : Wsh ε) (ρ : List (Option VP)) (κ : List Ow) (ta : TA) (m : Wm ε γ) (Rs : γ → List VP) : Prop where
  mono : ∀ g, MonoL (Rs g)
  run : ∀ σ F L, SatV ρ σ F → SatC κ σ F L → ∀ Q X, m Q X → RunW Z (ta σ) F L (fun vs F1 => ∃ g, Q g ∧ Each (Rs g) vs F1) X
structure TrI (Z : Wsh ε) (ρ : List (Option VP)) (κ : List Ow) (wi : TI) (m : Wm ε (List β)) (Rx : β → VP) : Prop where
  mono : ∀ a, Mono (Rx a)
  run : ∀ σ F L, SatV ρ σ F → SatC κ σ F L → ∀ Q X, m Q X → RunW Z (wi σ) F L (fun J F1 => ∃ xs, Q xs ∧ Seqs J (xs.map Rx) F1) X
/-- what a block ends with: on, or a value handed back -/
abbrev Ws (ε S α : Type) := (S → Prop) → (α → Prop) → (ε → Prop) → Prop
def RunSW (Z : Wsh ε) (t : TS) (σ : L2.St) (F : Hp) (L : Cells) (Nx : L2.St → Hp → Cells → Prop) (Rt : VP) (X : ε → Prop) : Prop :=
  ∀ F1 N H, Same F F1 → At F1 (L ++ N) H → WishOk Z F1 N X → ∀ D : Ends, (∀ σ' F' L' H', Same F1 F' → At F' (L' ++ N) H' → Nx σ' F' L' → D.nx σ' H') → (∀ v F' H', Same F1 F' → At F' N H' → Rt v F' → D.rt v H') → t D σ H
structure TrS (Z : Wsh ε) (ρ : List (Option VP)) (κ : List Ow) (t : TS) (m : Ws ε S α) (ρ2 : S → List (Option VP)) (κ2 : S → List Ow) (R : α → VP) : Prop where
  run : ∀ σ F L, SatV ρ σ F → SatC κ σ F L → ∀ Nx Rt X, m Nx Rt X → RunSW Z t σ F L (fun σ' F' L' => ∃ s, Nx s ∧ SatV (ρ2 s) σ' F' ∧ SatC (κ2 s) σ' F' L') (fun v F' => ∃ a, Rt a ∧ R a v F') X
end
end Tw

/-! Tw1: expressions. -/
namespace Tw
open PySem PySem.Spec PyProof.Rows L2 SlX StX Rs Ma
variable [Rs.Tabz]
/-! ### families of values -/
def dInt : Int → PyData := fun i => .int i
def dN : Nat → PyData := fun n => .int (n : Nat)
def dB : Bool → PyData := fun b => .bool b
def dS : Str → PyData := fun x => .str x
def dU : Unit → PyData := fun _ => .none
def dT {α : Type} (d : α → PyData) : List α → PyData := fun xs => .tuple (xs.map d)
def dL {α : Type} (d : α → PyData) : List α → PyData := fun xs => .list (xs.map d)
def dP {α β : Type} (d : α → PyData) (e : β → PyData) : α × β → PyData := fun p => .tuple [d p.1, e p.2]
def dP3 {α β γ : Type} (d : α → PyData) (e : β → PyData) (f : γ → PyData) : α × β × γ → PyData := fun p => .tuple [d p.1, e p.2.1, f p.2.2]
def dA : PyData → PyData := fun d => d
def fD (K : PySem.W.Frag) {α : Type} (d : α → PyData) : α → VP := fun a => Dt K (d a)
def fTp (K : PySem.W.Frag) {α : Type} (R : α → VP) : List α → VP := fun xs => Tp K (xs.map R)
def fLn {α : Type} (R : α → VP) : List α → VP := fun xs => Ln (xs.map R)
def fP (K : PySem.W.Frag) {α β : Type} (R : α → VP) (S : β → VP) : α × β → VP := fun p => Tp K [R p.1, S p.2]
instance {K : PySem.W.Frag} {α : Type} {d : α → PyData} {a : α} : Mono (fD K d a) := inferInstanceAs (Mono (Dt K (d a)))
instance {K : PySem.W.Frag} {α : Type} {R : α → VP} [∀ a, Mono (R a)] {xs : List α} : Mono (fTp K R xs) := inferInstanceAs (Mono (Tp K (xs.map R)))
instance {α : Type} {R : α → VP} [∀ a, Mono (R a)] {xs : List α} : Mono (fLn R xs) := inferInstanceAs (Mono (Ln (xs.map R)))
instance {K : PySem.W.Frag} {α β : Type} {R : α → VP} {S : β → VP} [∀ a, Mono (R a)] [∀ a, Mono (S a)] {p : α × β} : Mono (fP K R S p) := inferInstanceAs (Mono (Tp K [R p.1, S p.2]))
/-- data of which == tells whether it is the same -/
class Nice {α : Type} [DecidableEq α] (d : α → PyData) (n : outParam Nat) : Prop where
  lay : ∀ a, (d a).canLay0 = true
  dep : ∀ a, (d a).depth ≤ n
  eq : ∀ a b, PyData.eqv (d a) (d b) = decide (a = b)
instance : Nice dInt 0 := ⟨fun _ => rfl, fun _ => Nat.zero_le _, fun a b => by
  show (a == b) = _
  by_cases h : a = b
  · subst h; simp
  · simp [h]⟩
instance : Nice dN 0 := ⟨fun _ => rfl, fun _ => Nat.zero_le _, fun a b => by
  show (((a : Nat) : Int) == ((b : Nat) : Int)) = _
  by_cases h : a = b
  · subst h; simp
  · have h' : ¬ ((a : Nat) : Int) = ((b : Nat) : Int) := by omega
    simp [h, h']⟩
instance : Nice dB 0 := ⟨fun _ => rfl, fun _ => Nat.zero_le _, fun a b => by
  show (a == b) = _
  by_cases h : a = b
  · subst h; simp
  · simp [h]⟩
instance {α : Type} [DecidableEq α] {d : α → PyData} {n : Nat} [h : Nice d n] : Nice (dT d) (n + 1) := ⟨fun a => by rw [dT, PyData.canLay0]; exact lay_all h.lay, fun a => by
  rw [dT, PyData.depth]
  have := dep_all h.dep (xs := a)
  omega, fun a b => by rw [dT, dT, PyData.eqv]; exact eqvAll_of h.eq⟩
instance {α : Type} [DecidableEq α] {d : α → PyData} {n : Nat} [h : Nice d n] : Nice (dL d) (n + 1) := ⟨fun a => by rw [dL, PyData.canLay0]; exact lay_all h.lay, fun a => by
  rw [dL, PyData.depth]
  have := dep_all h.dep (xs := a)
  omega, fun a b => by rw [dL, dL, PyData.eqv]; exact eqvAll_of h.eq⟩
instance {α β : Type} [DecidableEq α] [DecidableEq β] {d : α → PyData} {e : β → PyData} {n m : Nat} [h : Nice d n] [g : Nice e m] : Nice (dP d e) (n + m + 1) := ⟨fun a => by
  simp only [dP, PyData.canLay0, PyData.canLayAll0, h.lay, g.lay, Bool.and_self], fun a => by
  have h1 := h.dep a.1
  have h2 := g.dep a.2
  simp only [dP, PyData.depth, PyData.depthAll]
  omega, fun a b => by
  simp only [dP, PyData.eqv, PyData.eqvAll, h.eq, g.eq, Bool.and_true]
  obtain ⟨a1, a2⟩ := a
  obtain ⟨b1, b2⟩ := b
  by_cases h1 : a1 = b1 <;> by_cases h2 : a2 = b2 <;> simp [h1, h2]⟩
theorem nice_shaped {α : Type} [DecidableEq α] {d : α → PyData} {n : Nat} [h : Nice d n] (hn : n ≤ 64) (a : α) : SeqAt.shaped (d a) = true := shaped_of (h.lay a) (Nat.le_trans (h.dep a) hn)
theorem nice_any {α : Type} [DecidableEq α] {d : α → PyData} {n : Nat} [h : Nice d n] {a : α} : ∀ {xs : List α}, ((xs.map d).any fun z => PyData.eqv z (d a)) = decide (a ∈ xs)
  | [] => rfl
  | x :: xs => by
    rw [List.map_cons, List.any_cons, h.eq, nice_any (xs := xs)]
    by_cases h1 : x = a
    · subst h1; simp
    · have h2 : ¬ a = x := fun z => h1 z.symm
      simp [h1, h2]

section
variable {ε α β γ δ : Type} {Z : Wsh ε} {ρ : List (Option VP)} {κ : List Ow} {K : PySem.W.Frag} {w : World} {te ta tb tc : TE} {tt tu : TT} {t : TA} {ma : Wm ε α} {mb : Wm ε β} {m : Wm ε α} {Ra R : α → VP} {Rb : β → VP} {Rc : γ → VP} {r r' : R2} {i j : Nat}
theorem TrE.of [∀ a, Mono (R a)] (h : ∀ σ F L, SatV ρ σ F → SatC κ σ F L → ∀ Q X, m Q X → Run (te σ) F L (fun v F1 => ∃ a, Q a ∧ R a v F1)) : TrE Z ρ κ te m R := ⟨inferInstance, fun σ F L s c Q X q => .of (h σ F L s c Q X q)⟩
theorem tr_c {v : V} {a : α} [∀ a, Mono (R a)] (h : ∀ F, R a v F) : TrE Z ρ κ (tC v) (pur a) R := .of fun σ F L s c Q X q => run_ret fun F1 e => ⟨a, q, h F1⟩
theorem tr_int {j : Int} : TrE Z ρ κ (tC (.int j)) (pur j) (fD K dInt) := tr_c (R := fD K dInt) fun F => .int j
theorem tr_nat (n : Nat) : TrE Z ρ κ (tC (.int (n : Nat))) (pur n) (fD K dN) := tr_c (R := fD K dN) fun F => .int _
theorem tr_bl {b : Bool} : TrE Z ρ κ (tC (.bl b)) (pur b) (fD K dB) := tr_c (R := fD K dB) fun F => .bl b
theorem tr_str {x : Str} : TrE Z ρ κ (tC (.str x)) (pur x) (fD K dS) := tr_c (R := fD K dS) fun F => .str x
theorem tr_non : TrE Z ρ κ (tC .non) (pur ()) (fD K dU) := tr_c (R := fD K dU) fun F => .non
theorem tr_var {a : α} [∀ a, Mono (R a)] (h : lk ρ i = some (R a)) : TrE Z ρ κ (tVar i) (pur a) R := .of fun σ F L s c Q X q => by
  obtain ⟨v, e, hr, m⟩ := satV_get s h
  exact (r_var e hr).weak fun _ _ _ hv => ⟨a, q, hv⟩
theorem TrE.conv {β : Type} {R' : β → VP} [∀ a, Mono (R' a)] (f : α → β) (h : TrE Z ρ κ te m R) (hr : ∀ a v F, R a v F → R' (f a) v F) : TrE Z ρ κ te (fun Q X => m (fun a => Q (f a)) X) R' :=
  ⟨inferInstance, fun σ F L s c Q X q => (h.run σ F L s c _ X q).weak fun v F2 e ⟨a, q1, r1⟩ => ⟨f a, q1, hr a v F2 r1⟩⟩
theorem tr_ni {m : Wm ε Nat} (h : TrE Z ρ κ te m (fD K dN)) : TrE Z ρ κ te (fun Q X => m (fun n => Q (n : Int)) X) (fD K dInt) := h.conv _ fun _ _ _ x => x
theorem fTp_dT {d : α → PyData} {xs : List α} {v : V} {F : Hp} : fTp K (fD K d) xs v F ↔ fD K (dT d) xs v F := by
  show Tp K (xs.map (fD K d)) v F ↔ Dt K (.tuple (xs.map d)) v F
  rw [← tp_dt, List.map_map]
  exact Iff.rfl
theorem rLn_dL {d : α → PyData} {xs : List α} {v : V} {F : Hp} (h : fLn (fD K d) xs v F) : fD K (dL d) xs v F :=
  ls_dt.mp (by rw [List.map_map]; exact Ln.ls h)
theorem rP_dP {d : α → PyData} {e : β → PyData} {p : α × β} {v : V} {F : Hp} : fP K (fD K d) (fD K e) p v F ↔ fD K (dP d e) p v F := by
  show Tp K ([d p.1, e p.2].map (Dt K)) v F ↔ _
  exact tp_dt
theorem TrE.same {R' : α → VP} [∀ a, Mono (R' a)] (h : TrE Z ρ κ te m R) (hr : ∀ a v F, R a v F → R' a v F) : TrE Z ρ κ te m R' :=
  ⟨inferInstance, fun σ F L s c Q X q => (h.run σ F L s c _ X q).weak fun v F2 e ⟨a, q1, r1⟩ => ⟨a, q1, hr a v F2 r1⟩⟩
theorem tr_tpD {d : α → PyData} {m : Wm ε (List α)} (h : TrE Z ρ κ te m (fTp K (fD K d))) : TrE Z ρ κ te m (fD K (dT d)) := h.same fun _ _ _ => fTp_dT.mp
theorem tr_dTp {d : α → PyData} {m : Wm ε (List α)} (h : TrE Z ρ κ te m (fD K (dT d))) : TrE Z ρ κ te m (fTp K (fD K d)) := h.same fun _ _ _ => fTp_dT.mpr
theorem tr_lnD {d : α → PyData} {m : Wm ε (List α)} (h : TrE Z ρ κ te m (fLn (fD K d))) : TrE Z ρ κ te m (fD K (dL d)) := h.same fun _ _ _ => rLn_dL
theorem tr_pD {d : α → PyData} {e : β → PyData} {m : Wm ε (α × β)} (h : TrE Z ρ κ te m (fP K (fD K d) (fD K e))) : TrE Z ρ κ te m (fD K (dP d e)) := h.same fun _ _ _ => rP_dP.mp
/-! ### operations of two -/
structure Op2 (ε : Type) (r : R2) (Ra : α → VP) (Rb : β → VP) (mf : α → β → Wm ε γ) (Rc : γ → VP) : Prop where
  run : ∀ a b x y F L, Ra a x F → Rb b y F → ∀ Q X, mf a b Q X → Run (fun H q => r x y H q) F L (fun v F1 => ∃ c, Q c ∧ Rc c v F1)
theorem tr_op [∀ c, Mono (Rc c)] {mf : α → β → Wm ε γ} (o : Op2 ε r Ra Rb mf Rc) (ha : TrE Z ρ κ ta ma Ra) (hb : TrE Z ρ κ tb mb Rb) : TrE Z ρ κ (tOp r ta tb) (fun Q X => ma (fun a => mb (fun b => mf a b Q X) X) X) Rc :=
  ⟨inferInstance, fun σ F L s c Q X q => rw_bind (k := ta σ) (ha.run σ F L s c _ X q) fun x F1 e1 ⟨a, q1, hx⟩ => rw_bind (k := tb σ) (hb.run σ F1 L (satV_up e1 s) (satC_up e1 c) _ X q1) fun y F2 e2 ⟨b, q2, hy⟩ =>
    .of (o.run a b x y F2 L ((ha.mono a).mono _ _ _ e2 hx) hy Q X q2)⟩
/-- from a run of constants -/
theorem op_of {mf : α → β → Wm ε γ} (h : ∀ a b x y F L, Ra a x F → Rb b y F → ∀ Q X, mf a b Q X → ∃ c, Q c ∧ Run (tOp r (tC x) (tC y) []) F L (Rc c)) : Op2 ε r Ra Rb mf Rc :=
  ⟨fun a b x y F L hx hy Q X q => by
    obtain ⟨c, q1, h1⟩ := h a b x y F L hx hy Q X q
    exact Run.weak (k := fun H q => r x y H q) h1 fun v F1 e hv => ⟨c, q1, hv⟩⟩
theorem op_pur {f : α → β → γ} (h : ∀ a b x y F L, Ra a x F → Rb b y F → Run (tOp r (tC x) (tC y) []) F L (Rc (f a b))) : Op2 ε r Ra Rb (fun a b => pur (f a b)) Rc :=
  op_of fun a b x y F L hx hy Q X q => ⟨f a b, q, h a b x y F L hx hy⟩
variable {f : Int → Int → Int} {g : Int → Int → Bool} {C : Int → Int → Prop}
theorem o_i0i : Op2 ε (rI0 fun i j => .int (f i j)) (fD K dInt) (fD K dInt) (fun a b => pur (f a b)) (fD K dInt) :=
  op_pur fun a b x y F L hx hy => r_I0i (r_c (R := Dt K (.int a)) hx) (r_c (R := Dt K (.int b)) hy)
theorem o_i0b : Op2 ε (rI0 fun i j => .bl (g i j)) (fD K dInt) (fD K dInt) (fun a b => pur (g a b)) (fD K dB) :=
  op_pur fun a b x y F L hx hy => r_I0b (r_c (R := Dt K (.int a)) hx) (r_c (R := Dt K (.int b)) hy)
theorem o_ii : Op2 ε (rI C fun i j => .int (f i j)) (fD K dInt) (fD K dInt) (fun a b Q X => C a b ∧ Q (f a b)) (fD K dInt) :=
  op_of fun a b x y F L hx hy Q X q => ⟨_, q.2, r_Ii (r_c (R := Dt K (.int a)) hx) (r_c (R := Dt K (.int b)) hy) q.1⟩
theorem o_addN : Op2 ε (rI0 fun i j => .int (i + j)) (fD K dN) (fD K dN) (fun a b => pur (a + b)) (fD K dN) :=
  op_pur fun a b x y F L hx hy => r_is (r_I0i (r_c (R := Dt K (.int a)) hx) (r_c (R := Dt K (.int b)) hy)) (by show _ = PyData.int ((a + b : Nat) : Int); rw [Int.natCast_add])
theorem o_ltN : Op2 ε (rI0 fun i j => .bl (decide (i < j))) (fD K dN) (fD K dN) (fun a b => pur (decide (a < b))) (fD K dB) :=
  op_pur fun a b x y F L hx hy => r_is (r_I0b (r_c (R := Dt K (.int a)) hx) (r_c (R := Dt K (.int b)) hy)) (congrArg PyData.bool (decide_eq_decide.mpr (by omega)))
theorem o_gtN : Op2 ε (rI0 fun i j => .bl (decide (j < i))) (fD K dN) (fD K dN) (fun a b => pur (decide (b < a))) (fD K dB) :=
  op_pur fun a b x y F L hx hy => r_is (r_I0b (r_c (R := Dt K (.int a)) hx) (r_c (R := Dt K (.int b)) hy)) (congrArg PyData.bool (decide_eq_decide.mpr (by omega)))
theorem o_eqN : Op2 ε rEq (fD K dN) (fD K dN) (fun a b => pur (decide (a = b))) (fD K dB) := op_pur fun a b x y F L hx hy => r_eqN (r_c (R := Dt K (nI a)) hx) (r_c (R := Dt K (nI b)) hy)
theorem o_neN : Op2 ε rNe (fD K dN) (fD K dN) (fun a b => pur (!decide (a = b))) (fD K dB) := op_pur fun a b x y F L hx hy => r_neN (r_c (R := Dt K (nI a)) hx) (r_c (R := Dt K (nI b)) hy)
theorem o_eqI : Op2 ε rEq (fD K dInt) (fD K dInt) (fun a b => pur (decide (a = b))) (fD K dB) := op_pur fun a b x y F L hx hy => r_eqI (r_c (R := Dt K (.int a)) hx) (r_c (R := Dt K (.int b)) hy)
theorem o_neS : Op2 ε rNe (fD K dS) (fD K dS) (fun a b => pur (!decide (a = b))) (fD K dB) := op_pur fun a b x y F L hx hy => by
  cases hx; cases hy
  refine fun F2 N H e2 A Q q => ⟨rfl, q _ F2 H (Same.refl _) A ?_⟩
  have e : decide (V.str a = V.str b) = decide (a = b) := decide_eq_decide.mpr ⟨fun h => V.str.inj h, fun h => h ▸ rfl⟩
  rw [e]; exact .bl _
theorem o_neB : Op2 ε rNe (fD K dB) (fD K dB) (fun a b => pur (!decide (a = b))) (fD K dB) := op_pur fun a b x y F L hx hy => by
  cases hx; cases hy
  refine fun F2 N H e2 A Q q => ⟨rfl, q _ F2 H (Same.refl _) A ?_⟩
  have e : decide (V.bl a = V.bl b) = decide (a = b) := decide_eq_decide.mpr ⟨fun h => V.bl.inj h, fun h => h ▸ rfl⟩
  rw [e]; exact .bl _
theorem o_eqD [DecidableEq α] {d : α → PyData} {n : Nat} [Nice d n] (hn : n ≤ 64 := by decide) : Op2 ε (rEqD K) (fD K d) (fD K d) (fun a b => pur (decide (a = b))) (fD K dB) :=
  op_pur fun a b x y F L hx hy => r_is (r_eqD (r_c (R := Dt K (d a)) hx) (r_c (R := Dt K (d b)) hy) (nice_shaped hn a) (nice_shaped hn b)) (congrArg PyData.bool (Nice.eq a b))
theorem o_neD [DecidableEq α] {d : α → PyData} {n : Nat} [Nice d n] (hn : n ≤ 64 := by decide) : Op2 ε (rNeD K) (fD K d) (fD K d) (fun a b => pur (!decide (a = b))) (fD K dB) :=
  op_pur fun a b x y F L hx hy => r_is (r_neD (r_c (R := Dt K (d a)) hx) (r_c (R := Dt K (d b)) hy) (nice_shaped hn a) (nice_shaped hn b)) (congrArg (fun b => PyData.bool (!b)) (Nice.eq a b))
theorem o_inT : Op2 ε (rIn K false) (fD K dN) (fD K (dT dN)) (fun a b => pur (decide (a ∈ b))) (fD K dB) := op_pur fun a b x y F L hx hy => r_inN (r_c (R := Dt K (nI a)) hx) (r_c (R := Dt K (dRow b)) hy)
theorem o_notInT : Op2 ε (rIn K true) (fD K dN) (fD K (dT dN)) (fun a b => pur (!decide (a ∈ b))) (fD K dB) := op_pur fun a b x y F L hx hy => r_notInN (r_c (R := Dt K (nI a)) hx) (r_c (R := Dt K (dRow b)) hy)
theorem seqI_l2 {r : List Nat} {v : V} {F : Hp} (h : Dt K (.list (r.map dN)) v F) : seqI (cI r) v F K := seqI_l (ns := cI r) (row_int (r := r) ▸ h)
theorem o_inL : Op2 ε (rIn K false) (fD K dN) (fD K (dL dN)) (fun a b => pur (decide (a ∈ b))) (fD K dB) := op_pur fun a b x y F L hx hy =>
  r_is (r_in (i := ((a : Nat) : Int)) (r_c (R := Dt K (.int (a : Nat))) hx) (r_c (R := Dt K (.list (b.map dN))) hy) fun v F1 h => seqI_l2 h) (congrArg PyData.bool (decide_eq_decide.mpr mem_cI))
theorem o_notInDL [DecidableEq α] {d : α → PyData} {n : Nat} [h : Nice d n] (hn : n ≤ 63 := by decide) : Op2 ε (rNotInD K) (fD K d) (fD K (dL d)) (fun a b => pur (!decide (a ∈ b))) (fD K dB) :=
  op_pur fun a b x y F L hx hy => fun F2 N H e A Q q => ⟨d a, b.map d, dp_up (e.trans A.ex) hx, dp_up (e.trans A.ex) hy, nice_shaped (by omega) a, nice_shaped (d := dL d) (by omega) b, q _ F2 H (Same.refl _) A (by
    rw [nice_any (d := d)]; exact .bl _)⟩
/-! items -/
theorem o_ixT {d : α → PyData} : Op2 ε (rIxT K) (fD K (dT d)) (fD K dN) (fun xs i Q X => ∃ a, xs[i]? = some a ∧ Q a) (fD K d) :=
  op_of fun xs i x y F L hx hy Q X ⟨a, h, q⟩ => ⟨a, q, r_ixT (r_c (R := Dt K (.tuple (xs.map d))) hx) (r_c (R := Dt K (.int (i : Nat))) hy) (by rw [List.getElem?_map, h]; rfl)⟩
theorem o_ixLn [∀ a, Mono (R a)] : Op2 ε (rIxL K) (fLn R) (fD K dN) (fun xs i Q X => ∃ a, xs[i]? = some a ∧ Q a) R :=
  op_of fun xs i x y F L hx hy Q X ⟨a, h, q⟩ => ⟨a, q, r_ixLs (r_ls (r_c (R := Ln (xs.map R)) hx)) (r_c (R := Dt K (.int (i : Nat))) hy) (by rw [List.getElem?_map, h]; rfl)⟩
theorem o_ixTp [∀ a, Mono (R a)] : Op2 ε (rIxT K) (fTp K R) (fD K dN) (fun xs i Q X => ∃ a, xs[i]? = some a ∧ Q a) R :=
  op_of fun xs n x y F L hx hy Q X ⟨a, h, q⟩ => ⟨a, q, fun F1 N H e A Q q => by
    obtain ⟨p, vs, rfl, hs, hr⟩ := hx
    cases hy
    have hn : n < vs.length := by rw [each_length hr, List.length_map]; exact (List.getElem?_eq_some_iff.mp h).1
    obtain ⟨R', g1, g2⟩ := each_at hr (List.getElem?_eq_getElem hn)
    rw [List.getElem?_map, h] at g1
    cases g1
    exact ⟨p, vs, (n : Int), _, rfl, rfl, sqT_up (e.trans A.ex) hs, atI_nat (List.getElem?_eq_getElem hn), q _ F1 H (Same.refl _) A (Mono.go g2 e)⟩⟩
/-! texts, lists put together -/
theorem o_addS : Op2 ε (fun u v H Q => ∃ i j, u = V.str i ∧ v = .str j ∧ i.length + j.length ≤ sizeLine ∧ Q (.str (i ++ j)) H) (fD K dS) (fD K dS) (fun a b Q X => a.length + b.length ≤ 100000 ∧ Q (a ++ b)) (fD K dS) :=
  op_of fun a b x y F L hx hy Q X q => ⟨_, q.2, r_addS (r_c (R := Dt K (.str a)) hx) (r_c (R := Dt K (.str b)) hy) q.1⟩
theorem o_cat [∀ a, Mono (R a)] : Op2 ε rCat (fLn R) (fLn R) (fun a b Q X => a.length + b.length ≤ 10000 ∧ Q (a ++ b)) (fLn R) :=
  op_of fun a b x y F L hx hy Q X q => ⟨_, q.2, r_cat (r_c (R := Ln (a.map R)) hx) (r_c (R := Ln (b.map R)) hy) q.1⟩

/-! ### chains, truth -/
def chW (ma mb mc : Wm ε Int) (g1 g2 : Int → Int → Bool) : Wm ε Bool := fun Q X => ma (fun a => mb (fun b => if g1 a b = true then mc (fun c => Q (g2 b c)) X else Q false) X) X
def andW (ma mb : Wm ε Bool) : Wm ε Bool := fun Q X => ma (fun a => if a = true then mb Q X else Q false) X
def orW (ma mb : Wm ε Bool) : Wm ε Bool := fun Q X => ma (fun a => if a = true then Q true else mb Q X) X
theorem andW_of {ma mb : Wm ε Bool} {Q : Bool → Prop} {X : ε → Prop} (a b : Bool) (h1 : ∀ P : Bool → Prop, P a → ma P X) (h2 : a = true → ∀ P : Bool → Prop, P b → mb P X) (q : Q (a && b)) : andW ma mb Q X := by
  refine h1 _ ?_
  cases a with
  | true => exact h2 rfl Q q
  | false => exact q
theorem orW_of {ma mb : Wm ε Bool} {Q : Bool → Prop} {X : ε → Prop} (a b : Bool) (h1 : ∀ P : Bool → Prop, P a → ma P X) (h2 : a = false → ∀ P : Bool → Prop, P b → mb P X) (q : Q (a || b)) : orW ma mb Q X := by
  refine h1 _ ?_
  cases a with
  | false => exact h2 rfl Q q
  | true => exact q
theorem orW_l {a : Bool} {mb : Wm ε Bool} {Q : Bool → Prop} {X : ε → Prop} : orW (fun Q _ => Q a) mb Q X = if a = true then Q true else mb Q X := rfl
theorem tr_chain {ma mb mc : Wm ε Int} {g1 g2 : Int → Int → Bool} (ha : TrE Z ρ κ ta ma (fD K dInt)) (hb : TrE Z ρ κ tb mb (fD K dInt)) (hc : TrE Z ρ κ tc mc (fD K dInt)) :
    TrE Z ρ κ (tChain (rI0 fun i j => .bl (g1 i j)) (rI0 fun i j => .bl (g2 i j)) ta tb tc) (chW ma mb mc g1 g2) (fD K dB) :=
  ⟨inferInstance, fun σ F L s c Q X q => rw_bind (k := ta σ) (ha.run σ F L s c _ X q) fun x F1 e1 ⟨a, q1, hx⟩ => rw_bind (k := tb σ) (hb.run σ F1 L (satV_up e1 s) (satC_up e1 c) _ X q1) fun y F2 e2 ⟨b, q2, hy⟩ => by
    cases hx; cases hy
    refine rw_bind (k := fun H Q => rI0 (fun i j => .bl (g1 i j)) (.int a) (.int b) H Q) (R := Eqv (.bl (g1 a b))) (.of (run_ex a (run_ex b (run_and (fun _ _ _ _ _ => rfl) (run_and (fun _ _ _ _ _ => rfl) (run_ret fun _ _ => rfl)))))) fun z F3 e3 hz => ?_
    cases hz
    intro F4 N H e4 A wsh Qk qk
    refine ⟨g1 a b, rfl, ?_⟩
    cases hg : g1 a b with
    | true =>
      rw [hg, if_pos rfl] at q2
      refine iteT ?_
      refine rw_bind (k := tc σ) (k2 := fun w' H4 Q => rI0 (fun i j => .bl (g2 i j)) (.int b) w' H4 Q) (S := fun v F1 => ∃ a, Q a ∧ fD K dB a v F1) (hc.run σ F3 L (satV_up ((e1.trans e2).trans e3) s) (satC_up ((e1.trans e2).trans e3) c) _ X q2) (fun u F5 e5 ⟨cc, q5, hu⟩ => ?_) F4 N H e4 A wsh Qk qk
      cases hu
      exact .of (run_ex b (run_ex cc (run_and (fun _ _ _ _ _ => rfl) (run_and (fun _ _ _ _ _ => rfl) (run_ret fun _ _ => ⟨_, q5, .bl _⟩)))))
    | false =>
      rw [hg, if_neg Bool.false_ne_true] at q2
      refine iteF ?_
      exact qk _ F4 H (Same.refl _) A ⟨false, q2, .bl _⟩⟩
section
variable {ma mb mm : Wm ε Bool}
theorem tr_and (ha : TrE Z ρ κ ta ma (fD K dB)) (hb : TrE Z ρ κ tb mb (fD K dB)) : TrE Z ρ κ (tAndV ta tb) (andW ma mb) (fD K dB) :=
  ⟨inferInstance, fun σ F L s c Q X q => rw_bind (k := ta σ) (ha.run σ F L s c _ X q) fun x F1 e1 ⟨a, q1, hx⟩ => by
    cases hx
    intro F4 N H e4 A wsh Qk qk
    refine ⟨a, rfl, ?_⟩
    cases a with
    | true => exact iteT (hb.run σ F1 L (satV_up e1 s) (satC_up e1 c) Q X (by rwa [if_pos rfl] at q1) F4 N H e4 A wsh Qk qk)
    | false => exact iteF (qk _ F4 H (Same.refl _) A ⟨false, by rwa [if_neg Bool.false_ne_true] at q1, .bl false⟩)⟩
theorem tr_not (ha : TrE Z ρ κ ta ma (fD K dB)) : TrE Z ρ κ (tNotV ta) (fun Q X => ma (fun a => Q (!a)) X) (fD K dB) :=
  ⟨inferInstance, fun σ F L s c Q X q => rw_bind (k := ta σ) (ha.run σ F L s c _ X q) fun x F1 e1 ⟨a, q1, hx⟩ => by
    cases hx
    intro F4 N H e4 A wsh Qk qk
    exact ⟨a, rfl, qk _ F4 H (Same.refl _) A ⟨_, q1, .bl _⟩⟩⟩
theorem tt_test (ha : TrE Z ρ κ ta ma (fD K dB)) : TrT Z ρ κ (tTest ta) ma :=
  ⟨fun σ F L s c Q X q => rw_bind (k := ta σ) (ha.run σ F L s c _ X q) fun x F1 e1 ⟨a, q1, hx⟩ => by
    cases hx
    intro F4 N H e4 A wsh Qk qk
    exact ⟨a, rfl, qk _ F4 H (Same.refl _) A q1⟩⟩
theorem tt_B (ha : TrE Z ρ κ ta ma (fD K dB)) : TrT Z ρ κ (tB ta) ma :=
  ⟨fun σ F L s c Q X q => rw_bind (k := ta σ) (ha.run σ F L s c _ X q) fun x F1 e1 ⟨a, q1, hx⟩ => by
    cases hx
    intro F4 N H e4 A wsh Qk qk
    exact ⟨a, rfl, qk _ F4 H (Same.refl _) A q1⟩⟩
theorem tt_yes : TrT Z ρ κ tYes (pur true) := ⟨fun σ F L s c Q X q => .of (run_ret fun _ _ => q)⟩
theorem tt_not (h : TrT Z ρ κ tt ma) : TrT Z ρ κ (tNot tt) (fun Q X => ma (fun a => Q (!a)) X) :=
  ⟨fun σ F L s c Q X q => rw_bind (k := tt σ) (h.run σ F L s c _ X q) fun x F1 e1 q1 => rw_ret fun _ _ => q1⟩
theorem tt_and (h : TrT Z ρ κ tt ma) (h2 : TrT Z ρ κ tu mb) : TrT Z ρ κ (tAnd tt tu) (andW ma mb) :=
  ⟨fun σ F L s c Q X q => rw_bind (k := tt σ) (h.run σ F L s c _ X q) fun a F1 e1 q1 => by
    intro F4 N H e4 A wsh Qk qk
    cases a with
    | true => exact iteT (h2.run σ F1 L (satV_up e1 s) (satC_up e1 c) Q X (by rwa [if_pos rfl] at q1) F4 N H e4 A wsh Qk qk)
    | false => exact iteF (qk _ F4 H (Same.refl _) A (by rwa [if_neg Bool.false_ne_true] at q1))⟩
theorem tt_or (h : TrT Z ρ κ tt ma) (h2 : TrT Z ρ κ tu mb) : TrT Z ρ κ (tOr tt tu) (orW ma mb) :=
  ⟨fun σ F L s c Q X q => rw_bind (k := tt σ) (h.run σ F L s c _ X q) fun a F1 e1 q1 => by
    intro F4 N H e4 A wsh Qk qk
    cases a with
    | false => exact iteF (h2.run σ F1 L (satV_up e1 s) (satC_up e1 c) Q X q1 F4 N H e4 A wsh Qk qk)
    | true => exact iteT (qk _ F4 H (Same.refl _) A (by rwa [if_pos rfl] at q1))⟩
end
end
end Tw

/-! Tw2: arguments, calls, what is built in. -/
namespace Tw
open PySem PySem.Spec PyProof.Rows L2 SlX StX Rs Ma
variable [Rs.Tabz]
def fSet (w : World) : List Nat → VP := fun xs => Rs.St w (cI xs)
instance {w : World} {xs : List Nat} : Mono (fSet w xs) := inferInstanceAs (Mono (Rs.St w (cI xs)))
/-- ascending, each once -/
def sset (xs : List Nat) : List Nat := (List.range (xs.foldr max 0 + 1)).filter fun x => decide (x ∈ xs)
theorem le_foldr {xs : List Nat} {x : Nat} (h : x ∈ xs) : x ≤ xs.foldr max 0 := by
  induction xs with
  | nil => cases h
  | cons a xs ih =>
    rw [List.foldr_cons]
    rcases List.mem_cons.mp h with z | z
    · subst z; exact Nat.le_max_left _ _
    · exact Nat.le_trans (ih z) (Nat.le_max_right _ _)
theorem mem_sset {xs : List Nat} {x : Nat} : x ∈ sset xs ↔ x ∈ xs := by
  unfold sset
  rw [List.mem_filter, decide_eq_true_eq, List.mem_range]
  exact ⟨fun h => h.2, fun h => ⟨Nat.lt_succ_of_le (le_foldr h), h⟩⟩
theorem asc_sset {xs : List Nat} : (sset xs).Pairwise (· < ·) := List.pairwise_lt_range.filter _
theorem sset_eq {xs ys : List Nat} (h1 : ys.Pairwise (· < ·)) (h2 : ∀ x, x ∈ ys ↔ x ∈ xs) : sset xs = ys :=
  List.Perm.eq_of_pairwise (le := (· < ·)) (fun a b _ _ x y => absurd x (Nat.lt_asymm y)) asc_sset h1 ((List.perm_ext_iff_of_nodup (asc_sset.imp fun x => Nat.ne_of_lt x) (h1.imp fun x => Nat.ne_of_lt x)).mpr fun k => by rw [mem_sset, h2])
/-- ascending, as often as they are -/
def strN (n : Nat) : Str := toString (n : Int)
def sortN (xs : List Nat) : List Nat := xs.mergeSort fun a b => decide (a ≤ b)
theorem sortN_perm {xs : List Nat} : (sortN xs).Perm xs := List.mergeSort_perm _ _
theorem sortN_asc {xs : List Nat} : (sortN xs).Pairwise (· ≤ ·) := by
  have := List.pairwise_mergeSort (le := fun a b : Nat => decide (a ≤ b)) (fun a b c h1 h2 => by simp only [decide_eq_true_eq] at *; omega) (fun a b => by simp only [Bool.or_eq_true, decide_eq_true_eq]; omega) xs
  exact this.imp fun h => of_decide_eq_true h
theorem sortN_eq {xs ys : List Nat} (h1 : ys.Pairwise (· ≤ ·)) (h2 : ys.Perm xs) : sortN xs = ys :=
  List.Perm.eq_of_pairwise (le := (· ≤ ·)) (fun a b _ _ x y => Nat.le_antisymm x y) sortN_asc h1 (sortN_perm.trans h2.symm)
section
variable {ε α β γ δ : Type} {Z : Wsh ε} {ρ : List (Option VP)} {κ : List Ow} {K : PySem.W.Frag} {w : World} {te ta tb tc : TE} {t : TA} {ma : Wm ε α} {mb : Wm ε β} {m : Wm ε α} {mg : Wm ε γ} {Ra R : α → VP} {Rb : β → VP} {Rc : γ → VP} {Rd : δ → VP} {Rs : γ → List VP}
/-! ### arguments -/
theorem ta_one (h : TrE Z ρ κ te m R) : TrA Z ρ κ (tCons te tNil) m fun a => [R a] :=
  have := h.mono
  ⟨fun a => inferInstanceAs (MonoL [R a]), fun σ F L s c Q X q => rw_bind (k := te σ) (h.run σ F L s c Q X q) fun v F1 e ⟨a, q1, r1⟩ => rw_ret fun F2 e2 => ⟨a, q1, Mono.go r1 e2, True.intro⟩⟩
theorem ta_cons (h : TrE Z ρ κ te m R) (h2 : TrA Z ρ κ t mg Rs) : TrA Z ρ κ (tCons te t) (fun Q X => m (fun a => mg (fun g => Q (a, g)) X) X) fun p => R p.1 :: Rs p.2 :=
  have := h.mono
  have := h2.mono
  ⟨fun p => inferInstanceAs (MonoL (R p.1 :: Rs p.2)), fun σ F L s c Q X q => rw_bind (k := te σ) (h.run σ F L s c _ X q) fun v F1 e ⟨a, q1, r1⟩ => rw_bind (k := t σ) (h2.run σ F1 L (satV_up e s) (satC_up e c) _ X q1) fun vs F2 e2 ⟨g, q2, r2⟩ =>
    rw_ret fun F3 e3 => ⟨(a, g), q2, Mono.go r1 (e2.trans e3), MonoL.mono _ _ _ e3 r2⟩⟩
/-- as many of one kind -/
theorem ta_lnil [∀ a, Mono (R a)] : TrA Z ρ κ tNil (pur []) fun xs : List α => xs.map R := ⟨fun _ => inferInstance, fun σ F L s c Q X q => .of (run_ret fun F1 e => ⟨[], q, True.intro⟩)⟩
theorem ta_lcons {ml : Wm ε (List α)} (h : TrE Z ρ κ te m R) (h2 : TrA Z ρ κ t ml fun xs => xs.map R) : TrA Z ρ κ (tCons te t) (fun Q X => m (fun a => ml (fun g => Q (a :: g)) X) X) fun xs => xs.map R :=
  have := h.mono
  ⟨fun p => inferInstance, fun σ F L s c Q X q => rw_bind (k := te σ) (h.run σ F L s c _ X q) fun v F1 e ⟨a, q1, r1⟩ => rw_bind (k := t σ) (h2.run σ F1 L (satV_up e s) (satC_up e c) _ X q1) fun vs F2 e2 ⟨g, q2, r2⟩ =>
    rw_ret fun F3 e3 => ⟨a :: g, q2, Mono.go r1 (e2.trans e3), MonoL.mono _ _ _ e3 r2⟩⟩
theorem tr_tup {ml : Wm ε (List α)} [∀ a, Mono (R a)] (h : TrA Z ρ κ t ml fun xs => xs.map R) : TrE Z ρ κ (tTup t) (fun Q X => ml (fun xs => xs.length ≤ 100000 ∧ Q xs) X) (fTp K R) :=
  ⟨inferInstance, fun σ F L s c Q X q => rw_bind (k := t σ) (h.run σ F L s c _ X q) fun vs F1 e ⟨xs, ⟨q0, q1⟩, r1⟩ =>
    .of (run_and (fun _ _ _ _ _ => len_ok (by rw [each_length r1, List.length_map]; exact q0)) (run_new fun F2 p e2 hp => ⟨xs, q1, p, vs, rfl, .inl (.inl upd_same), MonoL.mono _ _ _ (e2.trans (same_new hp)) r1⟩))⟩
theorem tr_pair (ha : TrE Z ρ κ ta ma Ra) (hb : TrE Z ρ κ tb mb Rb) : TrE Z ρ κ (tTup (tCons ta (tCons tb tNil))) (fun Q X => ma (fun a => mb (fun b => Q (a, b)) X) X) (fP K Ra Rb) :=
  have := ha.mono
  have := hb.mono
  ⟨inferInstance, fun σ F L s c Q X q => rw_bind (k := tCons ta (tCons tb tNil) σ) ((ta_cons ha (ta_one hb)).run σ F L s c _ X q) fun vs F1 e ⟨p, q1, r1⟩ =>
    .of (run_and (fun _ _ _ _ _ => len_ok (by rw [each_length r1]; show 2 ≤ 100000; decide)) (run_new fun F2 a e2 hp => ⟨p, q1, a, vs, rfl, .inl (.inl upd_same), MonoL.mono (Rs := [Ra p.1, Rb p.2]) _ _ _ (e2.trans (same_new hp)) r1⟩))⟩
/-- a list that stays -/
theorem tr_lst {ml : Wm ε (List α)} [∀ a, Mono (R a)] (h : TrA Z ρ κ t ml fun xs => xs.map R) : TrE Z ρ κ (tLst t) (fun Q X => ml (fun xs => xs.length ≤ 100000 ∧ Q xs) X) (fLn R) :=
  ⟨inferInstance, fun σ F L s c Q X q => rw_bind (k := t σ) (h.run σ F L s c _ X q) fun vs F1 e ⟨xs, ⟨q0, q1⟩, r1⟩ =>
    .of (run_and (fun _ _ _ _ _ => len_ok (by rw [each_length r1, List.length_map]; exact q0)) (run_new fun F2 p e2 hp => ⟨xs, q1, p, vs, rfl, upd_same, MonoL.mono _ _ _ (e2.trans (same_new hp)) r1⟩))⟩

/-! ### promises -/
def SpN {γ δ : Type} (Rs : γ → List VP) (spec : γ → (δ → Prop) → Prop) (R : δ → VP) : Sp := fun vs H Q _ => ∃ g F N P, At F N H ∧ Each (Rs g) vs F ∧ spec g P ∧ ∀ d v F' H', Same F F' → At F' N H' → P d → R d v F' → Q v H'
theorem tr_call {spec : γ → (δ → Prop) → Prop} {E : XK} [∀ d, Mono (Rd d)] (h : TrA Z ρ κ t mg Rs) : TrE Z ρ κ (tCall (SpN Rs spec Rd) [] E t) (fun Q X => mg (fun g => spec g Q) X) Rd :=
  ⟨inferInstance, fun σ F L s c Q X q => rw_bind (k := t σ) (h.run σ F L s c _ X q) fun vs F1 e ⟨g, q1, r1⟩ => by
    rw [List.append_nil]
    have := h.mono
    exact fun F2 N H e2 A wsh Qk qk => ⟨g, F2, L ++ N, Q, A, MonoL.mono _ _ _ e2 r1, q1, fun d v F3 H3 e3 A3 p r => qk v F3 H3 e3 A3 ⟨d, p, r⟩⟩⟩
theorem tr_met {C : Addr} {spec : α × γ → (δ → Prop) → Prop} {E : XK} [∀ d, Mono (Rd d)] (ho : TrE Z ρ κ ta ma Ra) (hS : ∀ a v F, Ra a v F → IsOb C v F) (h : TrA Z ρ κ t mg Rs) :
    TrE Z ρ κ (tMethSl C (SpN (fun p => Ra p.1 :: Rs p.2) spec Rd) E ta t) (fun Q X => ma (fun a => mg (fun g => spec (a, g) Q) X) X) Rd :=
  have := ho.mono
  have := h.mono
  ⟨inferInstance, fun σ F L s c Q X q => rw_bind (k := ta σ) (ho.run σ F L s c _ X q) fun x F1 e1 ⟨o, q1, hx⟩ => by
    obtain ⟨a, dx, vs, rfl, ha, hd⟩ := hS _ _ _ hx
    intro F2 N H e2 A wsh Qk qk
    refine ⟨a, dx, vs, rfl, .inr ⟨A.ex _ _ (e2 _ _ ha), A.ex _ _ (e2 _ _ hd)⟩, ?_⟩
    refine h.run σ F1 L (satV_up e1 s) (satC_up e1 c) _ X q1 F2 N H e2 A wsh _ fun ws F3 H3 e3 A3 ⟨g, q3, hv⟩ => ?_
    exact ⟨(o, g), F3, L ++ N, Q, A3, ⟨Mono.go hx (e2.trans e3), hv⟩, q3, fun d v F4 H4 e4 A4 p r => qk v F4 H4 (e3.trans e4) A4 ⟨d, p, r⟩⟩⟩
theorem tr_prp {C : Addr} {spec : α → (δ → Prop) → Prop} {E : XK} [∀ d, Mono (Rd d)] (ho : TrE Z ρ κ ta ma Ra) (hS : ∀ a v F, Ra a v F → IsOb C v F) :
    TrE Z ρ κ (tPropSl C (SpN (fun a => [Ra a]) spec Rd) E ta) (fun Q X => ma (fun a => spec a Q) X) Rd :=
  have := ho.mono
  ⟨inferInstance, fun σ F L s c Q X q => rw_bind (k := ta σ) (ho.run σ F L s c _ X q) fun x F1 e1 ⟨o, q1, hx⟩ => by
    obtain ⟨a, dx, vs, rfl, ha, hd⟩ := hS _ _ _ hx
    intro F2 N H e2 A wsh Qk qk
    exact ⟨a, dx, vs, rfl, .inr ⟨A.ex _ _ (e2 _ _ ha), A.ex _ _ (e2 _ _ hd)⟩, o, F2, L ++ N, Q, A, ⟨Mono.go hx e2, True.intro⟩, q1, fun d v F4 H4 e4 A4 p r => qk v F4 H4 e4 A4 ⟨d, p, r⟩⟩⟩
/-- C(..) by SpI -/
theorem tr_mk {C : Addr} {pre : γ → Prop} {R : γ → VP} {E : XK} [∀ d, Mono (R d)] (h : TrA Z ρ κ t mg Rs) : TrE Z ρ κ (tMake C (SpI C pre Rs R) [] E t) (fun Q X => mg (fun g => pre g ∧ Q g) X) R :=
  ⟨inferInstance, fun σ F L s c Q X q => rw_bind (k := t σ) (h.run σ F L s c _ X q) fun vs F1 e ⟨g, ⟨q0, q1⟩, r1⟩ => by
    have := h.mono
    refine RunW.weak (R := fun v F1 => R g v F1) (.of ?_) fun v F2 e2 hv => ⟨g, q1, hv⟩
    exact fun F2 N H e2 A Q q x dx h1 h2 h3 => (r_mk (γ := γ) (tt := fun _ H Q => Q vs H) (σ := σ) (E := E) (R := R) (Rs := Rs) g q0 (run_ret fun F3 e3 => MonoL.mono _ _ _ (e2.trans e3) r1)) F2 N H (Same.refl _) A Q q x dx h1 h2 h3⟩
/-- a reading over one value -/
theorem tr_lift {kk : TE → TE} {mf : α → Wm ε β} (hk : ∀ te σ H Q, kk te σ H Q = te σ H fun x H1 => kk (tC x) [] H1 Q) [∀ b, Mono (Rb b)] (h : TrE Z ρ κ te ma Ra) (f : ∀ a v F L, Ra a v F → ∀ Q X, mf a Q X → ∃ b, Q b ∧ Run (kk (tC v) []) F L (Rb b)) :
    TrE Z ρ κ (kk te) (fun Q X => ma (fun a => mf a Q X) X) Rb :=
  ⟨inferInstance, fun σ F L s c Q X q => by
    have e : kk te σ = fun H Q => te σ H fun x H1 => kk (tC x) [] H1 Q := by
      funext H Q
      exact hk te σ H Q
    rw [e]
    exact rw_bind (k := te σ) (h.run σ F L s c _ X q) fun x F1 e1 ⟨a, q1, hx⟩ => by
      obtain ⟨b, q2, r2⟩ := f a x F1 L hx Q X q1
      exact .of (r2.weak fun v F2 e2 hv => ⟨b, q2, hv⟩)⟩
/-- a slot of an object -/
structure Fld (K : PySem.W.Frag) (Ra : α → VP) (x : Str) (f : α → β) (Rb : β → VP) : Prop where
  run : ∀ a v F L, Ra a v F → Run (SlX.tSl K (tC v) x []) F L (Rb (f a))
theorem tr_fld {x : Str} {f : α → β} (fl : Fld K Ra x f Rb) [∀ b, Mono (Rb b)] (h : TrE Z ρ κ te ma Ra) : TrE Z ρ κ (SlX.tSl K te x) (fun Q X => ma (fun a => Q (f a)) X) Rb :=
  tr_lift (kk := fun te => SlX.tSl K te x) (mf := fun a => pur (f a)) (fun _ _ _ _ => rfl) h fun a v F L hx Q X q => ⟨f a, q, fl.run a v F L hx⟩

/-! ### what is built in -/
structure Cb (ε : Type) (q : List V → Hp → VK → Prop) (Rs : γ → List VP) (mf : γ → Wm ε δ) (R : δ → VP) : Prop where
  run : ∀ g vs F L, Each (Rs g) vs F → ∀ Q X, mf g Q X → Run (q vs) F L fun v F1 => ∃ d, Q d ∧ R d v F1
theorem Cb.of {q : List V → Hp → VK → Prop} {mf : γ → Wm ε δ} (h : ∀ g vs F L, Each (Rs g) vs F → ∀ Q X, mf g Q X → ∃ d, Q d ∧ Run (q vs) F L (Rd d)) : Cb ε q Rs mf Rd :=
  ⟨fun g vs F L hv Q X q => by
    obtain ⟨d, q2, r2⟩ := h g vs F L hv Q X q
    exact r2.weak fun v F2 e2 hv => ⟨d, q2, hv⟩⟩
theorem tr_cb {q : List V → Hp → VK → Prop} {mf : γ → Wm ε δ} [∀ d, Mono (Rd d)] (o : Cb ε q Rs mf Rd) (h : TrA Z ρ κ t mg Rs) : TrE Z ρ κ (tCB q t) (fun Q X => mg (fun g => mf g Q X) X) Rd :=
  ⟨inferInstance, fun σ F L s c Q X q => rw_bind (k := t σ) (h.run σ F L s c _ X q) fun vs F1 e ⟨g, q1, r1⟩ => .of (o.run g vs F1 L r1 Q X q1)⟩
theorem cb1 {q : List V → Hp → VK → Prop} {mf : α → Wm ε δ} (h : ∀ a v F L, Ra a v F → ∀ Q X, mf a Q X → ∃ d, Q d ∧ Run (tCB q (tCons (tC v) tNil) []) F L (Rd d)) : Cb ε q (fun a => [Ra a]) mf Rd :=
  .of fun g vs F L hv Q X q1 => by
    obtain ⟨v, rfl, hx⟩ := each1 hv
    exact h g v F L hx Q X q1
theorem cb1p {q : List V → Hp → VK → Prop} {f : α → δ} (h : ∀ a v F L, Ra a v F → Run (tCB q (tCons (tC v) tNil) []) F L (Rd (f a))) : Cb ε q (fun a => [Ra a]) (fun a => pur (f a)) Rd :=
  cb1 fun a v F L hx Q X q1 => ⟨f a, q1, h a v F L hx⟩

theorem cv {v : V} {F : Hp} {L : Cells} {R : VP} [Mono R] {σ : L2.St} (h : R v F) : Run (tCons (tC v) tNil σ) F L (Each [R]) := r_cons (r_c h) r_nil
theorem c_lenT [∀ a, Mono (R a)] : Cb ε (rLn K) (fun xs => [fTp K R xs]) (fun xs => pur xs.length) (fD K dN) :=
  cb1p fun xs v F L hx => r_is (r_lnT (cv (R := Tp K (xs.map R)) hx)) (by rw [List.length_map]; rfl)
theorem c_lenL [∀ a, Mono (R a)] : Cb ε (rLn K) (fun xs => [fLn R xs]) (fun xs => pur xs.length) (fD K dN) :=
  cb1p fun xs v F L hx => r_is (r_lnL (r_cons (r_ls (r_c (R := Ln (xs.map R)) hx)) r_nil)) (by rw [List.length_map]; rfl)
theorem c_lenDT {d : α → PyData} : Cb ε (rLn K) (fun xs => [fD K (dT d) xs]) (fun xs => pur xs.length) (fD K dN) :=
  cb1p fun xs v F L hx => r_lnN (xs := xs) (f := d) (cv (R := Dt K (.tuple (xs.map d))) hx)
theorem c_lenDL {d : α → PyData} : Cb ε (rLn K) (fun xs => [fD K (dL d) xs]) (fun xs => pur xs.length) (fD K dN) :=
  cb1p fun xs v F L hx => r_is (r_lnLD (r_c (R := Dt K (.list (xs.map d))) hx)) (by rw [List.length_map]; rfl)
theorem c_all : Cb ε (rAll K) (fun xs => [fLn (fD K dB) xs]) (fun xs => pur (xs.all id)) (fD K dB) :=
  cb1p fun xs v F L hx => r_all (r_cons (r_ls (r_c (R := Ln (xs.map (fD K dB))) hx)) r_nil)
theorem c_listT [∀ a, Mono (R a)] : Cb ε (rListOf K) (fun xs => [fTp K R xs]) (fun xs => pur xs) (fLn R) := cb1p fun xs v F L hx => r_listT (cv (R := Tp K (xs.map R)) hx)
theorem c_tupDL {d : α → PyData} : Cb ε (rTupOf K) (fun xs => [fD K (dL d) xs]) (fun xs => pur xs) (fD K (dT d)) := cb1p fun xs v F L hx => r_tupD (ds := xs.map d) (cv (R := Dt K (.list (xs.map d))) hx)
theorem c_setT : Cb ε (rSetI K w) (fun xs => [fD K (dT dN) xs]) (fun xs Q X => xs.length ≤ 1000 ∧ Q xs) (fSet w) :=
  cb1 fun xs v F L hx Q X ⟨q0, q1⟩ => ⟨_, q1, r_set (R := fD K (dT dN) xs) (cv hx) (fun v F1 h => seqI_row h) (by rw [List.length_map]; exact q0)⟩
theorem mem_cI2 {r : List Nat} {k : Int} : k ∈ cI r ↔ ∃ n : Nat, k = n ∧ n ∈ r := by
  rw [cI, List.mem_map]
  exact ⟨fun ⟨a, h, e⟩ => ⟨a, e.symm, h⟩, fun ⟨a, h, e⟩ => ⟨a, e, h.symm⟩⟩
theorem sset_cI {xs : List Nat} (k : Int) : k ∈ cI (sset xs) ↔ k ∈ cI xs := by
  rw [mem_cI2, mem_cI2]
  exact ⟨fun ⟨n, h, e⟩ => ⟨n, h, mem_sset.mp e⟩, fun ⟨n, h, e⟩ => ⟨n, h, mem_sset.mpr e⟩⟩
theorem c_sortedSet : Cb ε (rSortedSet w) (fun xs => [fSet w xs]) (fun xs Q X => xs.length < 64 ∧ Q (sset xs)) (fD K (dL dN)) :=
  cb1 fun xs v F L hx Q X ⟨q0, q1⟩ => ⟨_, q1, r_is (r_sortedSet (w := w) (ns := cI xs) (cv (R := Rs.St w (cI xs)) hx) (by rw [List.length_map]; exact q0) (cI (sset xs)) (asc_cI asc_sset) sset_cI) (by
    show PyData.list _ = PyData.list _
    exact congrArg PyData.list (row_int (r := sset xs)).symm)⟩
theorem c_str : Cb ε (fun xs H Q => ∃ i, xs = [V.int i] ∧ i.natAbs.log2 < 1920 ∧ Q (.str (toString i)) H) (fun n => [fD K dN n]) (fun n Q X => n ≤ 1000 ∧ Q (strN n)) (fD K dS) :=
  cb1 fun n v F L hx Q X ⟨q0, q1⟩ => ⟨_, q1, r_strI (n := n) (cv (R := Dt K (nI n)) hx) q0⟩
theorem c_minN : Cb ε rMin2 (fun p : Nat × Nat => [fD K dN p.1, fD K dN p.2]) (fun p => pur (min p.1 p.2)) (fD K dN) := .of fun g vs F L hv Q X q1 => by
  obtain ⟨v, u, rfl, h1, h2⟩ := each2 hv
  exact ⟨_, q1, r_min2N (σ := []) (t := tCons (tC v) (tCons (tC u) tNil)) (K := K) (r_cons (r_c (R := Dt K (nI g.1)) h1) (r_cons (r_c (R := Dt K (nI g.2)) h2) r_nil))⟩
theorem c_maxN : Cb ε rMax2 (fun p : Nat × Nat => [fD K dN p.1, fD K dN p.2]) (fun p => pur (max p.1 p.2)) (fD K dN) := .of fun g vs F L hv Q X q1 => by
  obtain ⟨v, u, rfl, h1, h2⟩ := each2 hv
  exact ⟨_, q1, r_max2N (σ := []) (t := tCons (tC v) (tCons (tC u) tNil)) (K := K) (r_cons (r_c (R := Dt K (nI g.1)) h1) (r_cons (r_c (R := Dt K (nI g.2)) h2) r_nil))⟩
theorem tr_ty {T : String} : TrE Z ρ κ (tC (.ty T)) (pur ()) fun _ : Unit => Eqv (.ty T) := ⟨fun _ => inferInstance, fun σ F L s c Q X q => .of (run_ret fun F1 e => ⟨(), q, rfl⟩)⟩
theorem o_join : Op2 ε (fun x y H Q => rJoin K x [y] H Q) (fD K dS) (fD K (dL dS)) (fun a ys Q X => (ys.map (·.length)).sum + ys.length * a.length ≤ 16777216 ∧ Q (Txt.join a ys)) (fD K dS) := ⟨fun a ys x y F L hx hy Q X ⟨q0, q1⟩ => by
  cases hx
  have h := (r_join (σ := []) (L := L) (a := a) (r_c (R := Dt K (.str a)) (.str a)) (r_c (R := Dt K (.list (ys.map PyData.str))) hy) q0)
  intro F1 N H e A Qk qk
  exact (h F1 N H e A Qk fun v F2 H2 e2 A2 r => qk v F2 H2 e2 A2 ⟨_, q1, r⟩).2⟩
theorem tr_join {m1 : Wm ε Str} {m2 : Wm ε (List Str)} (ha : TrE Z ρ κ ta m1 (fD K dS)) (hb : TrE Z ρ κ tb m2 (fD K (dL dS))) :
    TrE Z ρ κ (tM1 (rJoin K) ta tb) (fun Q X => m1 (fun a => m2 (fun ys => (ys.map (·.length)).sum + ys.length * a.length ≤ 16777216 ∧ Q (Txt.join a ys)) X) X) (fD K dS) :=
  ⟨inferInstance, fun σ F L s c Q X q => rw_bind (k := ta σ) (ha.run σ F L s c _ X q) fun x F1 e1 ⟨a, q1, hx⟩ => by
    intro F2 N H e2 A wsh Qk qk
    refine ⟨by cases hx; exact ⟨a, rfl⟩, ?_⟩
    refine hb.run σ F1 L (satV_up e1 s) (satC_up e1 c) _ X q1 F2 N H e2 A wsh _ fun y F3 H3 e3 A3 ⟨ys, q3, hy⟩ => ?_
    exact o_join.run (ε := ε) a ys x y F3 L (Mono.go hx (e2.trans e3)) hy Q X q3 F3 N H3 (Same.refl _) A3 Qk fun v F4 H4 e4 A4 r => qk v F4 H4 (e3.trans e4) A4 r⟩
def orSW (a : Str) (m2 : Wm ε Str) : Wm ε Str := fun Q X => if a.length = 0 then m2 Q X else Q a
theorem orSW_p {a b : Str} {Q : Str → Prop} {X : ε → Prop} : orSW a (fun Q _ => Q b) Q X = Q (if a.length = 0 then b else a) := by
  unfold orSW; split <;> rfl
theorem tr_orS {m1 m2 : Wm ε Str} (ha : TrE Z ρ κ ta m1 (fD K dS)) (hb : TrE Z ρ κ tb m2 (fD K dS)) :
    TrE Z ρ κ (tOrS ta tb) (fun Q X => m1 (fun a => a.length ≤ 100000 ∧ orSW a m2 Q X) X) (fD K dS) :=
  ⟨inferInstance, fun σ F L s c Q X q => rw_bind (k := ta σ) (ha.run σ F L s c _ X q) fun x F1 e1 ⟨a, ⟨q0, q1⟩, hx⟩ => by
    cases hx
    intro F2 N H e2 A wsh Qk qk
    refine ⟨a, rfl, q0, ?_⟩
    unfold orSW at q1
    by_cases h : a.length = 0
    · rw [if_pos h] at q1 ⊢
      exact hb.run σ F1 L (satV_up e1 s) (satC_up e1 c) _ X q1 F2 N H e2 A wsh _ qk
    · rw [if_neg h] at q1 ⊢
      exact qk _ F2 H (Same.refl _) A ⟨a, q1, .str a⟩⟩
/-! f-strings -/
theorem tr_fmtN {mN : Wm ε Nat} (h : TrE Z ρ κ te mN (fD K dN)) : TrE Z ρ κ (tFmt te) (fun Q X => mN (fun n => n ≤ 1000 ∧ Q (strN n)) X) (fD K dS) :=
  tr_lift (kk := tFmt) (mf := fun n Q X => n ≤ 1000 ∧ Q (strN n)) (fun _ _ _ _ => rfl) h fun n v F L hx Q X ⟨q0, q1⟩ => ⟨_, q1, r_fmtI (n := n) (r_c (R := Dt K (nI n)) hx) q0⟩
theorem tr_fmtS {mS : Wm ε Str} (h : TrE Z ρ κ te mS (fD K dS)) : TrE Z ρ κ (tFmt te) (fun Q X => mS (fun n => n.length ≤ 100000 ∧ Q n) X) (fD K dS) :=
  tr_lift (kk := tFmt) (mf := fun (n : Str) Q X => n.length ≤ 100000 ∧ Q n) (fun _ _ _ _ => rfl) h fun n v F L hx Q X ⟨q0, q1⟩ => ⟨_, q1, r_fmtS (r_c (R := Dt K (.str n)) hx) q0⟩
structure TrJ (Z : Wsh ε) (ρ : List (Option VP)) (κ : List Ow) (ts : List TE) (m : Str → Wm ε Str) : Prop where
  run : ∀ acc σ F L, SatV ρ σ F → SatC κ σ F L → ∀ Q X, m acc Q X → RunW Z (fun H Q => tJs ts acc σ H Q) F L (fun o _ => Q o) X
theorem tj_nil : TrJ Z ρ κ [] fun acc => pur acc := ⟨fun acc σ F L s c Q X q => rw_ret fun _ _ => q⟩
theorem tj_cons {mS : Wm ε Str} {mr : Str → Wm ε Str} {ts : List TE} (h : TrE Z ρ κ te mS (fD K dS)) (r : TrJ Z ρ κ ts mr) : TrJ Z ρ κ (te :: ts) fun acc Q X => mS (fun y => (acc ++ y).length ≤ 100000 ∧ mr (acc ++ y) Q X) X :=
  ⟨fun acc σ F L s c Q X q => by
    have hcons := fun y F1 (hy : Dt K (.str y) (.str y) F1) => hy
    intro F1 N H e A wsh Qk qk
    show te σ H _
    refine h.run σ F L s c _ X q F1 N H e A wsh _ fun x F2 H2 e2 A2 ⟨y, ⟨q0, q1⟩, hx⟩ => ?_
    cases hx
    refine ⟨y, rfl, len_ok q0, ?_⟩
    exact r.run (acc ++ y) σ F2 L (satV_up (e.trans e2) s) (satC_up (e.trans e2) c) Q X q1 F2 N H2 (Same.refl _) A2 (wsh.up e2) Qk fun o F3 H3 e3 A3 r => qk o F3 H3 (e2.trans e3) A3 r⟩
theorem tr_js {ts : List TE} {mf : Str → Wm ε Str} (h : TrJ Z ρ κ ts mf) : TrE Z ρ κ (fun σ H (Q : VK) => tJs ts Str.empty σ H fun out H1 => Q (V.str out) H1) (mf Str.empty) (fD K dS) :=
  ⟨inferInstance, fun σ F L s c Q X q => rw_bind (k := fun H Q => tJs ts Str.empty σ H Q) (k2 := fun out H1 Q => Q (V.str out) H1) (h.run Str.empty σ F L s c Q X q) fun o F1 e1 q1 => rw_ret fun _ _ => ⟨o, q1, Dp.str o⟩⟩
end
end Tw

/-! Tw3: what is walked, targets, comprehensions, statements. -/
namespace Tw
open PySem PySem.Spec PyProof.Rows L2 SlX StX Rs Ma
variable [Rs.Tabz]
/-- each with its place -/
def enumL {α : Type} (xs : List α) : List (Nat × α) := xs.zipIdx.map fun p => (p.2, p.1)
section
variable {ε α β γ δ S S1 : Type} {Z : Wsh ε} {ρ : List (Option VP)} {κ κ' : List Ow} {K : PySem.W.Frag} {w : World} {te ta tb tc : TE} {t : TA} {tt : TT} {wi : TI} {g g1 g2 : TG} {ma : Wm ε α} {mb : Wm ε β} {m : Wm ε α} {ml : Wm ε (List α)} {Ra R : α → VP} {Rb : β → VP} {Rd : δ → VP} {i j : Nat}
/-! ### what is walked -/
theorem tI_of (wi' : TE → TI) {Rl : List α → VP} [∀ a, Mono (R a)] (h : TrE Z ρ κ te ml Rl) (i : ∀ xs v σ F L, Rl xs v F → Run (wi' (tC v) σ) F L (fun J F1 => Seqs J (xs.map R) F1)) (hk : ∀ te σ H Q, wi' te σ H Q = te σ H fun x H1 => wi' (tC x) σ H1 Q) : TrI Z ρ κ (wi' te) ml R :=
  ⟨inferInstance, fun σ F L s c Q X q => by
    have e : wi' te σ = fun H Q => te σ H fun x H1 => wi' (tC x) σ H1 Q := by
      funext H Q
      exact hk te σ H Q
    rw [e]
    exact rw_bind (k := te σ) (h.run σ F L s c Q X q) fun x F1 e1 ⟨xs, q1, hx⟩ => .of ((i xs x σ F1 L hx).weak fun J F2 e2 hJ => ⟨xs, q1, hJ⟩)⟩
theorem ti_tup [∀ a, Mono (R a)] (h : TrE Z ρ κ te ml (fTp K R)) : TrI Z ρ κ (iTup K te) ml R :=
  tI_of (iTup K) h (fun xs v σ F L hx => i_tup (r_c (R := Tp K (xs.map R)) hx)) fun _ _ _ _ => rfl
theorem ti_tupD {d : α → PyData} (h : TrE Z ρ κ te ml (fD K (dT d))) : TrI Z ρ κ (iTup K te) ml (fD K d) := ti_tup (tr_dTp h)
theorem ti_lst [∀ a, Mono (R a)] (h : TrE Z ρ κ te ml (fLn R)) : TrI Z ρ κ (iList K te) ml R :=
  tI_of (iList K) h (fun xs v σ F L hx => i_lst (r_ls (r_c (R := Ln (xs.map R)) hx))) fun _ _ _ _ => rfl
theorem ti_rangeN {mN : Wm ε Nat} (h : TrE Z ρ κ te mN (fD K dN)) : TrI Z ρ κ (iRng1 (tCons te tNil)) (fun Q X => mN (fun n => n ≤ 1000 ∧ Q (List.range n)) X) (fD K dN) :=
  ⟨inferInstance, fun σ F L s c Q X q => rw_bind (k := te σ) (k2 := fun x H Q => iRng1 (tCons (tC x) tNil) σ H Q) (h.run σ F L s c _ X q) fun x F1 e1 ⟨n, ⟨q0, q1⟩, hx⟩ => .of (Run.weak (i_rangeN (n := n) (r_c (R := Dt K (nI n)) hx) q0) fun J F2 e2 hJ => ⟨_, q1, hJ⟩)⟩
theorem enum_map {f : α → VP} {xs : List α} : (enumL xs).map (fP K (fD K dN) f) = Pairs K (xs.map f) := by
  rw [pairs_map, enumL, List.map_map]
  rfl
theorem ti_enumT [∀ a, Mono (R a)] (h : TrE Z ρ κ te ml (fTp K R)) : TrI Z ρ κ (iEnumT K (tCons te tNil)) (fun Q X => ml (fun xs => Q (enumL xs)) X) (fP K (fD K dN) R) :=
  ⟨inferInstance, fun σ F L s c Q X q => rw_bind (k := te σ) (k2 := fun x H Q => iEnumT K (tCons (tC x) tNil) σ H Q) (h.run σ F L s c _ X q) fun x F1 e1 ⟨xs, q1, hx⟩ => .of (Run.weak (i_enumT (Rs := xs.map R) (r_cons (r_c (R := Tp K (xs.map R)) hx) r_nil)) fun J F2 e2 hJ => ⟨_, q1, by rw [enum_map]; exact hJ⟩)⟩
theorem TrI.conv {R' : α → VP} (h : TrI Z ρ κ wi ml R) [∀ a, Mono (R' a)] (e : R = R') : TrI Z ρ κ wi ml R' := by subst e; exact h

/-! ### targets -/
structure TrG (g : TG) (Rx : β → VP) (js : List Nat) (up : β → List (Option VP) → List (Option VP)) : Prop where
  run : ∀ x v σ F ρ N H, SatV ρ σ F → Rx x v F → At F N H → ∀ Q : L2.St → Hp → Prop, (∀ σ2, (∀ i, i ∉ js → σ2[i]? = σ[i]?) → SatV (up x ρ) σ2 F → Q σ2 H) → g v σ H Q
theorem tg_name (j : Nat) [m : ∀ a, Mono (R a)] : TrG (gName j) R [j] fun x ρ => st ρ j (some (R x)) :=
  ⟨fun x v σ F ρ N H s hx A Q q => q _ (fun i hi => List.getElem?_set_ne fun z => hi (by rw [z]; exact List.mem_singleton.mpr rfl)) (satV_set hx (m x) s)⟩
theorem tg_pair {js1 js2 : List Nat} {up1 : α → List (Option VP) → List (Option VP)} {up2 : β → List (Option VP) → List (Option VP)} (h1 : TrG g1 R js1 up1) (h2 : TrG g2 Rb js2 up2) :
    TrG (gTup K 2 (gCons g1 (gCons g2 gNil))) (fP K R Rb) (js1 ++ js2) fun p ρ => up2 p.2 (up1 p.1 ρ) :=
  ⟨fun x v σ F ρ N H s hx A Q q => by
    obtain ⟨a, vs, rfl, hs, hr⟩ := hx
    obtain ⟨v1, v2, rfl, r1, r2⟩ := each2 hr
    refine ⟨a, [v1, v2], rfl, sqT_up A.ex hs, rfl, v1, [v2], rfl, h1.run x.1 v1 σ F ρ N H s r1 A _ fun σ1 a1 s1 => ⟨v2, [], rfl, h2.run x.2 v2 σ1 F _ N H s1 r2 A _ fun σ2 a2 s2 => ⟨rfl, q σ2 (fun i hi => ?_) s2⟩⟩⟩
    rw [List.mem_append, not_or] at hi
    rw [a2 i hi.2, a1 i hi.1]⟩
theorem TrG.conv {js : List Nat} {up : α → List (Option VP) → List (Option VP)} {R' : α → VP} (h : TrG g R js up) (e : ∀ a v F, R' a v F → R a v F) : TrG g R' js up :=
  ⟨fun x v σ F ρ N H s hx A Q q => h.run x v σ F ρ N H s (e _ _ _ hx) A Q q⟩
theorem tg_pairD {d : α → PyData} {e : β → PyData} {js1 js2 : List Nat} {up1 : α → List (Option VP) → List (Option VP)} {up2 : β → List (Option VP) → List (Option VP)} (h1 : TrG g1 (fD K d) js1 up1) (h2 : TrG g2 (fD K e) js2 up2) :
    TrG (gTup K 2 (gCons g1 (gCons g2 gNil))) (fD K (dP d e)) (js1 ++ js2) fun p ρ => up2 p.2 (up1 p.1 ρ) := (tg_pair h1 h2).conv fun _ _ _ => rP_dP.mpr
theorem wipe_agree {σ σ2 : L2.St} {js : List Nat} (hl : σ2.length = σ.length) (ag : ∀ i, i ∉ js → σ2[i]? = σ[i]?) : ∀ {vs : List Nat}, (js.all fun j => vs.contains j) = true → wipe σ2 vs = wipe σ vs := by
  have key : ∀ (vs : List Nat) (σ : L2.St) (i : Nat), (wipe σ vs)[i]? = if i ∈ vs then (if i < σ.length then some none else none) else σ[i]? := by
    intro vs
    induction vs with
    | nil => intro σ i; simp [wipe]
    | cons v vs ih =>
      intro σ i
      unfold wipe
      by_cases h : v = i
      · subst h
        rw [List.getElem?_set_self', ih]
        by_cases h2 : v ∈ vs
        · by_cases h3 : v < σ.length <;> simp [h2, h3]
        · by_cases h3 : v < σ.length <;> simp [h2, h3]
      · rw [List.getElem?_set_ne h, ih]
        have h' : ¬ i = v := fun z => h z.symm
        simp [h']
  intro vs h
  apply List.ext_getElem?
  intro i
  rw [key, key]
  by_cases hi : i ∈ vs
  · rw [if_pos hi, if_pos hi, hl]
  · rw [if_neg hi, if_neg hi]
    refine ag i fun z => hi ?_
    have := List.all_eq_true.mp h i z
    simpa using this
theorem sat_len : ∀ {ρ σ F}, SatV ρ σ F → ρ.length = σ.length
  | [], [], _, _ => rfl
  | none :: ρ, _ :: σ, F, h => by rw [List.length_cons, List.length_cons, sat_len (ρ := ρ) (σ := σ) h]
  | some _ :: ρ, _ :: σ, F, h => by rw [List.length_cons, List.length_cons, sat_len (ρ := ρ) (σ := σ) h.2]
  | [], _ :: _, _, h => h.elim
  | none :: _, [], _, h => h.elim
  | some _ :: _, [], _, h => h.elim
/-! ### lists of one's own that come to be -/
structure TrN (Z : Wsh ε) (ρ : List (Option VP)) (κ : List Ow) (te : TE) (m : Wm ε (List α)) (R : α → VP) : Prop where
  mono : ∀ a, Mono (R a)
  run : ∀ σ F L, SatV ρ σ F → SatC κ σ F L → ∀ Q X, m Q X → ∀ F1 N H, Same F F1 → At F1 (L ++ N) H → WishOk Z F1 N X → ∀ Qk : VK, (∀ a vs F2 H2 xs, Same F1 F2 → At F2 ((a, .lst vs) :: (L ++ N)) H2 → Each (xs.map R) vs F2 → Q xs → Qk (.ref a) H2) → te σ H Qk
/-- it stays -/
theorem TrN.e (h : TrN Z ρ κ te ml R) : TrE Z ρ κ te ml (fLn R) :=
  have := h.mono
  ⟨inferInstance, fun σ F L s c Q X q F1 N H e A wsh Qk qk => h.run σ F L s c Q X q F1 N H e A wsh Qk fun a vs F2 H2 xs e2 A2 r q1 =>
    qk _ _ _ (e2.trans (same_new A2.off1)) A2.keep ⟨xs, q1, a, vs, rfl, upd_same, MonoL.mono _ _ _ (same_new A2.off1) r⟩⟩
theorem tn_lst [∀ a, Mono (R a)] (h : TrA Z ρ κ t ml fun xs => xs.map R) : TrN Z ρ κ (tLst t) (fun Q X => ml (fun xs => xs.length ≤ 100000 ∧ Q xs) X) R :=
  ⟨inferInstance, fun σ F L s c Q X q F1 N H e A wsh Qk qk => h.run σ F L s c _ X q F1 N H e A wsh _ fun vs F2 H2 e2 A2 ⟨xs, ⟨q0, q1⟩, r⟩ =>
    ⟨len_ok (by rw [each_length r, List.length_map]; exact q0), fun p hp => qk p vs F2 _ xs e2 (A2.cell hp) r q1⟩⟩
theorem tn_listL [∀ a, Mono (R a)] (h : TrE Z ρ κ te ml (fLn R)) : TrN Z ρ κ (tCB (rListOf K) (tCons te tNil)) ml R :=
  ⟨inferInstance, fun σ F L s c Q X q F1 N H e A wsh Qk qk => h.run σ F L s c _ X q F1 N H e A wsh _ fun v F2 H2 e2 A2 ⟨xs, q1, a, vs, ev, hs, r⟩ => by
    subst ev
    exact ⟨a, vs, rfl, .inl (.inl (.inl (A2.ex _ _ hs))), fun l hl => qk l vs F2 _ xs e2 (A2.cell hl) r q1⟩⟩
/-- a comprehension, one behind the other -/
def lcW (mc : β → Wm ε Bool) (me : β → Wm ε δ) : List β → Wm ε (List δ)
  | [], Q, _ => Q []
  | x :: xs, Q, X => mc x (fun b => if b = true then me x (fun y => lcW mc me xs (fun ys => Q (y :: ys)) X) X else lcW mc me xs Q X) X
theorem drop_at {xs : List β} {i : Nat} {x : β} (h : xs[i]? = some x) : xs.drop i = x :: xs.drop (i + 1) := by
  obtain ⟨hl, hx⟩ := List.getElem?_eq_some_iff.mp h
  rw [List.drop_eq_getElem_cons hl, hx]
theorem tn_lc {vs js : List Nat} {up : β → List (Option VP) → List (Option VP)} {mi : Wm ε (List β)} {mc : β → Wm ε Bool} {me : β → Wm ε δ} {Rx : β → VP} [∀ d, Mono (Rd d)] (hi : TrI Z ρ κ wi mi Rx) (hg : TrG g Rx js up) (hj : (js.all fun j => vs.contains j) = true) (fc : freeCs vs κ = true) (fj : freeCs js κ = true)
    (hc : ∀ x, TrT Z (up x (wipeE ρ vs)) κ tt (mc x)) (he : ∀ x, TrE Z (up x (wipeE ρ vs)) κ te (me x) Rd) (hlen : ∀ x, (up x (wipeE ρ vs)).length = ρ.length) :
    TrN Z ρ κ (tLc wi g tt te vs) (fun Q X => mi (fun xs => xs.length ≤ 40000 ∧ lcW mc me xs Q X) X) Rd :=
  ⟨inferInstance, fun σ F L s c Q X q F1 N H e A wsh Qk qk => hi.run σ F L s c _ X q F1 N H e A wsh _ fun J F2 H2 e2 A2 ⟨xs, ⟨hz, q1⟩, ⟨G, Y, wk, hG, hY⟩⟩ D hD => by
    have hl := sat_len s
    rw [List.length_map] at wk
    refine lc_it wk (Qd := fun H => Qk (.ref D) H) (fun i H' => ∃ F' acc ys, Same F2 F' ∧ At F' ((D, .lst acc) :: (L ++ N)) H' ∧ Each (ys.map Rd) acc F' ∧ ys.length ≤ i ∧ lcW mc me (xs.drop i) (fun zs => Q (ys ++ zs)) X) ⟨F2, [], [], Same.refl _, A2.cell hD, (show Each [] [] F2 from True.intro), Nat.le_refl _, q1⟩
      (fun i H' _ ⟨F', acc, ys, e', A', _⟩ => hG F' _ H' e' A') ?_ ?_
    · rintro i x H3 H4 hi ⟨F', acc, ys, e', A', hacc, hyl, q2⟩ y
      obtain ⟨F3, R, e3, A3, hR, hx⟩ := hY F' _ H3 i x H4 e' A' (by rw [List.length_map]; exact hi) y
      rw [List.getElem?_map] at hR
      have hxi : xs[i]? = some xs[i] := List.getElem?_eq_getElem hi
      rw [hxi] at hR
      cases hR
      rw [drop_at hxi, lcW] at q2
      have P0 : ((D, HO.lst acc) :: (L ++ N)).Perm (L ++ ((D, .lst acc) :: N)) := List.perm_middle.symm
      have e13 : Same F F3 := ((e.trans e2).trans e').trans e3
      have s3 := satV_up e13 s
      have c3 := satC_up e13 c
      have w3 : WishOk Z F3 ((D, HO.lst acc) :: N) X := (wsh.up ((e2.trans e').trans e3)).push1
      refine hg.run xs[i] x (wipe σ vs) F3 (wipeE ρ vs) _ H4 (satV_wipe s3 vs) hx A3 _ fun σ2 ag s4 => ⟨?_, ?_⟩
      · have h1 : σ2.length = (wipe σ vs).length := by
          rw [← sat_len s4, hlen, wipe_length, hl]
        rw [wipe_agree h1 ag hj]
        apply List.ext_getElem?
        intro i
        have key := wipe_agree (σ := σ) (σ2 := wipe σ vs) (js := vs) (wipe_length _ _) (fun i hi => by
          cases h : (wipe σ vs)[i]? with
          | none =>
            have : σ.length ≤ i := by
              have := List.getElem?_eq_none_iff.mp h
              rwa [wipe_length] at this
            exact (List.getElem?_eq_none_iff.mpr this).symm
          | some o =>
            have hkey : ∀ (vs : List Nat) (i : Nat), i ∉ vs → (wipe σ vs)[i]? = σ[i]? := by
              intro vs
              induction vs with
              | nil => intro i _; rfl
              | cons v vs ih =>
                intro i hi
                rw [List.mem_cons, not_or] at hi
                rw [wipe, List.getElem?_set_ne (fun z => hi.1 z.symm), ih i hi.2]
            rw [← h, hkey vs i hi]) (vs := vs) (by rw [List.all_eq_true]; intro x hx; simpa using hx)
        rw [key]
      · have c4 : SatC κ σ2 F3 L := satC_agree ag fj (satC_wipe c3 fc)
        refine (hc xs[i]).run σ2 F3 L s4 c4 _ X q2 F3 _ H4 (Same.refl _) (A3.perm P0) w3 _ fun b F5 H5 e5 A5 q5 => ?_
        cases b with
        | true =>
          rw [if_pos rfl] at q5
          refine iteT ?_
          refine (he xs[i]).run σ2 F5 L (satV_up e5 s4) (satC_up e5 c4) _ X q5 F5 _ H5 (Same.refl _) A5 (w3.up e5) _ fun y F6 H6 e6 A6 ⟨d, q6, hy⟩ => ?_
          have A7 := A6.perm P0.symm
          have hla : acc.length = ys.length := by rw [each_length hacc, List.length_map]
          refine ⟨acc, A7.on1, len_lt (by omega), F6, acc ++ [y], ys ++ [d], ((e'.trans e3).trans e5).trans e6, A7.put, ?_, by rw [List.length_append]; show ys.length + 1 ≤ i + 1; omega, ?_⟩
          · rw [List.map_append]
            exact each_app (Mono.go hacc ((e3.trans e5).trans e6)) ⟨hy, True.intro⟩
          · have e9 : (fun zs => Q (ys ++ [d] ++ zs)) = fun zs => Q (ys ++ d :: zs) := by funext zs; rw [List.append_assoc]; rfl
            rw [e9]; exact q6
        | false =>
          rw [if_neg Bool.false_ne_true] at q5
          exact iteF ⟨F5, acc, ys, (e'.trans e3).trans e5, A5.perm P0.symm, Mono.go hacc (e3.trans e5), Nat.le_succ_of_le hyl, q5⟩
    · rintro H3 ⟨F', acc, ys, e', A', hacc, hyl, q2⟩
      rw [List.drop_length, lcW, List.append_nil] at q2
      exact qk D acc F' H3 ys (e2.trans e') A' hacc q2⟩
theorem tr_lc {vs js : List Nat} {up : β → List (Option VP) → List (Option VP)} {mi : Wm ε (List β)} {mc : β → Wm ε Bool} {me : β → Wm ε δ} {Rx : β → VP} [∀ d, Mono (Rd d)] (hi : TrI Z ρ κ wi mi Rx) (hg : TrG g Rx js up) (hj : (js.all fun j => vs.contains j) = true) (fc : freeCs vs κ = true) (fj : freeCs js κ = true)
    (hlen : ∀ x, (up x (wipeE ρ vs)).length = ρ.length) (hc : ∀ x, TrT Z (up x (wipeE ρ vs)) κ tt (mc x)) (he : ∀ x, TrE Z (up x (wipeE ρ vs)) κ te (me x) Rd) :
    TrE Z ρ κ (tLc wi g tt te vs) (fun Q X => mi (fun xs => xs.length ≤ 40000 ∧ lcW mc me xs Q X) X) (fLn Rd) := (tn_lc hi hg hj fc fj hc he hlen).e
theorem lcW_pure {f : β → Bool} {h : β → δ} {Q : List δ → Prop} {X : ε → Prop} : ∀ {xs : List β}, lcW (ε := ε) (fun x => pur (f x)) (fun x => pur (h x)) xs Q X ↔ Q ((xs.filter f).map h)
  | [] => Iff.rfl
  | x :: xs => by
    rw [lcW, List.filter_cons]
    cases f x with
    | true => exact lcW_pure (Q := fun ys => Q (h x :: ys))
    | false => exact lcW_pure
theorem lcW_p {f : β → Bool} {h : β → δ} {Q : List δ → Prop} {X : ε → Prop} {xs : List β} : lcW (ε := ε) (fun x Q _ => Q (f x)) (fun x Q _ => Q (h x)) xs Q X = Q ((xs.filter f).map h) := propext lcW_pure
/-- what is asked, by what each asks -/
theorem lcW_of {mc : β → Wm ε Bool} {me : β → Wm ε δ} {f : β → Bool} {h : β → δ} {X : ε → Prop} : ∀ {xs : List β} {Q : List δ → Prop}, (∀ x ∈ xs, ∀ Q : Bool → Prop, Q (f x) → mc x Q X) → (∀ x ∈ xs, f x = true → ∀ Q : δ → Prop, Q (h x) → me x Q X) → Q ((xs.filter f).map h) → lcW mc me xs Q X
  | [], Q, _, _, q => q
  | x :: xs, Q, hc, he, q => by
    rw [lcW]
    refine hc x List.mem_cons_self _ ?_
    rw [List.filter_cons] at q
    cases hf : f x with
    | true =>
      rw [hf, if_pos rfl] at q
      rw [if_pos rfl]
      exact he x List.mem_cons_self hf _ (lcW_of (fun y hy => hc y (List.mem_cons_of_mem _ hy)) (fun y hy => he y (List.mem_cons_of_mem _ hy)) q)
    | false =>
      rw [hf, if_neg Bool.false_ne_true] at q
      rw [if_neg Bool.false_ne_true]
      exact lcW_of (fun y hy => hc y (List.mem_cons_of_mem _ hy)) (fun y hy => he y (List.mem_cons_of_mem _ hy)) q
/-- without a test -/
theorem lcW_map {me : β → Wm ε δ} {h : β → δ} {X : ε → Prop} {xs : List β} {Q : List δ → Prop} (he : ∀ x ∈ xs, ∀ Q : δ → Prop, Q (h x) → me x Q X) (q : Q (xs.map h)) : lcW (fun _ Q _ => Q true) me xs Q X :=
  lcW_of (f := fun _ => true) (fun _ _ _ q => q) (fun x hx _ => he x hx) (by rw [List.filter_eq_self.mpr fun _ _ => rfl]; exact q)
end
end Tw

/-! Tw4: statements, defs. -/
namespace Tw
open PySem PySem.Spec PyProof.Rows L2 SlX StX Rs Ma
variable [Rs.Tabz]
theorem leV_nil : leV [] [] := True.intro
theorem leV_none {o : Option VP} {ρ ρ' : List (Option VP)} (h : leV ρ ρ') : leV (o :: ρ) (none :: ρ') := by cases o <;> exact h
theorem leV_some {R : VP} {ρ ρ' : List (Option VP)} (h : leV ρ ρ') : leV (some R :: ρ) (some R :: ρ') := ⟨rfl, h⟩
section
variable {ε α β γ δ S S1 S2 : Type} {Z : Wsh ε} {ρ ρ' : List (Option VP)} {κ κ' κ1 : List Ow} {K : PySem.W.Frag} {w : World} {te ta tb tc : TE} {t u : TS} {tg : TA} {tt : TT} {wi : TI} {g : TG} {ma : Wm ε α} {mb : Wm ε β} {m : Wm ε α} {ml : Wm ε (List α)} {Ra R : α → VP} {Rb : β → VP} {Rd : δ → VP} {i j : Nat}
  {ρ2 : S → List (Option VP)} {κ2 : S → List Ow} {ρ1 : S1 → List (Option VP)} {κ1s : S1 → List Ow}
/-- the last statement -/
theorem ts_one {mm : Ws ε S δ} (h : TrS Z ρ κ (tSeq t tNext) mm ρ2 κ2 Rd) : TrS Z ρ κ t mm ρ2 κ2 Rd := h
theorem ts_next (s : S) (hv : leV ρ (ρ2 s)) (hc : ∀ σ F L, SatC κ σ F L → SatC (κ2 s) σ F L) : TrS Z ρ κ tNext (fun Nx (_ : δ → Prop) _ => Nx s) ρ2 κ2 Rd :=
  ⟨fun σ F L sv sc Nx Rt X q F1 N H e A wsh D nx rt => nx σ F1 L H (Same.refl _) A ⟨s, q, satV_le hv (satV_up e sv), hc _ _ _ (satC_up e sc)⟩⟩
theorem ts_nextq {mm : Ws ε S δ} (h : TrS Z ρ κ u mm ρ2 κ2 Rd) : TrS Z ρ κ (tSeq tNext u) mm ρ2 κ2 Rd := h
theorem ts_asg {js : List Nat} {up : α → List (Option VP) → List (Option VP)} {mk : α → Ws ε S δ} (h : TrE Z ρ κ te m R) (hg : TrG g R js up) (fj : freeCs js κ = true) (k : ∀ a, TrS Z (up a ρ) κ u (mk a) ρ2 κ2 Rd) :
    TrS Z ρ κ (tSeq (tAsg te g) u) (fun Nx Rt X => m (fun a => mk a Nx Rt X) X) ρ2 κ2 Rd :=
  ⟨fun σ F L sv sc Nx Rt X q F1 N H e A wsh D nx rt => h.run σ F L sv sc _ X q F1 N H e A wsh _ fun v F2 H2 e2 A2 ⟨a, q1, hv⟩ =>
    hg.run a v σ F2 ρ _ H2 (satV_up (e.trans e2) sv) hv A2 _ fun σ2 ag s2 => (k a).run σ2 F2 L s2 (satC_agree ag fj (satC_up (e.trans e2) sc)) Nx Rt X q1 F2 N H2 (Same.refl _) A2 (wsh.up e2) D
      (fun σ3 F3 L3 H3 e3 A3 n => nx σ3 F3 L3 H3 (e2.trans e3) A3 n) fun v F3 H3 e3 A3 n => rt v F3 H3 (e2.trans e3) A3 n⟩
theorem ts_set {mk : α → Ws ε S δ} (i : Nat) (h : TrE Z ρ κ te m R) (f : freeCs [i] κ = true) (k : ∀ a, TrS Z (st ρ i (some (R a))) κ u (mk a) ρ2 κ2 Rd) :
    TrS Z ρ κ (tSeq (tAsg te (gName i)) u) (fun Nx Rt X => m (fun a => mk a Nx Rt X) X) ρ2 κ2 Rd :=
  have := h.mono
  ts_asg h (tg_name i) f k
theorem ts_par {i j : Nat} {mk : α × β → Ws ε S δ} (ha : TrE Z ρ κ ta ma Ra) (hb : TrE Z ρ κ tb mb Rb) (f : freeCs [i, j] κ = true) (k : ∀ p : α × β, TrS Z (st (st ρ i (some (Ra p.1))) j (some (Rb p.2))) κ u (mk p) ρ2 κ2 Rd) :
    TrS Z ρ κ (tSeq (tPar i j (tCons ta (tCons tb tNil))) u) (fun Nx Rt X => ma (fun a => mb (fun b => mk (a, b) Nx Rt X) X) X) ρ2 κ2 Rd :=
  ⟨fun σ F L sv sc Nx Rt X q F1 N H e A wsh D nx rt => by
    show tCons ta (tCons tb tNil) σ H (fun vs H1 => ∃ v w, vs = [v, w] ∧ u D ((σ.set i (some v)).set j (some w)) H1)
    refine (ta_cons ha (ta_one hb)).run σ F L sv sc (fun p => mk p Nx Rt X) X q F1 N H e A wsh _ fun vs F2 H2 e2 A2 ⟨p, q1, hv⟩ => ?_
    obtain ⟨v, v', rfl, h1, h2⟩ := each2 hv
    refine ⟨v, v', rfl, ?_⟩
    have c2 : SatC κ ((σ.set i (some v)).set j (some v')) F2 L := satC_agree (js := [i, j]) (fun l hl => by
      rw [List.mem_cons, List.mem_singleton, not_or] at hl
      rw [List.getElem?_set_ne (fun z => hl.2 z.symm), List.getElem?_set_ne (fun z => hl.1 z.symm)]) f (satC_up (e.trans e2) sc)
    exact (k p).run _ F2 L (satV_set h2 (hb.mono _) (satV_set h1 (ha.mono _) (satV_up (e.trans e2) sv))) c2 Nx Rt X q1 F2 N H2 (Same.refl _) A2 (wsh.up e2) D
      (fun σ3 F3 L3 H3 e3 A3 n => nx σ3 F3 L3 H3 (e2.trans e3) A3 n) fun v F3 H3 e3 A3 n => rt v F3 H3 (e2.trans e3) A3 n⟩
theorem ts_ret (h : TrE Z ρ κ te m R) : TrS Z ρ κ (tRet te) (fun (_ : S → Prop) Rt X => m Rt X) ρ2 κ2 R :=
  ⟨fun σ F L sv sc Nx Rt X q F1 N H e A wsh D nx rt => h.run σ F L sv sc _ X q F1 N H e A wsh _ fun v F2 H2 e2 A2 ⟨a, q1, hv⟩ => rt v F2 H2 e2 A2.drop ⟨a, q1, hv⟩⟩
theorem ts_retq (h : TrE Z ρ κ te m R) : TrS Z ρ κ (tSeq (tRet te) u) (fun (_ : S → Prop) Rt X => m Rt X) ρ2 κ2 R := ⟨(ts_ret h).run⟩
theorem ts_if {mc : Wm ε Bool} {m1 m2 : Ws ε S δ} (h : TrT Z ρ κ tt mc) (h1 : TrS Z ρ κ t m1 ρ2 κ2 Rd) (h2 : TrS Z ρ κ u m2 ρ2 κ2 Rd) : TrS Z ρ κ (tIfS tt t u) (fun Nx Rt X => mc (fun b => if b = true then m1 Nx Rt X else m2 Nx Rt X) X) ρ2 κ2 Rd :=
  ⟨fun σ F L sv sc Nx Rt X q F1 N H e A wsh D nx rt => h.run σ F L sv sc _ X q F1 N H e A wsh _ fun b F2 H2 e2 A2 q1 => by
    cases b with
    | true =>
      rw [if_pos rfl] at q1
      exact iteT (h1.run σ F2 L (satV_up (e.trans e2) sv) (satC_up (e.trans e2) sc) Nx Rt X q1 F2 N H2 (Same.refl _) A2 (wsh.up e2) D (fun σ3 F3 L3 H3 e3 A3 n => nx σ3 F3 L3 H3 (e2.trans e3) A3 n) fun v F3 H3 e3 A3 n => rt v F3 H3 (e2.trans e3) A3 n)
    | false =>
      rw [if_neg Bool.false_ne_true] at q1
      exact iteF (h2.run σ F2 L (satV_up (e.trans e2) sv) (satC_up (e.trans e2) sc) Nx Rt X q1 F2 N H2 (Same.refl _) A2 (wsh.up e2) D (fun σ3 F3 L3 H3 e3 A3 n => nx σ3 F3 L3 H3 (e2.trans e3) A3 n) fun v F3 H3 e3 A3 n => rt v F3 H3 (e2.trans e3) A3 n)⟩
/-- an if, what follows in each of both -/
theorem ts_ifq {w' : TS} {mc : Wm ε Bool} {m1 m2 : Ws ε S δ} (h : TrT Z ρ κ tt mc) (h1 : TrS Z ρ κ (tSeq t w') m1 ρ2 κ2 Rd) (h2 : TrS Z ρ κ (tSeq u w') m2 ρ2 κ2 Rd) : TrS Z ρ κ (tSeq (tIfS tt t u) w') (fun Nx Rt X => mc (fun b => if b = true then m1 Nx Rt X else m2 Nx Rt X) X) ρ2 κ2 Rd :=
  ⟨fun σ F L sv sc Nx Rt X q F1 N H e A wsh D nx rt => h.run σ F L sv sc _ X q F1 N H e A wsh _ fun b F2 H2 e2 A2 q1 => by
    cases b with
    | true =>
      rw [if_pos rfl] at q1
      exact iteT (h1.run σ F2 L (satV_up (e.trans e2) sv) (satC_up (e.trans e2) sc) Nx Rt X q1 F2 N H2 (Same.refl _) A2 (wsh.up e2) D (fun σ3 F3 L3 H3 e3 A3 n => nx σ3 F3 L3 H3 (e2.trans e3) A3 n) fun v F3 H3 e3 A3 n => rt v F3 H3 (e2.trans e3) A3 n)
    | false =>
      rw [if_neg Bool.false_ne_true] at q1
      exact iteF (h2.run σ F2 L (satV_up (e.trans e2) sv) (satC_up (e.trans e2) sc) Nx Rt X q1 F2 N H2 (Same.refl _) A2 (wsh.up e2) D (fun σ3 F3 L3 H3 e3 A3 n => nx σ3 F3 L3 H3 (e2.trans e3) A3 n) fun v F3 H3 e3 A3 n => rt v F3 H3 (e2.trans e3) A3 n)⟩
/-- a block, then what follows -/
theorem ts_seq {m1 : Ws ε S1 δ} {m2 : S1 → Ws ε S δ} (h1 : TrS Z ρ κ t m1 ρ1 κ1s Rd) (h2 : ∀ s, TrS Z (ρ1 s) (κ1s s) u (m2 s) ρ2 κ2 Rd) : TrS Z ρ κ (tSeq t u) (fun Nx Rt X => m1 (fun s => m2 s Nx Rt X) Rt X) ρ2 κ2 Rd :=
  ⟨fun σ F L sv sc Nx Rt X q F1 N H e A wsh D nx rt => h1.run σ F L sv sc _ Rt X q F1 N H e A wsh { D with nx := u D } (fun σ2 F2 L2 H2 e2 A2 ⟨s, q1, sv1, sc1⟩ =>
    (h2 s).run σ2 F2 L2 sv1 sc1 Nx Rt X q1 F2 N H2 (Same.refl _) A2 (wsh.up e2) D (fun σ3 F3 L3 H3 e3 A3 n => nx σ3 F3 L3 H3 (e2.trans e3) A3 n) fun v F3 H3 e3 A3 n => rt v F3 H3 (e2.trans e3) A3 n) rt⟩
/-! ### loops -/
def forW (mb : S → β → Ws ε S δ) : List β → S → Ws ε S δ
  | [], s, Nx, _, _ => Nx s
  | x :: xs, s, Nx, Rt, X => mb s x (fun s' => forW mb xs s' Nx Rt X) Rt X
theorem ts_for {js : List Nat} {up : β → List (Option VP) → List (Option VP)} {mi : Wm ε (List β)} {Rx : β → VP} {mbd : S1 → β → Ws ε S1 δ} {mr : S1 → Ws ε S δ} (s0 : S1) (h0 : leV ρ (ρ1 s0)) (hc0 : ∀ σ F L, SatC κ σ F L → SatC (κ1s s0) σ F L)
    (hi : TrI Z ρ κ wi mi Rx) (hg : TrG g Rx js up) (fj : ∀ s, freeCs js (κ1s s) = true) (hb : ∀ s x, TrS Z (up x (ρ1 s)) (κ1s s) t (mbd s x) ρ1 κ1s Rd) (hr : ∀ s, TrS Z (ρ1 s) (κ1s s) u (mr s) ρ2 κ2 Rd) :
    TrS Z ρ κ (tSeq (tFor wi g t) u) (fun Nx Rt X => mi (fun xs => forW mbd xs s0 (fun s => mr s Nx Rt X) Rt X) X) ρ2 κ2 Rd :=
  ⟨fun σ F L sv sc Nx Rt X q F1 N H e A wsh D nx rt => hi.run σ F L sv sc _ X q F1 N H e A wsh _ fun J F2 H2 e2 A2 ⟨xs, q1, ⟨G, Y, wk, hG, hY⟩⟩ => by
    rw [List.length_map] at wk
    refine for_it wk (D := { D with nx := u D }) (fun i σ' H' => ∃ F' L' s, Same F2 F' ∧ At F' (L' ++ N) H' ∧ SatV (ρ1 s) σ' F' ∧ SatC (κ1s s) σ' F' L' ∧ forW mbd (xs.drop i) s (fun s => mr s Nx Rt X) Rt X) ⟨F2, L, s0, Same.refl _, A2, satV_le h0 (satV_up (e.trans e2) sv), hc0 _ _ _ (satC_up (e.trans e2) sc), q1⟩
      (fun i σ' H' _ ⟨F', L', s, e', A', _⟩ => hG F' _ H' e' A') ?_ ?_
    · rintro i x σ' H3 H4 hi ⟨F', L', s, e', A', sv', sc', q2⟩ y
      obtain ⟨F3, R, e3, A3, hR, hx⟩ := hY F' _ H3 i x H4 e' A' (by rw [List.length_map]; exact hi) y
      rw [List.getElem?_map] at hR
      have hxi : xs[i]? = some xs[i] := List.getElem?_eq_getElem hi
      rw [hxi] at hR
      cases hR
      rw [drop_at hxi, forW] at q2
      refine hg.run xs[i] x σ' F3 (ρ1 s) _ H4 (satV_up e3 sv') hx A3 _ fun σ2 ag s2 => ?_
      exact (hb s xs[i]).run σ2 F3 L' s2 (satC_agree ag (fj s) (satC_up e3 sc')) _ Rt X q2 F3 N H4 (Same.refl _) A3 (wsh.up ((e2.trans e').trans e3)) _
        (fun σ5 F5 L5 H5 e5 A5 ⟨s', q5, sv5, sc5⟩ => ⟨F5, L5, s', (e'.trans e3).trans e5, A5, sv5, sc5, q5⟩) fun v F5 H5 e5 A5 n => rt v F5 H5 (((e2.trans e').trans e3).trans e5) A5 n
    · rintro σ' H3 ⟨F', L', s, e', A', sv', sc', q2⟩
      rw [List.drop_length, forW] at q2
      exact (hr s).run σ' F' L' sv' sc' Nx Rt X q2 F' N H3 (Same.refl _) A' (wsh.up (e2.trans e')) D (fun σ3 F3 L3 H3 e3 A3 n => nx σ3 F3 L3 H3 ((e2.trans e').trans e3) A3 n) fun v F3 H3 e3 A3 n => rt v F3 H3 ((e2.trans e').trans e3) A3 n⟩
/-- by an invariant -/
theorem forW_inv {mbd : S → β → Ws ε S δ} {Nx : S → Prop} {Rt : δ → Prop} {X : ε → Prop} (Inv : Nat → S → Prop) : ∀ {xs : List β} {s : S}, Inv 0 s → (∀ i x s, xs[i]? = some x → Inv i s → mbd s x (Inv (i + 1)) Rt X) → (∀ s, Inv xs.length s → Nx s) →
    (∀ s x (P Q : S → Prop), (∀ s, P s → Q s) → mbd s x P Rt X → mbd s x Q Rt X) → forW mbd xs s Nx Rt X := by
  intro xs s h0 hs hd mono
  suffices H : ∀ (ys : List β) (i : Nat) (s : S), (∀ j, ys[j]? = xs[i + j]?) → ys.length + i = xs.length → Inv i s → forW mbd ys s Nx Rt X from H xs 0 s (fun j => by rw [Nat.zero_add]) rfl h0
  intro ys
  induction ys with
  | nil => intro i s hj hl h; exact hd s (by simp only [List.length_nil, Nat.zero_add] at hl; rwa [hl] at h)
  | cons y ys ih =>
    intro i s hj hl h
    rw [forW]
    have hy : xs[i]? = some y := by have := hj 0; simpa using this.symm
    exact mono s y _ _ (fun s' h' => ih (i + 1) s' (fun j => by have := hj (j + 1); rw [List.getElem?_cons_succ] at this; rw [this]; congr 1; omega) (by simp only [List.length_cons] at hl; omega) h') (hs i y s hy h)
/-- each turn is known where the invariant holds -/
theorem forW_at {mbd : S → β → Ws ε S δ} {f : Nat → S} {Nx : S → Prop} {Rt : δ → Prop} {X : ε → Prop} {xs : List β} (h : ∀ i x, xs[i]? = some x → ∀ P : S → Prop, P (f (i + 1)) → mbd (f i) x P Rt X) (q : Nx (f xs.length)) : forW mbd xs (f 0) Nx Rt X := by
  suffices H : ∀ (ys : List β) (i : Nat), (∀ j, ys[j]? = xs[i + j]?) → ys.length + i = xs.length → forW mbd ys (f i) Nx Rt X from H xs 0 (fun j => by rw [Nat.zero_add]) rfl
  intro ys
  induction ys with
  | nil => intro i hj hl; simp only [List.length_nil, Nat.zero_add] at hl; subst hl; exact q
  | cons y ys ih =>
    intro i hj hl
    rw [forW]
    have hy : xs[i]? = some y := by have := hj 0; simpa using this.symm
    exact h i y hy _ (ih (i + 1) (fun j => by have := hj (j + 1); rw [List.getElem?_cons_succ] at this; rw [this]; congr 1; omega) (by simp only [List.length_cons] at hl; omega))
/-! ### lists of one's own -/
theorem ts_newC {mk : List α → Ws ε S δ} (i : Nat) (h : TrN Z ρ κ te ml R) (f : freeCs [i] κ = true) (hi : Nat.blt i ρ.length = true) (k : ∀ xs, TrS Z (st ρ i none) (.one i (ownL (xs.map R)) :: κ) u (mk xs) ρ2 κ2 Rd) :
    TrS Z ρ κ (tSeq (tAsg te (gName i)) u) (fun Nx Rt X => ml (fun xs => mk xs Nx Rt X) X) ρ2 κ2 Rd :=
  have := h.mono
  ⟨fun σ F L sv sc Nx Rt X q F1 N H e A wsh D nx rt => h.run σ F L sv sc _ X q F1 N H e A wsh _ fun a vs F2 H2 xs e2 A2 r q1 => by
    have e12 := e.trans e2
    refine (k xs).run (σ.set i (some (.ref a))) F2 ((a, .lst vs) :: L) (satV_none (satV_up e12 sv)) ⟨a, .lst vs, L, rfl, ?_, fun F' e' => ⟨vs, rfl, MonoL.mono _ _ _ e' r⟩, satC_agree (js := [i]) (fun l hl => List.getElem?_set_ne fun z => hl (by rw [z]; exact List.mem_singleton.mpr rfl)) f (satC_up e12 sc)⟩ Nx Rt X q1 F2 N H2 (Same.refl _) A2 (wsh.up e2) D
      (fun σ3 F3 L3 H3 e3 A3 n => nx σ3 F3 L3 H3 (e2.trans e3) A3 n) fun v F3 H3 e3 A3 n => rt v F3 H3 (e2.trans e3) A3 n
    rw [List.getElem?_set_self (by rw [← sat_len sv]; exact Nat.le_of_ble_eq_true hi)]⟩
theorem ts_app {xs : List α} {mk : α → Ws ε S δ} (h : TrE Z ρ (.one i (ownL (xs.map R)) :: κ) te m R) (k : ∀ a, TrS Z ρ (.one i (ownL ((xs ++ [a]).map R)) :: κ) u (mk a) ρ2 κ2 Rd) :
    TrS Z ρ (.one i (ownL (xs.map R)) :: κ) (tSeq (tDrop (tBM K "list" rAppend (tVar i) (tCons te tNil))) u) (fun Nx Rt X => m (fun a => xs.length < 100000 ∧ mk a Nx Rt X) X) ρ2 κ2 Rd :=
  have := h.mono
  ⟨fun σ F L sv sc Nx Rt X q F1 N H e A wsh D nx rt => by
    obtain ⟨a, o, L', hL, h1, h2, h3⟩ := sc
    obtain ⟨vs, ho, hv⟩ := h2 F (Same.refl _)
    subst hL ho
    refine ⟨.ref a, h1, .inl ⟨rfl, vs, .inl (.inl (A.on1))⟩, ?_⟩
    refine h.run σ F ((a, .lst vs) :: L') sv ⟨a, .lst vs, L', rfl, h1, h2, h3⟩ _ X q F1 N H e A wsh _ fun v F2 H2 e2 A2 ⟨x, ⟨hz, q1⟩, hx⟩ => ?_
    refine ⟨a, vs, v, rfl, rfl, A2.on1, len_lt (by rw [each_length hv, List.length_map]; exact hz), ?_⟩
    have e12 := e.trans e2
    have hv2 : Each ((xs ++ [x]).map R) (vs ++ [v]) F2 := by rw [List.map_append]; exact each_app (MonoL.mono _ _ _ e12 hv) ⟨hx, True.intro⟩
    exact (k x).run σ F2 ((a, .lst (vs ++ [v])) :: L') (satV_up e12 sv) ⟨a, _, L', rfl, h1, fun F' e' => ⟨_, rfl, MonoL.mono _ _ _ e' hv2⟩, satC_up e12 h3⟩ Nx Rt X q1 F2 N _ (Same.refl _) (At.put A2) (wsh.up e2) D
      (fun σ3 F3 L3 H3 e3 A3 n => nx σ3 F3 L3 H3 (e2.trans e3) A3 n) fun v F3 H3 e3 A3 n => rt v F3 H3 (e2.trans e3) A3 n⟩
/-- one's own list handed back -/
theorem ts_retC {xs : List α} [∀ a, Mono (R a)] : TrS Z ρ (.one i (ownL (xs.map R)) :: κ) (tRet (tVar i)) (fun (_ : S → Prop) Rt X => Rt xs) ρ2 κ2 (fLn R) :=
  ⟨fun σ F L sv sc Nx Rt X q F1 N H e A wsh D nx rt => by
    obtain ⟨a, o, L', hL, h1, h2, h3⟩ := sc
    obtain ⟨vs, ho, hv⟩ := h2 F1 e
    subst hL ho
    have A1 : At F1 ((a, .lst vs) :: (L' ++ N)) H := A
    exact ⟨.ref a, h1, rt _ _ _ (same_new A1.off1) (A1.keep.drop) ⟨xs, q, a, vs, rfl, upd_same, MonoL.mono _ _ _ (same_new A1.off1) hv⟩⟩⟩
theorem TrS.same {mm : Ws ε S δ} {R' : δ → VP} (h : TrS Z ρ κ t mm ρ2 κ2 Rd) (hr : ∀ a v F, Rd a v F → R' a v F) : TrS Z ρ κ t mm ρ2 κ2 R' :=
  ⟨fun σ F L sv sc Nx Rt X q F1 N H e A wsh D nx rt => h.run σ F L sv sc Nx Rt X q F1 N H e A wsh D nx fun v F' H' e' A' ⟨a, r1, r2⟩ => rt v F' H' e' A' ⟨a, r1, hr _ _ _ r2⟩⟩
theorem tr_tupC {xs : List α} [∀ a, Mono (R a)] : TrE Z ρ (.one i (ownL (xs.map R)) :: κ) (tCB (rTupOf K) (tCons (tVar i) tNil)) (pur xs) (fTp K R) :=
  .of fun σ F L sv sc Q X q => by
    obtain ⟨a, o, L', hL, h1, h2, h3⟩ := sc
    obtain ⟨vs, ho, hv⟩ := h2 F (Same.refl _)
    subst hL ho
    exact Run.weak (r_tupC (l := a) (xs := vs) (Rs := xs.map R) List.mem_cons_self (r_cons (r_varE h1) r_nil) hv) fun v F1 e r => ⟨xs, q, r⟩
/-- what a value says of what it stands for -/
theorem tr_fact {p : α → Prop} (hp : ∀ a v F, R a v F → p a) (h : TrE Z ρ κ te m R) : TrE Z ρ κ te (fun Q X => m (fun a => p a → Q a) X) R :=
  ⟨h.mono, fun σ F L s c Q X q => (h.run σ F L s c _ X q).weak fun v F2 e ⟨a, q1, r1⟩ => ⟨a, q1 (hp a v F2 r1), r1⟩⟩
/-- what does not hang on the heap -/
class FlatR (R : α → VP) : Prop where
  fl : ∀ a v F F', R a v F → R a v F'
instance : FlatR (fD K dInt) := ⟨fun a v F F' h => by cases h; exact .int a⟩
instance : FlatR (fD K dN) := ⟨fun a v F F' h => by cases h; exact .int _⟩
instance : FlatR (fD K dB) := ⟨fun a v F F' h => by cases h; exact .bl a⟩
instance : FlatR (fD K dS) := ⟨fun a v F F' h => by cases h; exact .str a⟩
instance : FlatR (fD K dU) := ⟨fun a v F F' h => by cases h; exact .non⟩
theorem At.unkeep {F F2 : Hp} {L : Cells} {a : Addr} {o : HO} {H : Hp} (ho : ∀ xs, o ≠ .tup xs) (hb : ∀ ps, o ≠ .tbl ps) (hc : ∀ c q, o ≠ CodeT c q) (e : Same (upd F a o) F2) (A : At F2 L H) : At (fun b => if b = a then none else F2 b) ((a, o) :: L) H := by
  have h2 : F2 a = some o := e _ _ upd_same
  refine ⟨fun b u h => ?_, fun p q => ?_, fun p q => ?_, ?_, fun p q => ?_, fun p q => (List.mem_cons.mp q).elim (fun z => z ▸ hb) (A.nb p), fun p q => (List.mem_cons.mp q).elim (fun z => z ▸ hc) (A.nc p), A.tb.up fun c q h => (if_neg (fun z : c = a => hc c q (by subst z; rw [h2] at h; exact Option.some.inj h))).trans h, fun P hP => ?_⟩
  · by_cases hb : b = a
    · rw [if_pos hb] at h; cases h
    · rw [if_neg hb] at h; exact A.ex b u h
  · rcases List.mem_cons.mp q with z | z
    · subst z; exact A.ex _ _ h2
    · exact A.on p z
  · rcases List.mem_cons.mp q with z | z
    · subst z; simp
    · show (if p.1 = a then none else F2 p.1) = none
      rw [A.off p z]; simp
  · rw [List.map_cons, List.nodup_cons]
    refine ⟨fun z => ?_, A.nd⟩
    obtain ⟨p, hp, he⟩ := List.mem_map.mp z
    have := A.off p hp
    rw [he, h2] at this; cases this
  · rcases List.mem_cons.mp q with z | z
    · subst z; exact ho
    · exact A.nt p z
  · show (if P = a then none else F2 P) = none
    split
    · rfl
    · exact A.ft P hP
/-- one's own list, looked at as a value -/
theorem tr_bor {xs : List α} {mm : Wm ε δ} [FlatR Rd] [∀ a, Mono (R a)] (h : TrE Z (st ρ i (some (fLn R xs))) κ te mm Rd) (f : freeCs [i] κ = true) (hi : Nat.blt i ρ.length = true) (hX : ∀ Q X, mm Q X → mm Q (fun _ => False)) : TrE Z ρ (.one i (ownL (xs.map R)) :: κ) te mm Rd :=
  ⟨h.mono, fun σ F L sv sc Q X q F1 N H e A wsh Qk qk => by
    obtain ⟨a, o, L', hL, h1, h2, h3⟩ := sc
    obtain ⟨vs, ho, hv⟩ := h2 F1 e
    subst hL ho
    have A1 : At F1 ((a, .lst vs) :: (L' ++ N)) H := A
    have e1 : Same F1 (upd F1 a (.lst vs)) := same_new A1.off1
    have sv1 : SatV (st ρ i (some (fLn R xs))) (σ.set i (some (.ref a))) (upd F1 a (.lst vs)) := satV_set (show fLn R xs (.ref a) _ from ⟨a, vs, rfl, upd_same, MonoL.mono _ _ _ e1 hv⟩) inferInstance (satV_up (e.trans e1) sv)
    have eσ : σ.set i (some (.ref a)) = σ := by
      apply List.ext_getElem?
      intro j
      by_cases hj : i = j
      · subst hj
        rw [List.getElem?_set_self (by rw [← sat_len sv]; exact Nat.le_of_ble_eq_true hi), h1]
      · rw [List.getElem?_set_ne hj]
    rw [eσ] at sv1
    refine h.run σ (upd F1 a (.lst vs)) L' sv1 (satC_up (e.trans e1) h3) Q _ (hX Q X q) (upd F1 a (.lst vs)) N H (Same.refl _) A1.keep (fun _ _ _ _ _ _ _ _ _ _ z => z.elim) Qk fun v F2 H2 e2 A2 ⟨d, q2, r⟩ => ?_
    have A3 := At.unkeep (F := F1) (o := .lst vs) (fun xs z => nomatch z) (fun xs z => nomatch z) (fun c q z => nomatch z) e2 A2
    refine qk v _ H2 (fun b u hb => ?_) A3 ⟨d, q2, FlatR.fl _ _ _ _ r⟩
    have hne : b ≠ a := ne_of_none hb A1.off1
    show (if b = a then none else F2 b) = some u
    rw [if_neg hne]
    exact e2 b u (e1 b u hb)⟩
end

/-! ### defs -/
def Z0 : Wsh Empty where
  wi := fun _ _ _ _ => False
  xr := fun _ _ _ _ => False
  t := fun _ _ _ => True
  tl := fun _ _ _ _ h => h
def X0 : Empty → Prop := fun _ => False
theorem wish0 {F : Hp} {N : Cells} {X : Empty → Prop} : WishOk Z0 F N X := fun e => nomatch e
def ofArgs : List VP → Nat → List (Option VP)
  | [], n => List.replicate n none
  | R :: Rs, n + 1 => some R :: ofArgs Rs n
  | R :: Rs, 0 => some R :: ofArgs Rs 0
class MonoAll (Rs : List VP) : Prop where
  all : ∀ R ∈ Rs, Mono R
instance : MonoAll [] := ⟨fun _ h => nomatch h⟩
instance {R : VP} {Rs : List VP} [m : Mono R] [h : MonoAll Rs] : MonoAll (R :: Rs) := ⟨fun S hS => (List.mem_cons.mp hS).elim (fun z => z ▸ m) (h.all S)⟩
theorem sat_start : ∀ {Rs : List VP} {vs : List V} {F : Hp} {n : Nat}, MonoAll Rs → Each Rs vs F → SatV (ofArgs Rs n) (vs.map some ++ List.replicate (n - vs.length) none) F
  | [], [], F, n, _, _ => by
    rw [ofArgs, List.map_nil, List.nil_append, List.length_nil, Nat.sub_zero]
    induction n with
    | zero => exact True.intro
    | succ n ih => exact ih
  | R :: Rs, v :: vs, F, n, m, h => by
    have ih := sat_start (n := n - 1) (Rs := Rs) (vs := vs) ⟨fun S hS => m.all S (List.mem_cons_of_mem _ hS)⟩ h.2
    have hm := m.all R List.mem_cons_self
    cases n with
    | zero =>
      refine ⟨⟨v, rfl, h.1, hm⟩, ?_⟩
      have e : 0 - (v :: vs).length = 0 - 1 - vs.length := by rw [List.length_cons]; omega
      rw [e]; exact ih
    | succ n =>
      refine ⟨⟨v, rfl, h.1, hm⟩, ?_⟩
      have e : n + 1 - (v :: vs).length = n + 1 - 1 - vs.length := by rw [List.length_cons]; omega
      rw [e]; exact ih
  | [], _ :: _, _, _, _, h => h.elim
  | _ :: _, [], _, _, _, h => h.elim
section
variable {P : Program} {w : World} {K : PySem.W.Frag} {mg : Str → Option Value} {base : Heap} {γ δ S : Type}
theorem gw_ok {x qual : Str} {stt : Stmt} {f : Addr} {fd : FuncData} {N ps : List Str} {k : Nat} {Rs : γ → List VP} {spec : γ → (δ → Prop) → Prop} {R : δ → VP} (Nx : (δ → Prop) → S → Prop) (F : Fun K x qual stt f fd) (Sc : FnScope N ps (defScope stt)) (len : ∀ g, (Rs g).length = ps.length) (hm : ∀ g, MonoAll (Rs g)) (ρ2 : S → List (Option VP)) (κ2 : S → List Ow)
    (hN : ∀ Q s, Nx Q s → ∃ d, Q d ∧ ∀ F, R d .non F)
    (body : ∀ (cdv : Value) (A : Around) (outer : List Env) (s : Shared) (H : Hp) (E : XK) (g : γ), Room k (A.deeper (envOfC qual (defScope stt) s.heap.objs.size f cdv)) →
      ∃ t, PSs (cxOf CX0 P w K mg base N qual (defScope stt) f cdv A outer s H E).nox (defBody stt) t ∧ ∃ m : Ws Empty S δ, TrS Z0 (ofArgs (Rs g) N.length) [] t m ρ2 κ2 R ∧ ∀ Q, (∃ vs F, Each (Rs g) vs F) → spec g Q → m (Nx Q) Q X0) :
    FnOk P w K mg base CX0 (k + 1) f fd ps (SpN Rs spec R) := by
  refine F.ok Sc (fun vs H Q E ⟨g, F0, N0, P0, A, hv, q⟩ => (each_length hv).trans (len g)) fun cdv A outer s H vs Q E hr ⟨g, F0, N0, P0, A0, hv, hs, q⟩ => ?_
  obtain ⟨t, h1, m, h2, h3⟩ := body cdv A outer s H E g hr
  refine ⟨t, h1, ?_⟩
  refine h2.run (start N vs) F0 [] (sat_start (hm g) hv) True.intro _ _ _ (h3 P0 ⟨vs, F0, hv⟩ hs) F0 N0 H (Same.refl _) A0 wish0 _ (fun σ' F' L' H' e' A' ⟨s', n, _⟩ => ?_) fun v F' H' e' A' ⟨d, pd, r⟩ => q d v F' H' e' A' pd r
  obtain ⟨d, pd, rd⟩ := hN _ _ n
  exact q d .non F' H' e' A'.drop pd (rd F')
theorem gw_mk {x : Str} {stt : Stmt} {f : Addr} {fd : FuncData} {N ps : List Str} {k : Nat} {Rs : γ → List VP} {spec : γ → (δ → Prop) → Prop} {R : δ → VP} (F : Fun K x x stt f fd) (hmg : mg x = some (.ref f)) (b : Binds K fd ps []) (Sc : FnScope N ps (defScope stt)) (len : ∀ g, (Rs g).length = ps.length) (hm : ∀ g, MonoAll (Rs g))
    (body : ∀ (cdv : Value) (A : Around) (outer : List Env) (s : Shared) (H : Hp) (E : XK) (g : γ), Room k (A.deeper (envOfC x (defScope stt) s.heap.objs.size f cdv)) →
      ∃ t, PSs (cxOf CX0 P w K mg base N x (defScope stt) f cdv A outer s H E).nox (defBody stt) t ∧ ∃ m : Ws Empty Unit δ, TrS Z0 (ofArgs (Rs g) N.length) [] t m (fun _ => List.replicate N.length none) (fun _ => []) R ∧ ∀ Q, (∃ vs F, Each (Rs g) vs F) → spec g Q → m (fun _ => False) Q X0) :
    Gf P w K mg base (k + 1) x (SpN Rs spec R) :=
  ⟨f, fd, ps, gw_ok (fun _ _ => False) F Sc len hm _ _ (fun _ _ h => h.elim) body, hmg, F.kp, b⟩
theorem gw_met {x qual : Str} {stt : Stmt} {f : Addr} {fd : FuncData} {N ps : List Str} {k : Nat} {Rs : γ → List VP} {spec : γ → (δ → Prop) → Prop} {R : δ → VP} (F : Fun K x qual stt f fd) (Sc : FnScope N ps (defScope stt)) (len : ∀ g, (Rs g).length = ps.length) (hm : ∀ g, MonoAll (Rs g))
    (body : ∀ (cdv : Value) (A : Around) (outer : List Env) (s : Shared) (H : Hp) (E : XK) (g : γ), Room k (A.deeper (envOfC qual (defScope stt) s.heap.objs.size f cdv)) →
      ∃ t, PSs (cxOf CX0 P w K mg base N qual (defScope stt) f cdv A outer s H E).nox (defBody stt) t ∧ ∃ m : Ws Empty Unit δ, TrS Z0 (ofArgs (Rs g) N.length) [] t m (fun _ => List.replicate N.length none) (fun _ => []) R ∧ ∀ Q, (∃ vs F, Each (Rs g) vs F) → spec g Q → m (fun _ => False) Q X0) :
    FnOk P w K mg base CX0 (k + 1) f fd ps (SpN Rs spec R) := gw_ok (fun _ _ => False) F Sc len hm _ _ (fun _ _ h => h.elim) body
/-- a promise by a precondition, as one by a wish -/
theorem SpF.toN {pre : γ → Prop} {Rs : γ → List VP} {f : γ → δ} {R : δ → VP} {vs : List V} {H : Hp} {Q : VK} {E : XK} (h : SpN Rs (fun g Q => pre g ∧ Q (f g)) R vs H Q E) : SpF pre Rs (fun g => R (f g)) vs H Q E :=
  let ⟨g, F, N, P, A, hv, ⟨hp, p⟩, q⟩ := h
  ⟨g, F, N, hp, A, hv, fun v F' H' e A' r => q _ v F' H' e A' p r⟩
theorem Gf.toN {k : Nat} {x : Str} {pre : γ → Prop} {Rs : γ → List VP} {f : γ → δ} {R : δ → VP} (h : Gf P w K mg base k x (SpF pre Rs (fun g => R (f g)))) : Gf P w K mg base k x (SpN Rs (fun g Q => pre g ∧ Q (f g)) R) :=
  let ⟨a, fd, ps, F, h1, h2, h3⟩ := h
  ⟨a, fd, ps, F.imp fun _ _ _ _ => SpF.toN, h1, h2, h3⟩
end
end Tw

/-! Tw5: a class's own ==, len, str, in; more of numbers, lists, pairs. -/
namespace Tw
open PySem PySem.Spec PyProof.Rows L2 SlX StX Rs Ma
variable [Rs.Tabz]
section
variable {ε α β γ δ S : Type} {Z : Wsh ε} {ρ : List (Option VP)} {κ : List Ow} {K : PySem.W.Frag} {w : World} {te ta tb tc : TE} {t : TA} {u u1 w1 : TS} {ma : Wm ε α} {mb : Wm ε β} {m : Wm ε α} {ml : Wm ε (List α)} {Ra R : α → VP} {Rb : β → VP} {Rc : γ → VP} {Rd : δ → VP} {C : Addr} {E : XK} {i j : Nat}
  {ρ2 : S → List (Option VP)} {κ2 : S → List Ow}
theorem o_eqOwn {spec : α × β → (Bool → Prop) → Prop} [∀ a, Mono (Ra a)] [∀ b, Mono (Rb b)] (hn : PySem.W.notFirst K C (.ref C) = true) (h1 : ∀ a v F, Ra a v F → IsOb C v F) (h2 : ∀ a v F, Rb a v F → IsOb C v F) :
    Op2 ε (rOwn K C (SpN (fun p : α × β => [Ra p.1, Rb p.2]) spec (fD K dB)) E) Ra Rb (fun a b Q _ => spec (a, b) Q) (fD K dB) :=
  ⟨fun a b x y F L hx hy Q X q => fun F2 N H e2 A Qk qk => by
    obtain ⟨p, dx, vs, rfl, q1, q2⟩ := h1 _ _ _ hx
    obtain ⟨p', dy, ws, rfl, q3, q4⟩ := h2 _ _ _ hy
    exact ⟨p, dx, vs, p', C, dy, ws, rfl, rfl, at_slt A (e2 _ _ q1) (e2 _ _ q2), at_slt A (e2 _ _ q3) (e2 _ _ q4), hn, (a, b), F2, L ++ N, Q, A, ⟨Mono.go hx e2, Mono.go hy e2, True.intro⟩, q, fun d v F3 H3 e3 A3 pd r => qk v F3 H3 e3 A3 ⟨d, pd, r⟩⟩⟩
theorem o_neOwn {spec : α × β → (Bool → Prop) → Prop} [∀ a, Mono (Ra a)] [∀ b, Mono (Rb b)] (hn : PySem.W.notFirst K C (.ref C) = true) (h1 : ∀ a v F, Ra a v F → IsOb C v F) (h2 : ∀ a v F, Rb a v F → IsOb C v F) :
    Op2 ε (Nq.rNeOwn K C (SpN (fun p : α × β => [Ra p.1, Rb p.2]) spec (fD K dB)) E) Ra Rb (fun a b Q _ => spec (a, b) fun c => Q (!c)) (fD K dB) :=
  ⟨fun a b x y F L hx hy Q X q => fun F2 N H e2 A Qk qk => by
    obtain ⟨p, dx, vs, rfl, q1, q2⟩ := h1 _ _ _ hx
    obtain ⟨p', dy, ws, rfl, q3, q4⟩ := h2 _ _ _ hy
    exact ⟨p, dx, vs, p', C, dy, ws, rfl, rfl, at_slt A (e2 _ _ q1) (e2 _ _ q2), at_slt A (e2 _ _ q3) (e2 _ _ q4), hn, (a, b), F2, L ++ N, fun c => Q (!c), A, ⟨Mono.go hx e2, Mono.go hy e2, True.intro⟩, q, fun d v F3 H3 e3 A3 pd r => ⟨d, dt_bl r, qk _ F3 H3 e3 A3 ⟨!d, pd, .bl _⟩⟩⟩⟩
theorem c_lenOwn {spec : α → (Nat → Prop) → Prop} [∀ a, Mono (Ra a)] (h1 : ∀ a v F, Ra a v F → IsOb C v F) : Cb ε (rLenOwn C (SpN (fun a => [Ra a]) spec (fD K dN)) E) (fun a => [Ra a]) (fun a Q _ => spec a fun n => n ≤ 100000 ∧ Q n) (fD K dN) :=
  ⟨fun g vs F L hv Q X q => fun F2 N H e2 A Qk qk => by
    obtain ⟨x, rfl, hx⟩ := each1 hv
    obtain ⟨a, dx, us, rfl, q1, q2⟩ := h1 _ _ _ hx
    refine ⟨a, dx, us, rfl, at_slt A (e2 _ _ q1) (e2 _ _ q2), g, F2, L ++ N, fun n => n ≤ 100000 ∧ Q n, A, ⟨Mono.go hx e2, True.intro⟩, q, fun d v F3 H3 e3 A3 pd r => ?_⟩
    obtain ⟨p1, p2⟩ := pd
    cases r
    exact ⟨(d : Int), rfl, by omega, by omega, qk _ F3 H3 e3 A3 ⟨d, p2, .int _⟩⟩⟩
theorem c_strOwn {spec : α → (Str → Prop) → Prop} [∀ a, Mono (Ra a)] (h1 : ∀ a v F, Ra a v F → IsOb C v F) : Cb ε (rStrOwn C (SpN (fun a => [Ra a]) spec (fD K dS)) E) (fun a => [Ra a]) (fun a Q _ => spec a Q) (fD K dS) :=
  ⟨fun g vs F L hv Q X q => fun F2 N H e2 A Qk qk => by
    obtain ⟨x, rfl, hx⟩ := each1 hv
    obtain ⟨a, dx, us, rfl, q1, q2⟩ := h1 _ _ _ hx
    refine ⟨a, dx, us, rfl, at_slt A (e2 _ _ q1) (e2 _ _ q2), g, F2, L ++ N, Q, A, ⟨Mono.go hx e2, True.intro⟩, q, fun d v F3 H3 e3 A3 pd r => ?_⟩
    cases r
    exact ⟨d, rfl, qk _ F3 H3 e3 A3 ⟨d, pd, .str _⟩⟩⟩
theorem o_inOwn {spec : α × β → (Bool → Prop) → Prop} [∀ a, Mono (Ra a)] [∀ b, Mono (Rb b)] (h1 : ∀ a v F, Ra a v F → IsOb C v F) :
    Op2 ε (rInOwn C (SpN (fun p : α × β => [Ra p.1, Rb p.2]) spec (fD K dB)) E) Rb Ra (fun b a Q _ => spec (a, b) Q) (fD K dB) :=
  ⟨fun b a x y F L hx hy Q X q => fun F2 N H e2 A Qk qk => by
    obtain ⟨p, dx, us, rfl, q1, q2⟩ := h1 _ _ _ hy
    exact ⟨p, dx, us, rfl, at_slt A (e2 _ _ q1) (e2 _ _ q2), (a, b), F2, L ++ N, Q, A, ⟨Mono.go hy e2, Mono.go hx e2, True.intro⟩, q, fun d v F3 H3 e3 A3 pd r => ⟨d, dt_bl r, qk _ F3 H3 e3 A3 ⟨d, pd, .bl _⟩⟩⟩⟩
/-! numbers -/
/-! lists, pairs -/
/-- x, l = a, a new list -/
theorem ts_parN {i j : Nat} {mlb : Wm ε (List β)} {mk : α → List β → Ws ε S δ} (ha : TrE Z ρ κ ta ma Ra) (hb : TrN Z ρ κ tb mlb Rb) (f : freeCs [i, j] κ = true) (hij : Nat.beq i j = false) (hi : Nat.blt j ρ.length = true) (k : ∀ a xs, TrS Z (st (st ρ i (some (Ra a))) j none) (.one j (ownL (xs.map Rb)) :: κ) u (mk a xs) ρ2 κ2 Rd) :
    TrS Z ρ κ (tSeq (tPar i j (tCons ta (tCons tb tNil))) u) (fun Nx Rt X => ma (fun a => mlb (fun xs => mk a xs Nx Rt X) X) X) ρ2 κ2 Rd :=
  have := hb.mono
  ⟨fun σ F L sv sc Nx Rt X q F1 N H e A wsh D nx rt => by
    show ta σ H (fun v H1 => tb σ H1 fun v' H2 => ∃ v1 w1, [v, v'] = [v1, w1] ∧ u D ((σ.set i (some v1)).set j (some w1)) H2)
    refine ha.run σ F L sv sc _ X q F1 N H e A wsh _ fun v F2 H2 e2 A2 ⟨a, q1, hv⟩ => ?_
    have e12 := e.trans e2
    refine hb.run σ F2 L (satV_up e12 sv) (satC_up e12 sc) _ X q1 F2 N H2 (Same.refl _) A2 (wsh.up e2) _ fun p vs F3 H3 xs e3 A3 r q2 => ⟨v, .ref p, rfl, ?_⟩
    have e13 := e12.trans e3
    have c3 : SatC κ ((σ.set i (some v)).set j (some (.ref p))) F3 L := satC_agree (js := [i, j]) (fun l hl => by
      rw [List.mem_cons, List.mem_singleton, not_or] at hl
      rw [List.getElem?_set_ne (fun z => hl.2 z.symm), List.getElem?_set_ne (fun z => hl.1 z.symm)]) f (satC_up e13 sc)
    refine (k a xs).run _ F3 ((p, .lst vs) :: L) (satV_none (satV_set ((ha.mono a).mono _ _ _ e3 hv) (ha.mono _) (satV_up e13 sv))) ⟨p, .lst vs, L, rfl, ?_, fun F' e' => ⟨vs, rfl, MonoL.mono _ _ _ e' r⟩, c3⟩ Nx Rt X q2 F3 N H3 (Same.refl _) A3 (wsh.up (e2.trans e3)) D
      (fun σ4 F4 L4 H4 e4 A4 n => nx σ4 F4 L4 H4 ((e2.trans e3).trans e4) A4 n) fun v F4 H4 e4 A4 n => rt v F4 H4 ((e2.trans e3).trans e4) A4 n
    rw [List.getElem?_set_self (by rw [List.length_set, ← sat_len sv]; exact Nat.le_of_ble_eq_true hi)]⟩
end
end Tw

/-! Rz: list(zip(a, b, strict=True)) of two tuples. -/
namespace Rz
open PySem PySem.Spec PyProof.Rows
variable [Rs.Tabz]
open PySem.Sem (wp)
section
variable {prog : Program} {w : World} {A : Around} {E : Value → Shared → Prop} {s : Shared}
open Builtin.SmallTypes (nextOf nextOrEnd)
abbrev IsZS (h : Heap) (z TI TO : Addr) (f0 : Value) (f1 : Bool) : Prop :=
  h.get? z = some { cls := .type "zip", dict := none, data := .fields #[f0, .bool f1, .bool true, .ref TI, .ref TO], slots := #[] }
/-- the zip while it is used up: nothing is out yet, or the first pair is -/
def ZSt (h : Heap) (z TI TO i1 i2 l1 l2 S : Addr) (xs ys : Array Value) (k : Nat) : Prop :=
  IsPair h TI (.ref i1) (.ref i2) ∧ h.IsTupleIter i1 l1 k ∧ h.IsTupleIter i2 l2 k ∧ h.IsTuple l1 xs ∧ h.IsTuple l2 ys ∧
  ((k = 0 ∧ IsZS h z TI TO .none false ∧ IsPair h TO .none .none) ∨ ∃ (T : Addr) (f : Bool) (oT : Obj), IsZS h z TI TO (rawInt T) f ∧ h.get? T = some oT ∧ T ≠ z ∧ T ≠ i1 ∧ T ≠ i2 ∧ T ≠ S)
theorem ZSt.keep {h h' : Heap} {z TI TO i1 i2 l1 l2 S : Addr} {xs ys : Array Value} {k : Nat} (Z : ZSt h z TI TO i1 i2 l1 l2 S xs ys k) (D : ZipApart z TI TO i1 i2 l1 l2) (hS : S ≠ z ∧ S ≠ TI ∧ S ≠ TO ∧ S ≠ i1 ∧ S ≠ i2 ∧ S ≠ l1 ∧ S ≠ l2)
    (kp : ∀ b o, b ≠ S → h.get? b = some o → h'.get? b = some o) : ZSt h' z TI TO i1 i2 l1 l2 S xs ys k := by
  obtain ⟨a1, a2, a3, a4, a5, a6⟩ := Z
  refine ⟨kp _ _ hS.2.1.symm a1, a2.at fun o e => kp _ o hS.2.2.2.1.symm e, a3.at fun o e => kp _ o hS.2.2.2.2.1.symm e, ?_, ?_, ?_⟩
  · obtain ⟨o, ho, x⟩ := a4; exact ⟨o, kp _ _ hS.2.2.2.2.2.1.symm ho, x⟩
  · obtain ⟨o, ho, x⟩ := a5; exact ⟨o, kp _ _ hS.2.2.2.2.2.2.symm ho, x⟩
  · rcases a6 with ⟨b1, b2, b3⟩ | ⟨T, f, oT, b1, b2, b3, b4, b5, b6⟩
    · exact .inl ⟨b1, kp _ _ hS.1.symm b2, kp _ _ hS.2.2.1.symm b3⟩
    · exact .inr ⟨T, f, oT, kp _ _ hS.1.symm b1, kp _ _ b6 b2, b3, b4, b5, b6⟩
end
end Rz

/-! Rz2: the list of a strict zip. -/
namespace Rz
open PySem PySem.Spec PyProof.Rows
variable [Rs.Tabz]
open PySem.Sem (wp)
section
variable {prog : Program} {w : World} {A : Around} {E : Value → Shared → Prop} {s : Shared} {R : Result → Shared → Prop} {z TI TO i1 i2 l1 l2 S B : Addr} {xs ys : Array Value}
end
end Rz

/-! Rz3: the word list(zip(a, b, strict=True)). -/
namespace Rz
open PySem PySem.Spec PyProof.Rows L2
variable [Rs.Tabz]
section
variable {M : Model} {A : Around} {E : Value → Shared → Prop} {s : Shared} {env : Env}
end
section
variable {X : Cx}
variable {e : Expr} {es : List Expr} {kws : List Keyword} {t tk : TA} {p p2 pos pos2 : Pos}
end
end Rz
namespace Rs
open PySem PySem.Spec PyProof.Rows L2 SlX StX
variable [Rs.Tabz]
section
variable {X : Cx} {e : Expr} {es : List Expr} {kws : List Keyword} {t tk : TA} {p p2 pos pos2 : Pos}
end
section
variable {K : PySem.W.Frag} {σ : L2.St} {F : Hp} {L : Cells} {t tk : TA}
end
end Rs

/-! Tw6: conversions, comprehensions of two fors, zip, repeated tuples. -/
namespace Tw
open PySem PySem.Spec PyProof.Rows L2 SlX StX Rs Ma
variable [Rs.Tabz]
def fCk (n : Nat) : Unit → VP := fun _ => Ck n
instance {n : Nat} {u : Unit} : Mono (fCk n u) := inferInstanceAs (Mono (Ck n))
section
variable {ε α β γ δ S : Type} {Z : Wsh ε} {ρ : List (Option VP)} {κ : List Ow} {K : PySem.W.Frag} {w : World} {te ta tb tc : TE} {tt tt1 : TT} {t : TA} {u u1 w1 : TS} {wi wi1 : TI} {g g1 : TG} {ma : Wm ε α} {mb : Wm ε β} {m : Wm ε α} {ml : Wm ε (List α)} {Ra R : α → VP} {Rb : β → VP} {Rc : γ → VP} {Rd : δ → VP} {C : Addr} {E : XK} {i j : Nat}
  {ρ2 : S → List (Option VP)} {κ2 : S → List Ow}
theorem tr_un {f : Int → Int} {mI : Wm ε Int} (h : TrE Z ρ κ te mI (fD K dInt)) : TrE Z ρ κ (tUn (rU fun i => .int (f i)) te) (fun Q X => mI (fun i => Q (f i)) X) (fD K dInt) :=
  tr_lift (kk := tUn (rU fun i => .int (f i))) (mf := fun i => pur (f i)) (fun _ _ _ _ => rfl) h fun i v F L hx Q X q => ⟨_, q, r_U (r_c (R := Dt K (.int i)) hx)⟩
/-- (d,) * n -/
theorem o_rep1 {d : α → PyData} : Op2 ε (rRepTA K) (fD K (dT d)) (fD K dN) (fun xs n Q X => ∃ a, xs = [a] ∧ (1 ≤ n ∧ n ≤ 1000) ∧ Q (List.replicate n a)) (fD K (dT d)) :=
  op_of fun xs n x y F L hx hy Q X ⟨a, h, h0, q⟩ => ⟨_, q, by
    subst h
    refine r_is (r_rep1 (d := d a) (k := n) (r_c (R := Dt K (.tuple [d a])) hx) (r_c (R := Dt K (.int (n : Nat))) hy) h0.1 h0.2) ?_
    show PyData.tuple _ = PyData.tuple _
    rw [List.map_replicate]⟩
/-- tuple + tuple -/
theorem o_catA [∀ a, Mono (R a)] : Op2 ε (rCatA K) (fTp K R) (fTp K R) (fun a b Q X => a.length + b.length ≤ 10000 ∧ Q (a ++ b)) (fTp K R) := ⟨fun xs ys x y F L hx hy Q X ⟨q0, q1⟩ => fun F1 N H e A Qk qk => by
  obtain ⟨a, va, rfl, sa, ra⟩ := hx
  obtain ⟨b, vb, rfl, sb, rb⟩ := hy
  have la := each_length ra
  have lb := each_length rb
  rw [List.length_map] at la lb
  have ra' : Each (xs.map R) va F1 := MonoL.mono _ _ _ e ra
  have rb' : Each (ys.map R) vb F1 := MonoL.mono _ _ _ e rb
  have both : Each ((xs ++ ys).map R) (va ++ vb) F1 := by rw [List.map_append]; exact each_app ra' rb'
  refine ⟨a, b, va, vb, rfl, rfl, sqT_up (e.trans A.ex) sa, sqT_up (e.trans A.ex) sb, len_ok (by omega), fun h => ?_, fun _ h => ?_, fun _ _ p hp => ?_⟩
  · subst h
    exact qk _ F1 H (Same.refl _) A ⟨xs ++ ys, q1, b, _, rfl, sqT_up e sb, both⟩
  · subst h
    rw [List.append_nil] at both
    exact qk _ F1 H (Same.refl _) A ⟨xs ++ ys, q1, a, _, rfl, sqT_up e sa, both⟩
  · have s1 := same_new (o := HO.tup (va ++ vb)) (A.free hp)
    exact qk _ (upd F1 p _) _ s1 (A.new hp) ⟨xs ++ ys, q1, p, _, rfl, .inl (.inl upd_same), MonoL.mono _ _ _ s1 both⟩⟩
theorem o_catDT {d : α → PyData} : Op2 ε (rCatA K) (fD K (dT d)) (fD K (dT d)) (fun a b Q X => a.length + b.length ≤ 10000 ∧ Q (a ++ b)) (fD K (dT d)) := ⟨fun xs ys x y F L hx hy Q X q =>
  ((o_catA (ε := ε) (R := fD K d)).run xs ys x y F L (fTp_dT.mpr hx) (fTp_dT.mpr hy) Q X q).weak fun v F1 e ⟨c, q1, r⟩ => ⟨c, q1, fTp_dT.mp r⟩⟩
/-- two data of any kinds -/
theorem o_eqA {d : α → PyData} {e : β → PyData} : Op2 ε (rEqD K) (fD K d) (fD K e) (fun a b Q X => (SeqAt.shaped (d a) = true ∧ SeqAt.shaped (e b) = true) ∧ Q (PyData.eqv (d a) (e b))) (fD K dB) :=
  op_of fun a b x y F L hx hy Q X q => ⟨_, q.2, r_eqD (r_c (R := Dt K (d a)) hx) (r_c (R := Dt K (e b)) hy) q.1.1 q.1.2⟩
/-! ### two fors -/
end
section
variable {P : Program} {w : World} {K : PySem.W.Frag} {mg : Str → Option Value} {base : Heap} {γ δ : Type} {k : Nat} {C : Addr} {x nm : Str} {pre : γ → Prop} {Rs : γ → List VP} {f : γ → δ} {R : δ → VP}
theorem _root_.L2.MetS.toN (h : MetS P w K mg base k C x (SpF pre Rs (fun g => R (f g)))) : MetS P w K mg base k C x (SpN Rs (fun g Q => pre g ∧ Q (f g)) R) :=
  let ⟨g, h1, h2, h3⟩ := h
  ⟨g, h1, h2, h3.imp fun _ _ _ _ => SpF.toN⟩
theorem prp_toN (h : PrpS P w K mg base k C x (SpF pre Rs (fun g => R (f g)))) : PrpS P w K mg base k C x (SpN Rs (fun g Q => pre g ∧ Q (f g)) R) :=
  let ⟨p, g, h1, h2, h3, h4, h5, h6⟩ := h
  ⟨p, g, h1, h2, h3, h4, h5, h6.imp fun _ _ _ _ => SpF.toN⟩
theorem eq_toN (h : EqS P w K mg base k C (SpF pre Rs (fun g => R (f g)))) : EqS P w K mg base k C (SpN Rs (fun g Q => pre g ∧ Q (f g)) R) :=
  let ⟨g, h1, h2, h3, h4, h5⟩ := h
  ⟨g, h1, h2, h3, h4, h5.imp fun _ _ _ _ => SpF.toN⟩
end
end Tw

/-! Tw7: sorted of a list of tuples. -/
namespace Tw
open PySem PySem.Spec PyProof.Rows L2 SlX StX Rs Ma
variable [Rs.Tabz]
/-- sorted of a list of alike data: ps the values with their data -/
def rSortedDt (K : PySem.W.Frag) : List V → Hp → VK → Prop := fun vs H Q => ∃ (a : Addr) (ps : List (V × PyData)), vs = [.ref a] ∧ (SqL K H a (ps.map (·.1)) ∨ SqT K H a (ps.map (·.1))) ∧ (∀ p ∈ ps, Dp K H p.1 p.2) ∧ PySem.W.AllAlike (ps.map (·.2)) ∧ PySem.W.Sortable (ps.map (·.2)) ∧ (∀ p ∈ ps, p.2.depth ≤ 8) ∧
  ∀ q, H q = none → Q (.ref q) (upd H q (.lst ((ps.mergeSort (PySem.W.dataLe false (·.2))).map (·.1))))
mutual
theorem reads_in {h : Heap} : ∀ (d : PyData) (v : Value) (as : List Addr), Reads h v d as → ∀ a ∈ as, ∃ o, h.get? a = some o
  | .none, _, _, r, a, m => by cases r; cases m
  | .bool _, _, _, r, a, m => by cases r; cases m
  | .int _, _, _, r, a, m => by cases r; cases m
  | .str _, _, _, r, a, m => by cases r; cases m
  | .list xs, _, _, r, a, m => by
    cases r with
    | list h1 h2 h3 h4 =>
      rcases List.mem_cons.mp m with z | z
      · subst z; exact ⟨_, h1⟩
      · exact readsAll_in xs _ _ h4 a z
  | .tuple xs, _, _, r, a, m => by
    cases r with
    | tuple h1 h2 h3 h4 => exact readsAll_in xs _ _ h4 a m
  | .dict kvs, _, _, r, a, m => by
    cases r with
    | dict h1 h2 h3 h4 h5 =>
      rw [List.cons_append] at m
      rcases List.mem_cons.mp m with z | z
      · subst z; exact ⟨_, h1⟩
      · rcases List.mem_append.mp z with z | z
        · exact readsKeys_in kvs _ _ h4 a z
        · exact readsVals_in kvs _ _ h5 a z
theorem readsAll_in {h : Heap} : ∀ (ds : List PyData) (vs : List Value) (as : List Addr), ReadsAll h vs ds as → ∀ a ∈ as, ∃ o, h.get? a = some o
  | [], _, _, r, a, m => by cases r; cases m
  | d :: ds, _, _, r, a, m => by
    cases r with
    | cons h1 h2 =>
      rcases List.mem_append.mp m with z | z
      · exact reads_in d _ _ h1 a z
      · exact readsAll_in ds _ _ h2 a z
theorem readsKeys_in {h : Heap} : ∀ (kvs : List (PyData × PyData)) (vs : List Value) (as : List Addr), ReadsAll h vs (kvs.map (·.1)) as → ∀ a ∈ as, ∃ o, h.get? a = some o
  | [], _, _, r, a, m => by cases r; cases m
  | (k, v) :: kvs, _, _, r, a, m => by
    cases r with
    | cons h1 h2 =>
      rcases List.mem_append.mp m with z | z
      · exact reads_in k _ _ h1 a z
      · exact readsKeys_in kvs _ _ h2 a z
theorem readsVals_in {h : Heap} : ∀ (kvs : List (PyData × PyData)) (vs : List Value) (as : List Addr), ReadsAll h vs (kvs.map (·.2)) as → ∀ a ∈ as, ∃ o, h.get? a = some o
  | [], _, _, r, a, m => by cases r; cases m
  | (k, v) :: kvs, _, _, r, a, m => by
    cases r with
    | cons h1 h2 =>
      rcases List.mem_append.mp m with z | z
      · exact reads_in v _ _ h1 a z
      · exact readsVals_in kvs _ _ h2 a z
end
section
variable {X : Cx}
theorem cr_sortedDt (hu : X.A.units + 64 < cLine) : CallR X (.builtin "sorted") (rSortedDt X.K) := by
  intro pins s σ H vs us Q I r h
  obtain ⟨a, ps, rfl, hs, hd, hal, hk2, hdep, q⟩ := h
  obtain ⟨its, rv, ⟨T, o, n, hT, ho, hc, hdt⟩, hz⟩ : ∃ its : List Value, Vals (ps.map (·.1)) its ∧ (∃ (T : String) (o : Obj) (n : Nat), (T = "list" ∨ T = "tuple") ∧ s.heap.get? a = some o ∧ o.cls = .type T ∧ o.data = .seq its.toArray n) ∧ (ps.map (·.1)).length ≤ sizeLine := by
    rcases hs with hs | hs
    · obtain ⟨its, rv, hl, hz⟩ := I.list hs
      obtain ⟨o, ho, hc, n, hd⟩ := hl.isList
      exact ⟨its, rv, ⟨_, o, n, .inl rfl, ho, hc, hd⟩, hz⟩
    · obtain ⟨its, rv, hl, hz⟩ := I.tuple hs
      obtain ⟨o, ho, hc, n, hd⟩ := hl
      exact ⟨its, rv, ⟨_, o, n, .inr rfl, ho, hc, hd⟩, hz⟩
  rw [Vals.ref1 r]
  have hli : its.length = ps.length := by have := rv.length; rw [List.length_map] at this; exact this.symm
  have hz2 : ps.length ≤ sizeLine := by rw [List.length_map] at hz; exact hz
  refine Calls.call_function_entry PyProof.Rows.kind_sorted PyProof.Rows.plain_sorted PyProof.Rows.entry_sorted (PyProof.Rows.args_sorted1 _) ?_
  unfold Builtin.«sorted»
  refine wpAny_bind (m := checkCount "sorted" 1 1 _) (wpAny_pure ?_)
  refine wpAny_bind (wpAny_collect_seq a hT ho hc hdt (fun h' hk => ?_) (by rw [List.size_toArray, hli]; exact hz2))
  have I1 : Inv X pins σ H { s with heap := h' } := I.kept (t' := s.toks) hk
  have e1 : PySem.W.EachIs (fun (v : Value) (p : V × PyData) => RelV p.1 v) its ps := by
    have : ∀ (ps : List (V × PyData)) (its : List Value), Vals (ps.map (·.1)) its → PySem.W.EachIs (fun (v : Value) (p : V × PyData) => RelV p.1 v) its ps := by
      intro ps
      induction ps with
      | nil => intro its h; cases h; exact .nil
      | cons p ps ih => intro its h; cases h with | cons h1 h2 => exact .cons h1 (ih _ h2)
    exact this ps its rv
  show wpAny _ _ _ _ _ { s with heap := h' }
  rw [List.toList_toArray]
  refine wpAny_bind (wpAny_newList ?_ (by rw [hli]; exact hz2))
  have hoL : (h'.push (seqObj "list" its.toArray 0)).get? h'.objs.size = some (seqObj "list" its.toArray 0) := Heap.get?_push_size _ rfl
  have kb : ∀ b o, h'.get? b = some o → (h'.push (seqObj "list" its.toArray 0)).get? b = some o := fun b o e => Heap.get?_push_of_some _ e
  show wpAny _ _ _ _ _ { s with heap := h'.push (seqObj "list" its.toArray 0) }
  have e2 : PySem.W.EachIs (fun v (p : V × PyData) => ∃ as, Reads (h'.push (seqObj "list" its.toArray 0)) v p.2 as ∧ h'.objs.size ∉ as) its ps := by
    have : ∀ (ps : List (V × PyData)) (its : List Value), (∀ p ∈ ps, Dp X.K H p.1 p.2) → Vals (ps.map (·.1)) its → PySem.W.EachIs (fun v (p : V × PyData) => ∃ as, Reads s.heap v p.2 as) its ps := by
      intro ps
      induction ps with
      | nil => intro its _ h; cases h; exact .nil
      | cons p ps ih => intro its hp h; cases h with | cons h1 h2 => exact .cons (Dp.reads I _ _ _ (hp p List.mem_cons_self) h1) (ih _ (fun y hy => hp y (List.mem_cons_of_mem _ hy)) h2)
    refine (this ps its hd rv).mono fun v p ⟨as, hr⟩ => ⟨as, PyProof.Rows.Reads.keeps (fun b o e => kb _ _ (hk b o e)) hr, fun hm => ?_⟩
    obtain ⟨o', ho'⟩ := reads_in p.2 v as hr _ hm
    exact Nat.lt_irrefl _ (Heap.lt_size (hk _ _ ho'))
  refine wpAny_bind (wpAny_holding (PySem.W.list_sort_data (s := { s with heap := h'.push (seqObj "list" its.toArray 0) }) (bs := ps) (enc := fun p : V × PyData => p.2) (R := fun v p => RelV p.1 v) hoL e1 e2 hal hk2 hz2 (fun p hp => ?_) fun out hlo eo => ?_))
  · have := hdep p hp
    show X.A.in1.units + 1 + p.2.depth < cLine
    have h1 : X.A.in1.units ≤ X.A.units + 1 := Nat.le_refl _
    omega
  · have hv : Vals ((ps.mergeSort (PySem.W.dataLe false (·.2))).map (·.1)) out := by
      have : ∀ (qs : List (V × PyData)) (out : List Value), PySem.W.EachIs (fun (v : Value) (p : V × PyData) => RelV p.1 v) out qs → Vals (qs.map (·.1)) out := by
        intro qs
        induction qs with
        | nil => intro out h; cases h; exact .nil
        | cons p ps ih => intro out h; cases h with | cons h1 h2 => exact .cons h1 (ih _ h2)
      exact this _ _ eo
    have hlen : ((ps.mergeSort (PySem.W.dataLe false (·.2))).map (·.1)).length ≤ sizeLine := by rw [List.length_map, (List.mergeSort_perm _ _).length_eq]; exact hz2
    obtain ⟨e', he'⟩ := PyProof.Rows.sortedHeap_at (vs := its) (out := out.toArray) hoL
    refine wpAny_pure ⟨_, rfl, .ref h'.objs.size, upd H h'.objs.size (.lst _), I1.laid (t' := s.toks) (fun b u e => ?_) (Nat.le_refl _) ⟨hlen, out, e', hv, he'⟩, rfl, q _ (I1.hok.fresh (Nat.le_refl _))⟩
    have hb : b < h'.objs.size := Heap.lt_size e
    rw [PyProof.Rows.sortedHeap_old (Nat.ne_of_lt hb) (by rw [size_push']; exact Nat.lt_succ_of_lt hb)]
    exact Heap.get?_push_of_some _ e
theorem p_sortedDt {e : Expr} {es : List Expr} {t : TA} {p pos : Pos} {j : Nat} (hr : Room j X.A) (B : Bf X.mg) (ha : PA X (e :: es) t) (hg : Gl X "sorted" := by rfl) (he : starEach (e :: es) X.env = (false, eval e X.env) :: starEach es X.env := by rfl) (hpl : (backTo pos (starEach es X.env)).any (·.1) = false := by rfl) :
    PE X (.Call (.Name "sorted" p) (e :: es) [] pos) (tCB (rSortedDt X.K) t) := pe_callB (cr_sortedDt hr.units) hg B.sorted boot_sorted ha (by decide) (by decide) he hpl
end
/-- rows, in their order -/
def sortR (xs : List (List Nat)) : List (List Nat) := xs.mergeSort fun a b => decide (a ≤ b)
theorem sortR_perm {xs : List (List Nat)} : (sortR xs).Perm xs := List.mergeSort_perm _ _
theorem sortR_sorted {xs : List (List Nat)} : (sortR xs).Pairwise (· ≤ ·) := by
  have := List.pairwise_mergeSort (le := fun a b : List Nat => decide (a ≤ b)) (fun a b c h1 h2 => by
    simp only [decide_eq_true_eq] at *; exact List.le_trans h1 h2) (fun a b => by
    simp only [Bool.or_eq_true, decide_eq_true_eq]; exact List.le_total _ _) xs
  exact this.imp fun h => of_decide_eq_true h
theorem sortR_eq {xs ys : List (List Nat)} (h1 : ys.Pairwise (· ≤ ·)) (h2 : ys.Perm xs) : sortR xs = ys :=
  List.Perm.eq_of_pairwise (le := (· ≤ ·)) (fun a b _ _ x y => List.le_antisymm x y) sortR_sorted h1 (sortR_perm.trans h2.symm)
theorem cI_le {a b : List Nat} : cI a ≤ cI b ↔ a ≤ b := by
  have key : ∀ a b : List Nat, cI b < cI a ↔ b < a := by
    intro a
    induction a with
    | nil => intro b; simp
    | cons x a ih =>
      intro b
      cases b with
      | nil => simp
      | cons y b =>
        show ((y : Int) :: cI b) < ((x : Int) :: cI a) ↔ _
        rw [List.cons_lt_cons_iff, List.cons_lt_cons_iff, ih]
        constructor
        · rintro (h | ⟨h1, h2⟩)
          · exact .inl (by omega)
          · exact .inr ⟨by omega, h2⟩
        · rintro (h | ⟨h1, h2⟩)
          · exact .inl (by omega)
          · exact .inr ⟨by omega, h2⟩
  rw [← List.not_lt, ← List.not_lt, key]
theorem partsI_eq {re : Rows} : partsI re = (sortR (keysOf re re.length)).map cI := by
  refine List.Perm.eq_of_pairwise (le := (· ≤ ·)) (fun a b _ _ x y => List.le_antisymm x y) parts_sorted ?_ ?_
  · rw [List.pairwise_map]
    exact sortR_sorted.imp fun h => cI_le.mpr h
  · exact parts_perm.trans (sortR_perm.map _).symm
/-- the parts of a web -/
noncomputable def partsN (rs : Rows) : Rows := sortR (keysOf (reachs rs) rs.length)
theorem partsN_data {rs : Rows} : PyData.tuple ((partsI (reachs rs)).map dI) = dT (dT dN) (partsN rs) := by
  rw [partsI_eq, partsN, reachs_len, List.map_map]
  show PyData.tuple _ = PyData.tuple _
  refine congrArg PyData.tuple (List.map_congr_left fun r _ => ?_)
  show dI (cI r) = .tuple (r.map dN)
  rw [dI]
  exact congrArg PyData.tuple (row_int (r := r)).symm
theorem dataLe_tup {β : Type} (x : β → List Nat) (f : β → PyData) (hf : ∀ b, f b = dT dN (x b)) : PySem.W.dataLe false f = fun p q => decide (x p ≤ x q) := by
  have e : f = fun b => dI (cI (x b)) := by
    funext b
    rw [hf]
    show PyData.tuple _ = PyData.tuple _
    exact congrArg PyData.tuple (row_int (r := x b))
  rw [e, dataLe_tups]
  funext p q
  exact decide_eq_decide.mpr cI_le
section
variable {ε α : Type} {K : PySem.W.Frag}
theorem with_rows {F : Hp} : ∀ {xs : List (List Nat)} {us : List V}, DpAll K F us (xs.map (dT dN)) → ∃ ps : List (V × List Nat), ps.map (·.1) = us ∧ ps.map (·.2) = xs ∧ ∀ p ∈ ps, Dp K F p.1 (dT dN p.2)
  | [], _, .nil => ⟨[], rfl, rfl, fun p hp => nomatch hp⟩
  | x :: xs, _, .cons h1 h2 => by
    obtain ⟨ps, e1, e2, e3⟩ := with_rows (xs := xs) h2
    exact ⟨(_, x) :: ps, by rw [List.map_cons, e1], by rw [List.map_cons, e2], fun p hp => (List.mem_cons.mp hp).elim (fun z => by subst z; exact h1) (e3 p)⟩
/-- sorted of a list of rows, none of them empty -/
theorem c_sortedR : Cb ε (rSortedDt K) (fun xs => [fD K (dL (dT dN)) xs]) (fun xs Q X => (∀ x ∈ xs, x ≠ []) ∧ Q (sortR xs)) (fD K (dL (dT dN))) := ⟨fun xs vs F L hv Q X ⟨q0, q1⟩ => fun F2 N H e A Qk qk => by
  obtain ⟨v, rfl, hx⟩ := each1 hv
  have h' : Dt K (.list (xs.map (dT dN))) v F := hx
  obtain ⟨a, us, rfl, hs, hr⟩ := ls_dt.mpr h'
  have ha := each_dt.mp hr
  have hz := with_rows ha
  obtain ⟨ps, e1, e2, e3⟩ := hz
  subst e1 e2
  refine ⟨a, ps.map fun p => (p.1, dT dN p.2), rfl, ?_, ?_, ?_, ?_, ?_, fun q hq => ?_⟩
  · rw [List.map_map]; exact .inl (sqL_up (e.trans A.ex) hs)
  · intro p hp
    obtain ⟨p0, hp0, rfl⟩ := List.mem_map.mp hp
    exact dp_up (e.trans A.ex) (e3 p0 hp0)
  · rw [List.map_map]
    refine PySem.W.AllAlike.of fun p q => ?_
    show PySem.W.alike (.tuple _) (.tuple _) = true
    rw [PySem.W.alike]
    have r1 : p.2.map dN = (cI p.2).map PyData.int := row_int
    have r2 : q.2.map dN = (cI q.2).map PyData.int := row_int
    rw [r1, r2]
    exact PySem.W.alike_ints _ _
  · refine .inl fun d hd => ?_
    rw [List.map_map] at hd
    obtain ⟨p0, hp0, rfl⟩ := List.mem_map.mp hd
    have hne := q0 p0.2 (List.mem_map.mpr ⟨p0, hp0, rfl⟩)
    show ∃ x r, PyData.tuple (p0.2.map dN) = .tuple (x :: r)
    cases h : p0.2 with
    | nil => exact absurd h hne
    | cons y ys => exact ⟨dN y, ys.map dN, rfl⟩
  · intro p hp
    obtain ⟨p0, hp0, rfl⟩ := List.mem_map.mp hp
    show (dT dN p0.2).depth ≤ 8
    have := Nice.dep (d := dT dN) p0.2
    omega
  · have hms : (ps.map fun p => (p.1, dT dN p.2)).mergeSort (PySem.W.dataLe false (·.2)) = (ps.mergeSort fun p q => decide (p.2 ≤ q.2)).map fun p => (p.1, dT dN p.2) := by
      rw [List.map_mergeSort]
      intro p hp q hq
      have := congrFun (congrFun (dataLe_tup (β := V × List Nat) (fun p => p.2) (fun p => dT dN p.2) fun _ => rfl) p) q
      exact this.symm
    rw [hms, List.map_map]
    have s1 := same_new (o := HO.lst ((ps.mergeSort fun p q => decide (p.2 ≤ q.2)).map fun p => p.1)) (A.free hq)
    refine qk _ (upd F2 q _) _ s1 (A.new hq) ⟨_, q1, ?_⟩
    have hsort : sortR (ps.map (·.2)) = (ps.mergeSort fun p q => decide (p.2 ≤ q.2)).map (·.2) := by
      refine sortR_eq ?_ ((List.mergeSort_perm _ _).map _)
      rw [List.pairwise_map]
      have := List.pairwise_mergeSort (le := fun p q : V × List Nat => decide (p.2 ≤ q.2)) (fun a b c h1 h2 => by
        simp only [decide_eq_true_eq] at *; exact List.le_trans h1 h2) (fun a b => by
        simp only [Bool.or_eq_true, decide_eq_true_eq]; exact List.le_total _ _) ps
      exact this.imp fun h => of_decide_eq_true h
    rw [hsort]
    refine ls_dt.mp ⟨q, _, rfl, .inl (.inl upd_same), ?_⟩
    rw [List.map_map, List.map_map]
    have all : ∀ l : List (V × List Nat), (∀ p ∈ l, p ∈ ps) → Each (l.map fun p => Dt K (dT dN p.2)) (l.map fun p => p.1) (upd F2 q (.lst ((ps.mergeSort fun p q => decide (p.2 ≤ q.2)).map fun p => p.1))) := by
      intro l
      induction l with
      | nil => intro _; exact True.intro
      | cons p l ih => intro hm; exact ⟨dp_up (e.trans s1) (e3 p (hm p List.mem_cons_self)), ih fun y hy => hm y (List.mem_cons_of_mem _ hy)⟩
    exact all _ fun p hp => (List.mergeSort_perm _ _).mem_iff.mp hp⟩
/-- sorted of a tuple, a list of numbers -/
theorem dataLe_nat {β : Type} (x : β → Nat) (f : β → PyData) (hf : ∀ b, f b = dN (x b)) : PySem.W.dataLe false f = fun p q => decide (x p ≤ x q) := by
  funext p q
  show (!PySem.W.dataLt (f q) (f p)) = _
  rw [hf, hf]
  show (!PySem.W.dataLt (.int (x q : Nat)) (.int (x p : Nat))) = _
  rw [PySem.W.dataLt_int]
  by_cases h : x q < x p
  · have h' : ¬ x p ≤ x q := by omega
    have h2 : ((x q : Nat) : Int) < (x p : Nat) := by omega
    simp [h2, h']
  · have h' : x p ≤ x q := by omega
    have h2 : ¬ ((x q : Nat) : Int) < (x p : Nat) := by omega
    simp [h2, h']
theorem c_sortedT : Cb ε (rSortedDt K) (fun xs => [fD K (dT dN) xs]) (fun xs Q X => xs.length ≤ 1000 ∧ Q (sortN xs)) (fD K (dL dN)) := ⟨fun xs vs F L hv Q X ⟨q0, q1⟩ => fun F2 N H e A Qk qk => by
  obtain ⟨v, rfl, hx⟩ := each1 hv
  have h' : Dt K (.tuple (xs.map dN)) v F := hx
  obtain ⟨a, us, rfl, hs, hr⟩ := tp_dt.mpr h'
  have hi : us = (cI xs).map V.int := by
    have e : xs.map dN = (cI xs).map PyData.int := row_int (r := xs)
    have ha := each_dt.mp hr
    rw [e] at ha
    exact vs_ints ha
  subst hi
  refine ⟨a, xs.map fun n => (V.int (n : Nat), dN n), rfl, ?_, ?_, ?_, ?_, ?_, fun q hq => ?_⟩
  · rw [List.map_map]
    have hs' := sqT_up (e.trans A.ex) hs
    rw [List.map_map] at hs'
    exact .inr hs'
  · intro p hp
    obtain ⟨n, hn, rfl⟩ := List.mem_map.mp hp
    exact .int _
  · rw [List.map_map]
    exact PySem.W.AllAlike.of fun p q => rfl
  · refine .inr fun d hd => ?_
    rw [List.map_map] at hd
    obtain ⟨n, hn, rfl⟩ := List.mem_map.mp hd
    exact And.intro (fun z => by cases z) (fun xs z => by cases z)
  · intro p hp
    obtain ⟨n, hn, rfl⟩ := List.mem_map.mp hp
    show (dN n).depth ≤ 8
    exact Nat.zero_le _
  · have hms : (xs.map fun n : Nat => (V.int (n : Nat), dN n)).mergeSort (PySem.W.dataLe false (·.2)) = (sortN xs).map fun n : Nat => (V.int (n : Nat), dN n) := by
      rw [sortN, List.map_mergeSort]
      intro p hp q hq
      have := congrFun (congrFun (dataLe_nat (β := Nat) (fun p => p) (fun p => dN p) fun _ => rfl) p) q
      exact this.symm
    rw [hms, List.map_map]
    have s1 := same_new (o := HO.lst ((sortN xs).map fun n : Nat => V.int (n : Nat))) (A.free hq)
    refine qk _ (upd F2 q _) _ s1 (A.new hq) ⟨_, q1, ?_⟩
    refine ls_dt.mp ⟨q, _, rfl, .inl (.inl upd_same), ?_⟩
    rw [List.map_map]
    exact each_ints⟩
end
end Tw

/-! Tw8: two lists of one's own at once; list(range(n)) as one's own; the cask. -/
namespace Tw
open PySem PySem.Spec PyProof.Rows L2 SlX StX Rs Ma
variable [Rs.Tabz]
section
variable {ε α β γ δ S : Type} {Z : Wsh ε} {ρ : List (Option VP)} {κ : List Ow} {K : PySem.W.Frag} {w : World} {te ta tb tc : TE} {t : TA} {u u1 w1 : TS} {ma : Wm ε (List α)} {mb : Wm ε (List β)} {m : Wm ε α} {mn : Wm ε Nat} {Ra R : α → VP} {Rb : β → VP} {Rd : δ → VP} {i j : Nat}
  {ρ2 : S → List (Option VP)} {κ2 : S → List Ow}
theorem tr_perm2 {c d : Ow} (h : TrE Z ρ (d :: c :: κ) te m R) : TrE Z ρ (c :: d :: κ) te m R :=
  ⟨h.mono, fun σ F L sv sc Q X q F1 N H e A wsh Qk qk => by
    obtain ⟨L2, P, sc2⟩ := satC_swap sc
    exact h.run σ F L2 sv sc2 Q X q F1 N H e (A.perm (P.append_right N)) wsh Qk fun v F2 H2 e2 A2 r => qk v F2 H2 e2 (A2.perm (P.symm.append_right N)) r⟩
theorem ts_parNN {i j : Nat} {mk : List α → List β → Ws ε S δ} (ha : TrN Z ρ κ ta ma R) (hb : TrN Z ρ κ tb mb Rb) (f : freeCs [i, j] κ = true) (hij : Nat.beq i j = false) (hi : Nat.blt i ρ.length = true) (hj : Nat.blt j ρ.length = true)
    (k : ∀ xs ys, TrS Z (st (st ρ i none) j none) (.one j (ownL (ys.map Rb)) :: .one i (ownL (xs.map R)) :: κ) u (mk xs ys) ρ2 κ2 Rd) :
    TrS Z ρ κ (tSeq (tPar i j (tCons ta (tCons tb tNil))) u) (fun Nx Rt X => ma (fun xs => mb (fun ys => mk xs ys Nx Rt X) X) X) ρ2 κ2 Rd :=
  have := ha.mono
  have := hb.mono
  ⟨fun σ F L sv sc Nx Rt X q F1 N H e A wsh D nx rt => by
    show ta σ H (fun v H1 => tb σ H1 fun v' H2 => ∃ v1 w1, [v, v'] = [v1, w1] ∧ u D ((σ.set i (some v1)).set j (some w1)) H2)
    refine ha.run σ F L sv sc _ X q F1 N H e A wsh _ fun p vs F2 H2 xs e2 A2 r q1 => ?_
    have e12 := e.trans e2
    have P0 : ((p, HO.lst vs) :: (L ++ N)).Perm (L ++ ((p, .lst vs) :: N)) := List.perm_middle.symm
    refine hb.run σ F2 L (satV_up e12 sv) (satC_up e12 sc) _ X q1 F2 ((p, .lst vs) :: N) H2 (Same.refl _) (A2.perm P0) (wsh.up e2).push1 _ fun p' vs' F3 H3 ys e3 A3 r' q2 => ⟨.ref p, .ref p', rfl, ?_⟩
    have e13 := e12.trans e3
    have hl := sat_len sv
    have c3 : SatC κ ((σ.set i (some (.ref p))).set j (some (.ref p'))) F3 L := satC_agree (js := [i, j]) (fun l hl => by
      rw [List.mem_cons, List.mem_singleton, not_or] at hl
      rw [List.getElem?_set_ne (fun z => hl.2 z.symm), List.getElem?_set_ne (fun z => hl.1 z.symm)]) f (satC_up e13 sc)
    have P1 : ((p', HO.lst vs') :: (L ++ (p, .lst vs) :: N)).Perm ((p', HO.lst vs') :: (p, .lst vs) :: (L ++ N)) := List.Perm.cons _ List.perm_middle
    have hij' : i ≠ j := fun z => by rw [z, Nat.beq_refl] at hij; cases hij
    refine (k xs ys).run _ F3 ((p', .lst vs') :: (p, .lst vs) :: L) (satV_none (satV_none (satV_up e13 sv))) ⟨p', .lst vs', _, rfl, ?_, fun F' e' => ⟨vs', rfl, MonoL.mono _ _ _ e' r'⟩, p, .lst vs, L, rfl, ?_, fun F' e' => ⟨vs, rfl, MonoL.mono _ _ _ (e3.trans e') r⟩, c3⟩ Nx Rt X q2 F3 N H3 (Same.refl _) (A3.perm P1) (wsh.up (e2.trans e3)) D
      (fun σ4 F4 L4 H4 e4 A4 n => nx σ4 F4 L4 H4 ((e2.trans e3).trans e4) A4 n) fun v F4 H4 e4 A4 n => rt v F4 H4 ((e2.trans e3).trans e4) A4 n
    · rw [List.getElem?_set_self (by rw [List.length_set, ← hl]; exact Nat.le_of_ble_eq_true hj)]
    · rw [List.getElem?_set_ne (fun z => hij' z.symm), List.getElem?_set_self (by rw [← hl]; exact Nat.le_of_ble_eq_true hi)]⟩
/-- x.append(y.pop(n)) -/
theorem ts_appPop {xs ys : List α} {mk : Nat → α → Ws ε S δ} [∀ a, Mono (R a)] (h : TrE Z ρ (.one i (ownL (xs.map R)) :: .one j (ownL (ys.map R)) :: κ) te mn (fD K dN)) (k : ∀ n a, TrS Z ρ (.one i (ownL ((xs ++ [a]).map R)) :: .one j (ownL ((ys.eraseIdx n).map R)) :: κ) u (mk n a) ρ2 κ2 Rd) :
    TrS Z ρ (.one i (ownL (xs.map R)) :: .one j (ownL (ys.map R)) :: κ) (tSeq (tDrop (tBM K "list" rAppend (tVar i) (tCons (tBM K "list" rPopAt (tVar j) (tCons te tNil)) tNil))) u)
      (fun Nx Rt X => mn (fun n => ∃ a, ys[n]? = some a ∧ (xs.length < 100000 ∧ n < 100000) ∧ mk n a Nx Rt X) X) ρ2 κ2 Rd :=
  ⟨fun σ F L sv sc Nx Rt X q F1 N H e A wsh D nx rt => by
    obtain ⟨a, o, L', hL, h1, h2, a', o', L'', hL', h1', h2', h3⟩ := sc
    obtain ⟨vs, ho, hv⟩ := h2 F (Same.refl _)
    obtain ⟨vs', ho', hv'⟩ := h2' F (Same.refl _)
    subst hL ho hL' ho'
    have A0 : At F1 ((a, .lst vs) :: (a', .lst vs') :: (L'' ++ N)) H := A
    refine ⟨.ref a, h1, .inl ⟨rfl, vs, .inl (.inl (A0.on (a, .lst vs) List.mem_cons_self))⟩, .ref a', h1', .inl ⟨rfl, vs', .inl (.inl (A0.on (a', .lst vs') (List.mem_cons_of_mem _ List.mem_cons_self)))⟩, ?_⟩
    refine h.run σ F ((a, .lst vs) :: (a', .lst vs') :: L'') sv ⟨a, .lst vs, _, rfl, h1, h2, a', .lst vs', L'', rfl, h1', h2', h3⟩ _ X q F1 N H e A wsh _ fun v F2 H2 e2 A2 ⟨n, ⟨x, hn, ⟨hz, hz2⟩, q1⟩, hx⟩ => ?_
    cases hx
    have e12 := e.trans e2
    have hl := each_length hv
    have hl' := each_length hv'
    rw [List.length_map] at hl hl'
    have hn1 : n < ys.length := (List.getElem?_eq_some_iff.mp hn).1
    have hn2 : n < vs'.length := by omega
    obtain ⟨R', g1, g2⟩ := each_at hv' (List.getElem?_eq_getElem hn2)
    rw [List.getElem?_map, hn] at g1
    cases g1
    have A2o : At F2 ((a, .lst vs) :: (a', .lst vs') :: (L'' ++ N)) H2 := A2
    refine ⟨a', vs', (n : Int), n, vs'[n], rfl, rfl, A2o.on (a', .lst vs') (List.mem_cons_of_mem _ List.mem_cons_self), by omega, by omega, ?_, List.getElem?_eq_getElem hn2, ?_⟩
    · exact (ixN_seq (by unfold ixN; rw [if_pos (by omega), if_pos (by omega)]; simp)).1
    have A2' : At F2 ((a', .lst vs') :: (a, .lst vs) :: (L'' ++ N)) H2 := A2.perm (List.Perm.swap _ _ _)
    have A3 := At.put (u := .lst (vs'.eraseIdx n)) A2'
    have A3' : At F2 ((a, .lst vs) :: (a', .lst (vs'.eraseIdx n)) :: (L'' ++ N)) _ := A3.perm (List.Perm.swap _ _ _)
    refine ⟨a, vs, vs'[n], rfl, rfl, A3'.on1, len_lt (by omega), ?_⟩
    have A4 := At.put (u := .lst (vs ++ [vs'[n]])) A3'
    have hv2 : Each ((xs ++ [x]).map R) (vs ++ [vs'[n]]) F2 := by rw [List.map_append]; exact each_app (MonoL.mono _ _ _ e12 hv) ⟨Mono.go g2 e12, True.intro⟩
    have hv3 : Each ((ys.eraseIdx n).map R) (vs'.eraseIdx n) F2 := by
      have key : ∀ (ys : List α) (vs : List V) (n : Nat), Each (ys.map R) vs F2 → Each ((ys.eraseIdx n).map R) (vs.eraseIdx n) F2 := by
        intro ys
        induction ys with
        | nil => intro vs n h; cases vs with
          | nil => exact h
          | cons _ _ => exact h.elim
        | cons y ys ih => intro vs n h; cases vs with
          | nil => exact h.elim
          | cons u us => cases n with
            | zero => exact h.2
            | succ n => exact ⟨h.1, ih us n h.2⟩
      exact key ys vs' n (MonoL.mono _ _ _ e12 hv')
    exact (k n x).run σ F2 ((a, .lst (vs ++ [vs'[n]])) :: (a', .lst (vs'.eraseIdx n)) :: L'') (satV_up e12 sv) ⟨a, _, _, rfl, h1, fun F' e' => ⟨_, rfl, MonoL.mono _ _ _ e' hv2⟩, a', _, L'', rfl, h1', fun F' e' => ⟨_, rfl, MonoL.mono _ _ _ e' hv3⟩, satC_up e12 h3⟩ Nx Rt X q1 F2 N _ (Same.refl _) A4 (wsh.up e2) D
      (fun σ3 F3 L3 H3 e3 A3 n => nx σ3 F3 L3 H3 (e2.trans e3) A3 n) fun v F3 H3 e3 A3 n => rt v F3 H3 (e2.trans e3) A3 n⟩
end
section
variable {P : Program} {w : World} {K : PySem.W.Frag} {mg : Str → Option Value} {base : Heap} {γ δ : Type} {k : Nat}
theorem scoop_toN {x : Str} (h : Gf P w K mg base k x (SpF (γ := Nat) (fun t => 1 ≤ t ∧ t ≤ 1000) (fun t => [Ck 3, Dt K (nI t)]) Bd)) :
    Gf P w K mg base k x (SpN (fun g : Unit × Nat => [fCk 3 g.1, fD K dN g.2]) (fun (g : Unit × Nat) (Q : Nat → Prop) => (1 ≤ g.2 ∧ g.2 ≤ 1000) ∧ ∀ n, n < g.2 → Q n) (fD K dN)) :=
  let ⟨a, fd, ps, F, h1, h2, h3⟩ := h
  ⟨a, fd, ps, F.imp fun vs H Q E ⟨g, F0, N, P, A, hv, ⟨hp, q⟩, r⟩ => ⟨g.2, F0, N, hp, A, hv, fun v F' H' e A' ⟨n, hn, hv⟩ => r n v F' H' e A' (q n hn) (by subst hv; exact .int _)⟩, h1, h2, h3⟩
end
end Tw

/-! Tw9: the head's parts that are alike in all laws. -/
namespace Tw
open PySem PySem.Spec PyProof.Rows L2 SlX StX Rs Ma
variable [Rs.Tabz]
def TopFn (K : PySem.W.Frag) (x : Str) (st : Stmt) (ps : List Str) : Prop := ∃ f fd, PySem.W.nsIn K mainGlobals x = some (some (.ref f)) ∧ Fun K x x st f fd ∧ Binds K fd ps []
theorem top_fn {K : PySem.W.Frag} {x : Str} {st : Stmt} {ps : List Str} {f : Addr} {oc : Value} {od an : Option Addr} {osl : Array (Option Value)} {kV doc pm cdv ct : Value} (a : PySem.W.nsIn K mainGlobals x = some (some (.ref f)))
    (l : K.lookup f = some ⟨oc, od, .func (PySem.W.fnOf x x (defArgs st) (defBody st) (defScope st) .none kV doc pm an cdv ct), osl⟩) (c : PySem.W.codeIn K cdv x = true) (k : PySem.W.keepIn K (.ref f) = true)
    (b : ∀ (kV doc pm : Value) (an : Option Addr) (cdv ct : Value) (us : List Value), us.length = ps.length → bindArgs (PySem.W.fnOf x x (defArgs st) (defBody st) (defScope st) .none kV doc pm an cdv ct) ⟨us, []⟩ = pure (ps.zip us)) : TopFn K x st ps :=
  ⟨f, _, a, fun_mk l c k, (fun_mk (st := st) l c k).binds b⟩
def MetFn (K : PySem.W.Frag) (C : Addr) (x qual : Str) (st : Stmt) (ps : List Str) : Prop := ∃ f fd, PySem.W.findIn K (.ref C) x = some (some (.ref f)) ∧ PySem.W.isFn K (.ref f) = true ∧ Fun K x qual st f fd ∧ Binds K fd ps []
theorem met_fn {K : PySem.W.Frag} {C : Addr} {x qual : Str} {st : Stmt} {ps : List Str} {f : Addr} {oc : Value} {od an : Option Addr} {osl : Array (Option Value)} {kV doc pm cdv ct : Value} (a : PySem.W.findIn K (.ref C) x = some (some (.ref f))) (i : PySem.W.isFn K (.ref f) = true)
    (l : K.lookup f = some ⟨oc, od, .func (PySem.W.fnOf x qual (defArgs st) (defBody st) (defScope st) .none kV doc pm an cdv ct), osl⟩) (c : PySem.W.codeIn K cdv qual = true) (k : PySem.W.keepIn K (.ref f) = true)
    (b : ∀ (kV doc pm : Value) (an : Option Addr) (cdv ct : Value) (us : List Value), us.length = ps.length → bindArgs (PySem.W.fnOf x qual (defArgs st) (defBody st) (defScope st) .none kV doc pm an cdv ct) ⟨us, []⟩ = pure (ps.zip us)) : MetFn K C x qual st ps :=
  ⟨f, _, a, i, fun_mk l c k, (fun_mk (st := st) l c k).binds b⟩
def PrpFn (K : PySem.W.Frag) (C : Addr) (x qual : Str) (st : Stmt) : Prop := ∃ p g fd, PySem.W.findIn K (.ref C) x = some (some (.ref p)) ∧ PySem.W.specialIn K (.ref p) "__get__" = some (some (.builtin "property.__get__")) ∧ PySem.W.takesIn K (.ref p) = some true ∧
    (∃ rest, PySem.W.recIn K p "property" = some (.ref g :: rest)) ∧ Fun K x qual st g fd ∧ Binds K fd ["self"] []
theorem prp_fn {K : PySem.W.Frag} {C p : Addr} {x qual : Str} {st : Stmt} {f : Addr} {rest : List Value} {oc : Value} {od an : Option Addr} {osl : Array (Option Value)} {kV doc pm cdv ct : Value} (a : PySem.W.findIn K (.ref C) x = some (some (.ref p)))
    (s : PySem.W.specialIn K (.ref p) "__get__" = some (some (.builtin "property.__get__"))) (t : PySem.W.takesIn K (.ref p) = some true) (r : PySem.W.recIn K p "property" = some (.ref f :: rest))
    (l : K.lookup f = some ⟨oc, od, .func (PySem.W.fnOf x qual (defArgs st) (defBody st) (defScope st) .none kV doc pm an cdv ct), osl⟩) (c : PySem.W.codeIn K cdv qual = true) (k : PySem.W.keepIn K (.ref f) = true)
    (b : ∀ (kV doc pm : Value) (an : Option Addr) (cdv ct : Value) (us : List Value), us.length = 1 → bindArgs (PySem.W.fnOf x qual (defArgs st) (defBody st) (defScope st) .none kV doc pm an cdv ct) ⟨us, []⟩ = pure ((["self"] : List Str).zip us)) : PrpFn K C x qual st :=
  ⟨p, f, _, a, s, t, ⟨rest, r⟩, fun_mk l c k, (fun_mk (st := st) l c k).binds b⟩
def SlotAt (K : PySem.W.Frag) (C : Addr) (x : Str) (i : Nat) : Prop := ∃ p, Slot1 K C x p i
theorem slot_at {K : PySem.W.Frag} {C p : Addr} {x : Str} {i : Nat} (a : PySem.W.findIn K (.ref C) x = some (some (.ref p))) (s : PySem.W.specialIn K (.ref p) "__get__" = some (some (.builtin "member_descriptor.__get__"))) (t : PySem.W.takesIn K (.ref p) = some true)
    (y : PySem.W.typeIn K (.ref p) = some (.type "member_descriptor")) (j : PySem.W.slotIn K p C = some i) (h : i < 1000) : SlotAt K C x i := ⟨p, a, s, t, y, j, h⟩
theorem kit_self {K : PySem.W.Frag} {C : Addr} : PySem.W.kitOne K (.ref C) (.ref C) = some true := by
  unfold PySem.W.kitOne; rw [if_pos (by simp)]
/-- law's, as the head asks it -/
def spLaw (K : PySem.W.Frag) : Sp := fun vs H Q _ => ∃ (a : Addr) (ns : List Int), vs = [.ref a] ∧ SqL K H a (ns.map V.int) ∧ ns.length ≤ 63 ∧ TabT (fun _ => none) H ∧ ∀ H', Q (.bl true) H'
open Classical in
/-- all but the tables -/
noncomputable def cutT (H : Hp) : Hp := fun b => if Tabz.ts b then none else H b
theorem cutT_at {H : Hp} {b : Addr} (h : ¬ Tabz.ts b) : cutT H b = H b := by unfold cutT; rw [if_neg h]
theorem at_start {H : Hp} (tb : TabT (fun _ => none) H) : At (cutT H) [] H := At.nil (fun b u e => by
  unfold cutT at e
  split at e
  · cases e
  · exact e) (tb.up fun c q h => nomatch h) fun P hP => by unfold cutT; rw [if_pos hP]
theorem sqL_cut {K : PySem.W.Frag} {H : Hp} {a : Addr} {xs : List V} (tb : TabT (fun _ => none) H) (h : SqL K H a xs) : SqL K (cutT H) a xs := by
  rcases h with (h | ⟨o, h⟩) | h
  · refine .inl (.inl ?_)
    rw [cutT_at fun z => by obtain ⟨ps, e, _⟩ := tb a z; rw [h] at e; cases e]; exact h
  · refine .inl (.inr ⟨o, ?_⟩)
    rw [cutT_at fun z => by obtain ⟨ps, e, _⟩ := tb a z; rw [h] at e; cases e]; exact h
  · exact .inr h
theorem own_toN {P : Program} {w : World} {K : PySem.W.Frag} {mg : Str → Option Value} {base : Heap} {γ δ : Type} {k : Nat} {C : Addr} {nm : Str} {pre : γ → Prop} {Rs : γ → List VP} {f : γ → δ} {R : δ → VP} (h : OwnS P w K mg base nm k C (SpF pre Rs (fun g => R (f g)))) : OwnS P w K mg base nm k C (SpN Rs (fun g Q => pre g ∧ Q (f g)) R) :=
  let ⟨g, h1, h2, h3⟩ := h
  ⟨g, h1, h2, h3.imp fun _ _ _ _ => SpF.toN⟩
end Tw

/-! Me: webs that are often used. -/
namespace Ma
open PySem Rs L2
variable [Rs.Tabz]
def fullRow (n h : Nat) : List Nat := (List.range n).filter fun x => !decide (x = h)
def fullR (n : Nat) : Rows := (List.range n).map (fullRow n)
/-- rows made house by house -/
theorem made_ok {n : Nat} {g : Nat → List Nat} (h1 : 1 ≤ n) (h2 : n ≤ 5) (ha : ∀ h, h < n → Asc (g h)) (hb : ∀ h, h < n → ∀ x ∈ g h, x < n ∧ x ≠ h) : Ok ((List.range n).map g) := by
  have e : ((List.range n).map g).length = n := by rw [List.length_map, List.length_range]
  refine ⟨by rw [e]; exact h1, by rw [e]; exact h2, fun r hr => ?_, fun r hr x hx => ?_, fun i r hr hi => ?_⟩
  · obtain ⟨h, hh, rfl⟩ := List.mem_map.mp hr
    exact ha h (List.mem_range.mp hh)
  · obtain ⟨h, hh, rfl⟩ := List.mem_map.mp hr
    rw [e]
    exact (hb h (List.mem_range.mp hh) x hx).1
  · rw [List.getElem?_map] at hr
    by_cases hl : i < n
    · rw [List.getElem?_range hl] at hr
      cases hr
      exact (hb i hl i hi).2 rfl
    · rw [List.getElem?_eq_none (by rw [List.length_range]; omega)] at hr
      cases hr
theorem full_ok {n : Nat} (h1 : 1 ≤ n) (h2 : n ≤ 5) : Ok (fullR n) := made_ok h1 h2 (fun h _ => (asc_range n).filter _) fun h _ x hx => by
  obtain ⟨a, b⟩ := List.mem_filter.mp hx
  exact ⟨List.mem_range.mp a, by simpa using b⟩
end Ma

/-! Mf: those who hear somebody's word, round by round. -/
namespace Ma
open PySem Rs L2
variable [Rs.Tabz]
def stepL (rs : Rows) (fs : List Nat) : List Nat := (List.range rs.length).filter fun y => decide (y ∈ fs) || !decide ((row rs y).filter (fun x => decide (x ∈ fs)) = [])
def fromL (rs : Rows) (h : Nat) : Nat → List Nat
  | 0 => [h]
  | k + 1 => stepL rs (fromL rs h k)
section
variable {rs : Rows} {h : Nat} {fs : List Nat} {y k j : Nat}
theorem mem_step : y ∈ stepL rs fs ↔ y < rs.length ∧ (y ∈ fs ∨ ∃ x, x ∈ row rs y ∧ x ∈ fs) := by
  unfold stepL
  rw [List.mem_filter, List.mem_range, Bool.or_eq_true, decide_eq_true_eq, Bool.not_eq_true', decide_eq_false_iff_not, List.filter_eq_nil_iff]
  refine and_congr_right fun _ => or_congr_right ⟨fun z => ?_, fun ⟨x, h1, h2⟩ z => z x h1 (decide_eq_true h2)⟩
  apply Classical.byContradiction
  intro q
  exact z fun x hx hd => q ⟨x, hx, of_decide_eq_true hd⟩
theorem from_lt (hh : h < rs.length) : ∀ {k y : Nat}, y ∈ fromL rs h k → y < rs.length ∧ Reach rs h y
  | 0, y, z => by
    rw [List.mem_singleton.mp z]
    exact ⟨hh, .refl⟩
  | k + 1, y, z => by
    obtain ⟨h1, h2⟩ := mem_step.mp z
    refine ⟨h1, ?_⟩
    rcases h2 with h2 | ⟨x, h2, h3⟩
    · exact (from_lt hh h2).2
    · exact .step (from_lt hh h3).2 h1 h2
theorem from_up (hh : h < rs.length) (z : y ∈ fromL rs h k) : y ∈ fromL rs h (k + 1) := mem_step.mpr ⟨(from_lt hh z).1, .inl z⟩
theorem from_le (hh : h < rs.length) (hk : k ≤ j) (z : y ∈ fromL rs h k) : y ∈ fromL rs h j := by
  obtain ⟨d, rfl⟩ : ∃ d, j = k + d := ⟨j - k, by omega⟩
  induction d with
  | zero => exact z
  | succ d ih => exact from_up hh (ih (by omega))
theorem from_nodup : ∀ {k : Nat}, (fromL rs h k).Nodup
  | 0 => by unfold fromL; simp
  | k + 1 => asc_nodup ((asc_range _).filter _)
theorem sub_len {a b : List Nat} (ha : a.Nodup) (hb : b.Nodup) (hs : ∀ x ∈ a, x ∈ b) : a.length ≤ b.length := by
  have p : (b.filter fun x => decide (x ∈ a)).Perm a := (List.perm_ext_iff_of_nodup (hb.filter _) ha).mpr fun x => by
    rw [List.mem_filter, decide_eq_true_eq]
    exact ⟨fun z => z.2, fun z => ⟨hs x z, z⟩⟩
  rw [← p.length_eq]
  exact List.length_filter_le _ _
theorem from_grow (hh : h < rs.length) : ∀ k, (∃ j, j < k ∧ ∀ y, y ∈ fromL rs h (j + 1) → y ∈ fromL rs h j) ∨ k + 1 ≤ (fromL rs h k).length
  | 0 => .inr (by unfold fromL; simp)
  | k + 1 => by
    rcases from_grow hh k with ⟨j, h1, h2⟩ | h1
    · exact .inl ⟨j, by omega, h2⟩
    · by_cases q : ∀ y, y ∈ fromL rs h (k + 1) → y ∈ fromL rs h k
      · exact .inl ⟨k, by omega, q⟩
      · right
        obtain ⟨y, q⟩ := Classical.not_forall.mp q
        obtain ⟨q1, q2⟩ := Classical.not_imp.mp q
        have := sub_len (a := y :: fromL rs h k) (b := fromL rs h (k + 1)) (List.nodup_cons.mpr ⟨q2, from_nodup⟩) from_nodup fun x hx => by
          rcases List.mem_cons.mp hx with z | z
          · rw [z]; exact q1
          · exact from_up hh z
        rw [List.length_cons] at this
        omega
theorem from_all (hh : h < rs.length) (q : ∀ y, y ∈ fromL rs h (j + 1) → y ∈ fromL rs h j) (r : Reach rs h y) : y ∈ fromL rs h j := by
  induction r with
  | refl => exact from_le (k := 0) hh (by omega) (by unfold fromL; simp)
  | step r1 h1 h2 ih => exact q _ (mem_step.mpr ⟨h1, .inr ⟨_, h2, ih⟩⟩)
theorem from_reach (hh : h < rs.length) : fromL rs h rs.length = reachL rs h := by
  obtain ⟨m, hm⟩ : ∃ m, rs.length = m + 1 := ⟨rs.length - 1, by omega⟩
  refine asc_one (by rw [hm]; exact (asc_range _).filter _) asc_reachL fun y => ?_
  rw [mem_reachL]
  refine ⟨from_lt hh, fun ⟨_, r⟩ => ?_⟩
  rcases from_grow hh rs.length with ⟨j, h1, h2⟩ | h1
  · exact from_le hh (Nat.le_of_lt h1) (from_all hh h2 r)
  · have := nodup_len _ _ (from_nodup (rs := rs) (h := h) (k := rs.length)) fun x hx => (from_lt hh hx).1
    omega
end
end Ma

/-! Mg: laws of joins, shares and often used webs. -/
namespace Ma
open PySem Rs L2
variable [Rs.Tabz]
section
variable {rs : Rows} {n c h : Nat}
end
end Ma

/-! Mh: roots of often used webs. -/
namespace Ma
open PySem Rs L2
variable [Rs.Tabz]
section
variable {rs : Rows} {n c h y : Nat}
end
end Ma

/-! Mi: rounds with a full web. -/
namespace Ma
open PySem Rs L2
variable [Rs.Tabz]
section
variable {rs qs : Rows} {n c h y : Nat}
end
end Ma

/-! Mj: a ring of two chains. -/
namespace Ma
open PySem Rs L2
variable [Rs.Tabz]
section
variable {n c : Nat}
end
end Ma

/-! Mk: new numbers. The row of a house goes to its new number, each in it renumbered, sorted. -/
namespace Ma
open PySem Rs L2
variable [Rs.Tabz]
section
variable {rs : Rows} {ns : List Nat} {n y z : Nat}
end
end Ma

/-! Ml: a star renumbered. -/
namespace Ma
open PySem Rs L2
variable [Rs.Tabz]
section
variable {ns : List Nat} {n c : Nat}
end
end Ma

/-! Mm: a chain turned round. -/
namespace Ma
open PySem Rs L2
variable [Rs.Tabz]
end Ma

/-! Sn0: sets whose elements are keys of any one kind of heap keys; the search. -/
namespace Sn
open PySem PySem.Spec PyProof.Rows L2
variable [Rs.Tabz]

/-- a kind of keys that a set shows nothing of -/
structure SKind (P : Program) (w : World) (K : Type) [DecidableEq K] where
  kd : HeapKind P w K
  noClass : ∀ {A : Around} {E : Value → Shared → Prop} {s : Shared} {k : K} {a : Addr} {Q : Bool → Shared → Prop}, kd.is s.heap k a → Q false s → wpAny (model P w) A (ofAClassStatement 8 (.ref a)) Q E s
  byVal : ∀ {A : Around} {E : Value → Shared → Prop} {s : Shared} {k : K} {a : Addr} {Q : Bool → Shared → Prop}, kd.is s.heap k a → Q true s → wpAny (model P w) A (hashByValue 8 (.ref a)) Q E s
  stay : ∀ {h h' : Heap} {k : K} {a : Addr}, kd.is h k a → (∀ b o vs n, h.get? b = some o → o.data = .seq vs n → h'.get? b = some o) → kd.is h' k a

section
variable {P : Program} {w : World} {K : Type} [DecidableEq K] (kk : SKind P w K)
def hs (p : Addr × K) : Int := kk.kd.hash p.2
def row1 (p : Addr × K) : Int × Value := (hs kk p, .ref p.1)
/-- the object o at a is the set of the keys of L -/
structure SI (h : Heap) (a : Addr) (L : List (Addr × K)) (o : Obj) (es : Array (Int × Value)) (ep : Nat) (t : SetTable) : Prop where
  at' : h.get? a = some o
  exact' : o.ExactSet
  data : o.data = .set es ep t
  rows : es.toList = L.map (row1 kk)
  tab : TabOk t (L.map (hs kk))
  nd : (L.map (·.2)).Nodup
  keys : ∀ p ∈ L, kk.kd.is h p.2 p.1
  plain : t.plain = true
  led : w.params.followText "set-order" = true ∨ t.led = true
  room : L.length * 5 < t.mask * 3
  few : L.length < 64
variable {kk}
theorem rows_len {es : Array (Int × Value)} {L : List (Addr × K)} (h : es.toList = L.map (row1 kk)) : es.size = L.length := by
  rw [← Array.length_toList, h, List.length_map]
theorem rows_at {es : Array (Int × Value)} {L : List (Addr × K)} (h : es.toList = L.map (row1 kk)) (i : Nat) : es[i]? = (L[i]?).map (row1 kk) := by
  rw [← Array.getElem?_toList, h, List.getElem?_map]
theorem fits_of {t : SetTable} {n : Nat} (h1 : t.place.size = n) (h2 : t.dummies = #[]) (h3 : n ≤ t.mask) : t.fits n = true := by
  have e : t.fill = n := by
    unfold SetTable.fill
    rw [h1, h2]; rfl
  unfold SetTable.fits
  rw [e, h1, Bool.and_eq_true, beq_iff_eq, decide_eq_true_eq]
  exact ⟨rfl, h3⟩
section
variable {h : Heap} {a : Addr} {L : List (Addr × K)} {o : Obj} {es : Array (Int × Value)} {ep : Nat} {t : SetTable}
theorem SI.sz (R : SI kk h a L o es ep t) : t.place.size = es.size := by
  rw [R.tab.sz, List.length_map, rows_len R.rows]
theorem SI.fits (R : SI kk h a L o es ep t) : t.fits es.size = true := by
  refine fits_of R.sz R.tab.dm ?_
  have := R.room
  rw [rows_len R.rows]
  omega
theorem SI.notGone (R : SI kk h a L o es ep t) : ¬ t.gaveWay = true := by
  unfold SetTable.gaveWay
  rw [mask_odd R.tab.mok]
  decide
theorem SI.hashAt (R : SI kk h a L o es ep t) {i : Nat} {p : Addr × K} (hp : L[i]? = some p) : (es[i]?.map (·.1)).getD 0 = hs kk p := by
  rw [rows_at R.rows, hp]; rfl
theorem SI.inPlace (R : SI kk h a L o es ep t) {i : Nat} {p : Addr × K} (hp : L[i]? = some p) : ∃ j, t.place.toList[i]? = some j := by
  have h1 := (List.getElem?_eq_some_iff.mp hp).1
  have h2 : i < t.place.toList.length := by
    rw [Array.length_toList, R.tab.sz, List.length_map]; exact h1
  exact ⟨_, List.getElem?_eq_getElem h2⟩
theorem SI.ofPlace (R : SI kk h a L o es ep t) {i j : Nat} (hj : t.place.toList[i]? = some j) : ∃ p, L[i]? = some p := by
  have h1 := (List.getElem?_eq_some_iff.mp hj).1
  rw [Array.length_toList, R.tab.sz, List.length_map] at h1
  exact ⟨_, List.getElem?_eq_getElem h1⟩
end

/-- the n-th step of the way of a hash -/
abbrev stp (t : SetTable) (v : Int) (n : Nat) : SetTable.Probe := nth t.mask (runAt t.mask (SetTable.bits v % (t.mask + 1)) (SetTable.bits v)) n
theorem stp_dummy (t : SetTable) (v : Int) : ∀ n, (stp t v n).dummy = none
  | 0 => rfl
  | n + 1 => by
    have ih := stp_dummy t v n
    show (nth t.mask _ (n + 1)).dummy = none
    rw [nth_succ]
    unfold adv
    split
    · exact ih
    · exact ih
theorem stp_add (t : SetTable) (v : Int) (c q : Nat) : nth t.mask (stp t v c) q = stp t v (c + q) := (nth_add t.mask c _ q).symm

section
variable {A : Around} {E : Value → Shared → Prop} {s : Shared}
/-- a search among such keys shows nothing -/
theorem unseen {k : K} {b : Addr} {Q : Bool → Shared → Prop} (hk : kk.kd.is s.heap k b) (ys : List Value) (hy : ∀ y ∈ ys, ∃ k' c, y = Value.ref c ∧ kk.kd.is s.heap k' c) (h : Q false s) :
    wpAny (model P w) A (searchCouldBeSeen (.ref b) ys) Q E s := by
  unfold searchCouldBeSeen
  refine wpAny_bind (wpAny_forIn_list _ (fun left r s' => (r.1 = none ∧ s' = s) ∧ ∀ y ∈ left, ∃ k' c, y = Value.ref c ∧ kk.kd.is s.heap k' c) _ (fun y left r s' H => ?_) (fun r s' H => ?_) _ _ ⟨⟨rfl, rfl⟩, hy⟩)
  · obtain ⟨⟨h1, rfl⟩, h2⟩ := H
    obtain ⟨k', c, rfl, hc⟩ := h2 y List.mem_cons_self
    have more := fun u (hu : u ∈ left) => h2 u (List.mem_cons_of_mem _ hu)
    dsimp only
    cases hv : (b == c || (carriedByValue (.ref b) && carriedByValue (.ref c)))
    · refine wp_if_neg (by decide) (wpAny_bind (kk.kd.quiet hk ?_))
      simp only [Bool.not_true, Bool.false_eq_true, if_false]
      refine wpAny_bind (kk.kd.quiet hc ?_)
      simp only [Bool.not_true, Bool.false_eq_true, if_false]
      refine wpAny_bind (kk.noClass hk ?_)
      simp only [Bool.false_eq_true, if_false]
      refine wpAny_bind (kk.noClass hc ?_)
      simp only [Bool.false_eq_true, if_false]
      exact wpAny_pure ⟨⟨rfl, rfl⟩, more⟩
    · exact wp_if_pos rfl (wpAny_pure ⟨⟨rfl, rfl⟩, more⟩)
  · obtain ⟨r1, r2⟩ := r
    obtain ⟨⟨h1, rfl⟩, _⟩ := H
    simp only at h1
    subst h1
    exact wpAny_pure h

variable {a : Addr} {L : List (Addr × K)} {o : Obj} {es : Array (Int × Value)} {ep : Nat} {t : SetTable}
/-- the search, with n steps to the free slot -/
theorem look (R : SI kk s.heap a L o es ep t) {x : Addr} {k : K} (hx : kk.kd.is s.heap k x) (hr : kk.kd.room A) {N : Nat} (hN : N < 10 * SetTable.turns t.mask)
    (free : way t.mask (kk.kd.hash k) N ∉ t.place.toList) (taken : ∀ c, c < N → way t.mask (kk.kd.hash k) c ∈ t.place.toList) {Q : SetFound → Shared → Prop}
    (qin : k ∈ L.map (·.2) → Q (.there none) s) (qout : k ∉ L.map (·.2) → Q (.free (way t.mask (kk.kd.hash k) N) false) s) :
    ∀ (n f c : Nat) (from' : Option SetTable.Probe), c + n = N → n < f → from'.getD (t.probeStart (kk.kd.hash k)) = stp t (kk.kd.hash k) c →
      (∀ (i : Nat) p, L[i]? = some p → p.2 = k → ∃ c', c ≤ c' ∧ c' < N ∧ t.place.toList[i]? = some (way t.mask (kk.kd.hash k) c')) →
      wpAny (model P w) A (setSearchFrom a (.ref x) (kk.kd.hash k) true f from') Q E s := by
  intro n
  induction n using Nat.strongRecOn with
  | ind n ih =>
    intro f c from' hc hf hfrom ahead
    obtain ⟨f, rfl⟩ : ∃ g, f = g + 1 := ⟨f - 1, by omega⟩
    rw [setSearchFrom_succ]
    refine wpAny_bind (wpAny_setState_of R.at' R.data R.fits ?_)
    dsimp only
    refine wp_if_neg R.notGone ?_
    try refine wpAny_bind (wpAny_pure ?_)
    have spec := go_spec t R.tab.ris R.tab.dm (fun i => (es[i]?.map (·.1)).getD 0) (kk.kd.hash k) (10 * SetTable.turns t.mask) n (stp t (kk.kd.hash k) c) (stp_dummy _ _ _) (by omega)
      (fun q hq => by rw [stp_add]; exact taken (c + q) (by omega)) (by rw [stp_add, hc]; exact free)
    rcases spec with ⟨q, i, hq, hi, hh, first, probe⟩ | ⟨none', probe⟩
    · rw [stp_add] at hi
      rw [stp_add, stp_add] at probe
      have probe' : t.probe (fun i => (es[i]?.map (·.1)).getD 0) (kk.kd.hash k) (from'.getD (t.probeStart (kk.kd.hash k))) = some (.candidate (stp t (kk.kd.hash k) (c + q)).j i (stp t (kk.kd.hash k) (c + (q + 1)))) := by rw [hfrom]; exact probe
      rw [probe']
      dsimp only
      obtain ⟨p, hp⟩ := R.ofPlace hi
      have hpL := List.mem_of_getElem? hp
      have entry : es[i]? = some (hs kk p, Value.ref p.1) := by rw [rows_at R.rows, hp]; rfl
      have slot := slot_live R.tab.ris hi
      have rest : wpAny (model P w) A (searchRest a (.ref x) (kk.kd.hash k) true f es t (stp t (kk.kd.hash k) (c + q)).j i (stp t (kk.kd.hash k) (c + (q + 1)))) Q E s := by
        unfold searchRest
        rw [entry]
        dsimp only
        refine wpAny_bind (wpAny_holding (kk.kd.eqBool hr (R.keys p hpL) hx ?_))
        refine wpAny_bind (wpAny_setState_of R.at' R.data R.fits ?_)
        dsimp only
        by_cases same : p.2 = k
        · exact wp_if_pos (by simp [same]) (wpAny_pure (qin (List.mem_map.mpr ⟨p, hpL, same⟩)))
        · refine wp_if_neg (by simp [same]) ?_
          try refine wpAny_bind (wpAny_pure ?_)
          rw [sameMem]
          dsimp only
          simp only [if_true, slot, entry]
          refine wpAny_bind (wpAny_isSame_ref_self (wpAny_bind (wpAny_pure ?_)))
          simp only [if_true]
          refine wp_if_neg (by simp [same]) ?_
          refine ih (n - (q + 1)) (by omega) f (c + (q + 1)) _ (by omega) (by omega) rfl fun i0 p0 h0 e0 => ?_
          obtain ⟨c', a1, a2, a3⟩ := ahead i0 p0 h0 e0
          refine ⟨c', ?_, a2, a3⟩
          rcases Nat.lt_trichotomy c' (c + q) with z | z | z
          · refine absurd ?_ (first (c' - c) i0 (by omega) (by rw [stp_add, show c + (c' - c) = c' by omega]; exact a3))
            exact (R.hashAt h0).trans (congrArg kk.kd.hash e0)
          · rw [z] at a3
            have s2 := slot_live R.tab.ris a3
            rw [slot] at s2
            injection s2 with s2
            rw [← s2, hp] at h0
            exact absurd ((congrArg Prod.snd (Option.some.inj h0)).trans e0) same
          · omega
      cases hled : t.led
      · refine wp_if_pos rfl (wpAny_bind (unseen hx _ (fun y hy => ?_) ?_))
        · obtain ⟨e, he, ee⟩ := List.mem_map.mp hy
          have he1 : e ∈ es.toList := by
            have : e ∈ es ∧ e.1 = kk.kd.hash k := by simpa using he
            simpa using this.1
          rw [R.rows] at he1
          obtain ⟨z, hz, rfl⟩ := List.mem_map.mp he1
          exact ⟨z.2, z.1, ee.symm, R.keys z hz⟩
        · refine wp_if_neg (by decide) ?_
          try refine wpAny_bind (wpAny_pure ?_)
          exact rest
      · refine wp_if_neg (by decide) ?_
        try refine wpAny_bind (wpAny_pure ?_)
        exact rest
    · rw [stp_add, hc] at probe
      have probe' : t.probe (fun i => (es[i]?.map (·.1)).getD 0) (kk.kd.hash k) (from'.getD (t.probeStart (kk.kd.hash k))) = some (.empty (way t.mask (kk.kd.hash k) N) none) := by rw [hfrom]; exact probe
      rw [probe']
      dsimp only
      refine wpAny_pure (qout fun hm => ?_)
      obtain ⟨p0, h0, e0⟩ := List.mem_map.mp hm
      obtain ⟨i0, hi0⟩ := List.mem_iff_getElem?.mp h0
      obtain ⟨c', a1, a2, a3⟩ := ahead i0 p0 hi0 e0
      refine absurd ?_ (none' (c' - c) i0 (by omega) (by rw [stp_add, show c + (c' - c) = c' by omega]; exact a3))
      exact (R.hashAt hi0).trans (congrArg kk.kd.hash e0)

/-- the search as adding asks for it -/
theorem seek (R : SI kk s.heap a L o es ep t) {x : Addr} {k : K} (hx : kk.kd.is s.heap k x) (hr : kk.kd.room A) {Q : SetFound → Shared → Prop} (qin : k ∈ L.map (·.2) → Q (.there none) s)
    (qout : ∀ N, k ∉ L.map (·.2) → way t.mask (kk.kd.hash k) N ∉ t.place.toList → (∀ c, c < N → way t.mask (kk.kd.hash k) c ∈ t.place.toList) → Q (.free (way t.mask (kk.kd.hash k) N) false) s) :
    wpAny (model P w) A (setSearch a (.ref x) (kk.kd.hash k) true) Q E s := by
  have hroom := R.room
  obtain ⟨N, hN, free, taken⟩ := R.tab.first (by rw [List.length_map]; omega) (kk.kd.hash k)
  have bound : 10 * SetTable.turns t.mask ≤ 99999 := by
    unfold SetTable.turns
    rcases R.tab.mok with e | e | e <;> omega
  refine look R hx hr hN free taken qin (fun hn => qout N hn free taken) N 100000 0 none (Nat.zero_add _) (by omega) rfl fun i p hp e => ?_
  obtain ⟨j, hj⟩ := R.inPlace hp
  have hi : (L.map (hs kk))[i]? = some (kk.kd.hash k) := by rw [List.getElem?_map, hp, ← e]; rfl
  obtain ⟨c, hc, ec⟩ := R.tab.before free hi hj
  exact ⟨c, Nat.zero_le _, hc, by rw [hj, ec]⟩
end
end
end Sn

/-! Sn1: adding to a set of keys. -/
namespace Sn
open PySem PySem.Spec PyProof.Rows L2
variable [Rs.Tabz]
section
variable {P : Program} {w : World} {K : Type} [DecidableEq K] {kk : SKind P w K}

/-- the entries in another order -/
theorem picked {L : List (Addr × K)} {es : Array (Int × Value)} (h : es.toList = L.map (row1 kk)) : ∀ is : List Nat, (∀ i ∈ is, i < L.length) →
    is.filterMap (fun i => es[i]?) = (is.filterMap fun i => L[i]?).map (row1 kk) ∧ (is.filterMap fun i => L[i]?).map (hs kk) = is.map fun i => (es.map (·.1)).getD i 0
  | [], _ => ⟨rfl, rfl⟩
  | i :: is, hi => by
    obtain ⟨e1, e2⟩ := picked h is fun j hj => hi j (List.mem_cons_of_mem _ hj)
    have hl := hi i List.mem_cons_self
    have hL : L[i]? = some L[i] := List.getElem?_eq_getElem hl
    have hE : es[i]? = some (row1 kk L[i]) := by rw [rows_at h, hL]; rfl
    refine ⟨?_, ?_⟩
    · rw [List.filterMap_cons_some hE, List.filterMap_cons_some hL, e1, List.map_cons]
    · rw [List.filterMap_cons_some hL, List.map_cons, List.map_cons, e2]
      congr 1
      have : (es.map (·.1))[i]? = some (hs kk L[i]) := by rw [Array.getElem?_map, hE]; rfl
      simp [Array.getD_eq_getD_getElem?, this]
theorem picked_upto {α : Type} (L : List α) : ∀ n, n ≤ L.length → (List.range n).filterMap (fun i => L[i]?) = L.take n
  | 0, _ => rfl
  | n + 1, h => by
    have e : L[n]? = some L[n] := List.getElem?_eq_getElem h
    rw [List.range_succ, List.filterMap_append, picked_upto L n (Nat.le_of_succ_le h), List.take_succ, e]
    simp [e]
theorem all_picked {α : Type} (L : List α) : (List.range L.length).filterMap (fun i => L[i]?) = L := by
  rw [picked_upto L _ (Nat.le_refl _), List.take_length]

section
variable {A : Around} {E : Value → Shared → Prop} {s : Shared} {a : Addr} {L : List (Addr × K)} {o : Obj} {es : Array (Int × Value)} {ep : Nat} {t : SetTable}
/-- what is no set stays, so keys stay -/
theorem key_but {h h' : Heap} {k : K} {b : Addr} (hk : kk.kd.is h k b) (ho : h.get? a = some o) (hd : o.data = .set es ep t) (sb : Heap.SameBut a h h') : kk.kd.is h' k b :=
  kk.stay hk fun c o' vs n hc hq => by
    refine (sb.2 c ?_).trans hc
    rintro rfl
    rw [ho] at hc
    cases hc
    rw [hd] at hq
    exact nomatch hq
theorem key_up {h h' : Heap} {k : K} {b : Addr} (hk : kk.kd.is h k b) (up : ∀ c o, h.get? c = some o → h'.get? c = some o) : kk.kd.is h' k b := kk.stay hk fun c o _ _ hc _ => up c o hc

/-- a set whose table is too full is laid anew -/
theorem relay {M wanted : Nat} (ho : s.heap.get? a = some o) (hex : o.ExactSet) (hd : o.data = .set es ep t) (hrow : es.toList = L.map (row1 kk)) (T : TabOk t (L.map (hs kk))) (hfit : L.length ≤ t.mask)
    (nd : (L.map (·.2)).Nodup) (keys : ∀ p ∈ L, kk.kd.is s.heap p.2 p.1) (pl : t.plain = true) (ld : w.params.followText "set-order" = true ∨ t.led = true) (few : L.length < 64)
    (hw : SetTable.sizeAbove wanted = M + 1) (hM : MaskOk M) (hn : L.length * 5 < M * 3) {Q : Unit → Shared → Prop}
    (q : ∀ h' L' o' es' ep' t', Heap.SameBut a s.heap h' → SI kk h' a L' o' es' ep' t' → L'.Perm L → Q () { s with heap := h' }) : wpAny (model P w) A (setRelay a wanted) Q E s := by
  have len := rows_len hrow
  have psz : t.place.size = es.size := by rw [T.sz, List.length_map, len]
  have M128 : M ≤ 127 := by rcases hM with e | e | e <;> omega
  obtain ⟨t', order, er, pm, T', em, el, epl, edm⟩ := relaid_ok t (hs := es.map (·.1)) (wanted := wanted) (M := M) (by omega) hM (by rw [Array.size_map, len]; omega)
  rw [Array.size_map, len] at pm
  obtain ⟨e1, e2⟩ := picked hrow order.toList fun i hi => List.mem_range.mp (pm.mem_iff.mp hi)
  have pm2 : (order.toList.filterMap fun i => L[i]?).Perm L := by
    have := pm.filterMap fun i => L[i]?
    rwa [all_picked] at this
  rw [← e2] at T'
  have e3 : (order.filterMap (es[·]?)).toList = (order.toList.filterMap fun i => L[i]?).map (row1 kk) := by rw [Array.toList_filterMap]; exact e1
  generalize (order.toList.filterMap fun i => L[i]?) = L2 at e3 pm2 T'
  have sz3 : (order.filterMap (es[·]?)).size = es.size := by rw [rows_len e3, pm2.length_eq, len]
  rw [setRelay_eq]
  refine wpAny_bind (wpAny_setState_of ho hd (fits_of psz T.dm (by rw [len]; exact hfit)) ?_)
  dsimp only
  refine wp_if_neg (by rw [sizeLine_eq, hw]; omega) ?_
  try refine wpAny_bind (wpAny_pure ?_)
  rw [er]
  dsimp only
  refine wpAny_bind (wp_if_neg (by rw [sz3]; simp) ?_)
  try refine wpAny_bind (wpAny_pure ?_)
  refine wpAny_pure ?_
  dsimp only
  refine wpAny_storeSet_of ho hd ?_ (by rw [sz3, len, sizeLine_eq]; omega)
  have sb : Heap.SameBut a s.heap (s.heap.update a (Obj.putSet (order.filterMap (es[·]?)) t')) := Heap.SameBut.update ..
  refine q _ L2 _ _ (ep + 1) t' sb { at' := store_at ho hd, exact' := ⟨hex.1, hex.2.1, hex.2.2⟩, data := rfl, rows := e3, tab := T', nd := (pm2.map (·.2)).nodup_iff.mpr nd, keys := fun p hp => key_but (keys p (pm2.mem_iff.mp hp)) ho hd sb, plain := by rw [epl]; exact pl, led := by rw [el]; exact ld, room := by rw [pm2.length_eq, em]; exact hn, few := by rw [pm2.length_eq]; exact few } pm2

/-- adding a key -/
theorem add (R : SI kk s.heap a L o es ep t) {x : Addr} {k : K} (hx : kk.kd.is s.heap k x) (hr : kk.kd.room A) (more : L.length + 1 < 64) {Q : Bool → Shared → Prop}
    (q : ∀ b h' L' o' es' ep' t', Heap.SameBut a s.heap h' → SI kk h' a L' o' es' ep' t' → (k ∈ L.map (·.2) ∧ L' = L) ∨ (k ∉ L.map (·.2) ∧ L'.Perm ((x, k) :: L)) → Q b { s with heap := h' }) :
    wpAny (model P w) A (setAddHashed a (.ref x) (kk.kd.hash k)) Q E s := by
  have len := rows_len R.rows
  have hroom := R.room
  unfold setAddHashed
  refine wpAny_holding ?_
  rw [show (100000 : Nat) = 99999 + 1 from rfl, setAddHashedIn_succ]
  refine wpAny_bind (wpAny_setState_of R.at' R.data R.fits ?_)
  dsimp only
  refine wp_if_neg (by simp [byScan, Value.scannable]) ?_
  try refine wpAny_bind (wpAny_pure ?_)
  refine wpAny_bind (seek R hx hr (fun hm => ?_) fun N hm free taken => ?_)
  · exact wpAny_pure (q false s.heap L o es ep t (Heap.SameBut.refl a s.heap) R (.inl ⟨hm, rfl⟩))
  dsimp only
  refine wpAny_bind (wpAny_setState_of R.at' R.data R.fits ?_)
  dsimp only
  obtain ⟨p1, p2, p3, p4, p5, p6, p7, p8, p9⟩ := R.tab.put free taken
  have pl : (t.put (way t.mask (kk.kd.hash k) N)).1.plain = true := p6.trans R.plain
  generalize t.put (way t.mask (kk.kd.hash k) N) = pt at p1 p3 p4 p5 p6 p7 p8 p9 pl ⊢
  obtain ⟨t1, at1⟩ := pt
  dsimp only at p1 p3 p4 p5 p6 p7 p8 p9 pl ⊢
  subst p1
  first
    | (refine wpAny_bind ?_; refine wp_if_pos pl ?_; refine kk.byVal hx ?_)
    | refine wp_if_pos pl (wpAny_bind (kk.byVal hx ?_))
  simp only [if_true]
  generalize SetTable.below t.place (way t.mask (kk.kd.hash k) N) = n at p2 p3 ⊢
  have erow : (SetTable.insertAt es n (kk.kd.hash k, Value.ref x)).toList = (L.take n ++ (x, k) :: L.drop n).map (row1 kk) := by
    rw [SetTable.toList_insertAt, R.rows, List.map_append, List.map_cons, List.map_take, List.map_drop]; rfl
  have pm := put_perm L n (x, k)
  have T1 : TabOk t1 ((L.take n ++ (x, k) :: L.drop n).map (hs kk)) := by
    rw [List.map_append, List.map_cons, List.map_take, List.map_drop]; exact p3
  generalize L.take n ++ (x, k) :: L.drop n = L1 at erow pm T1
  generalize SetTable.insertAt es n (kk.kd.hash k, Value.ref x) = es1 at erow ⊢
  have len1 : L1.length = L.length + 1 := pm.length_eq
  have esz : es1.size = L.length + 1 := (rows_len erow).trans len1
  have nd1 : (L1.map (·.2)).Nodup := (pm.map (·.2)).nodup_iff.mpr (List.nodup_cons.mpr ⟨hm, R.nd⟩)
  refine wpAny_bind (wpAny_storeSet_of R.at' R.data ?_ (by rw [esz, sizeLine_eq]; omega))
  have sb : Heap.SameBut a s.heap (s.heap.update a (Obj.putSet es1 t1)) := Heap.SameBut.update ..
  have ho1 := store_at (es' := es1) (t' := t1) R.at' R.data
  generalize s.heap.update a (Obj.putSet es1 t1) = h1 at sb ho1 ⊢
  have keys1 : ∀ p ∈ L1, kk.kd.is h1 p.2 p.1 := fun p hp => by
    refine key_but ?_ R.at' R.data sb
    rcases List.mem_cons.mp (pm.mem_iff.mp hp) with rfl | hp
    · exact hx
    · exact R.keys p hp
  have ld1 : w.params.followText "set-order" = true ∨ t1.led = true := by rw [p5]; exact R.led
  have fill1 : t1.fill = L.length + 1 := by rw [p9, List.length_map]
  cases hf : t1.tooFull
  · first
      | refine wp_if_neg (by simp) ?_
      | (refine wpAny_bind ?_; refine wp_if_neg (by simp) ?_; refine wpAny_pure ?_)
    have roomy : ¬ ((L.length + 1) * 5 ≥ t1.mask * 3) := by
      have := hf
      unfold SetTable.tooFull at this
      rwa [decide_eq_false_iff_not, fill1] at this
    exact wpAny_pure (q true h1 L1 _ es1 (ep + 1) t1 sb { at' := ho1, exact' := ⟨R.exact'.1, R.exact'.2.1, R.exact'.2.2⟩, data := rfl, rows := erow, tab := T1, nd := nd1, keys := keys1, plain := pl, led := ld1, room := by rw [len1]; omega, few := by rw [len1]; exact more } (.inr ⟨hm, pm⟩))
  · first
      | (refine wpAny_bind ?_; refine wp_if_pos (by simp) ?_)
      | (refine wp_if_pos (by simp) ?_; refine wpAny_bind ?_)
    have full : (L.length + 1) * 5 ≥ t1.mask * 3 := by
      have := hf
      unfold SetTable.tooFull at this
      rwa [decide_eq_true_eq, fill1] at this
    rw [len]
    have fit1 : L1.length ≤ t1.mask := by
      rw [len1, p4]
      rcases R.tab.mok with e | e | e <;> omega
    have go : ∀ M, SetTable.sizeAbove (SetTable.grown (L.length + 1)) = M + 1 → MaskOk M → (L.length + 1) * 5 < M * 3 → wpAny (model P w) A (setRelay a (SetTable.grown (L.length + 1))) (fun _ s' => wpAny (model P w) A (pure true) Q E s') E { s with heap := h1 } := fun M g1 g2 g3 =>
      relay (s := { s with heap := h1 }) ho1 ⟨R.exact'.1, R.exact'.2.1, R.exact'.2.2⟩ rfl erow T1 fit1 nd1 keys1 pl ld1 (by rw [len1]; exact more) g1 g2 (by rw [len1]; exact g3) fun h2 L2 o2 es2 ep2 t2 sb2 R2 pm2 => wpAny_pure (q true h2 L2 o2 es2 ep2 t2 (sb.trans sb2) R2 (.inr ⟨hm, pm2.trans pm⟩))
    rcases R.tab.mok with e | e | e
    · have l4 : L.length = 4 := by omega
      exact go 31 (by rw [l4, size_20]) (.inr (.inl rfl)) (by omega)
    · have l18 : L.length = 18 := by omega
      exact go 127 (by rw [l18, size_76]) (.inr (.inr rfl)) (by omega)
    · omega
end
end
end Sn

/-! Sn2: set(a list of keys). -/
namespace Sn
open PySem PySem.Spec PyProof.Rows L2
variable [Rs.Tabz]
section
variable {P : Program} {w : World} {K : Type} [DecidableEq K] {kk : SKind P w K}
/-- the set L came of the keys ks -/
structure Came (ks L : List (Addr × K)) : Prop where
  sub : ∀ p ∈ L, p ∈ ks
  iff : ∀ k, k ∈ L.map (·.2) ↔ k ∈ ks.map (·.2)
  len : L.length ≤ ks.length
theorem Came.snoc {ks L L' : List (Addr × K)} {p : Addr × K} (c : Came ks L) (h : (p.2 ∈ L.map (·.2) ∧ L' = L) ∨ (p.2 ∉ L.map (·.2) ∧ L'.Perm (p :: L))) : Came (ks ++ [p]) L' := by
  rcases h with ⟨hm, rfl⟩ | ⟨hm, pm⟩
  · refine ⟨fun x hx => List.mem_append_left _ (c.sub x hx), fun k => ?_, ?_⟩
    · rw [List.map_append, List.mem_append, c.iff k]
      refine ⟨.inl, fun h => h.elim id fun h => ?_⟩
      have : k = p.2 := by simpa using h
      rw [this]; exact (c.iff _).mp hm
    · have := c.len
      rw [List.length_append, List.length_singleton]; omega
  · refine ⟨fun x hx => ?_, fun k => ?_, ?_⟩
    · rcases List.mem_cons.mp (pm.mem_iff.mp hx) with rfl | hx
      · exact List.mem_append_right _ (List.mem_singleton.mpr rfl)
      · exact List.mem_append_left _ (c.sub x hx)
    · rw [(pm.map (·.2)).mem_iff, List.map_cons, List.mem_cons, List.map_append, List.mem_append, c.iff k]
      simp [or_comm]
    · have := c.len
      rw [pm.length_eq, List.length_append, List.length_singleton, List.length_cons]; omega
section
variable {A : Around} {E : Value → Shared → Prop} {s : Shared}
/-- the set at a -/
def IsSet (kk : SKind P w K) (h : Heap) (a : Addr) (L : List (Addr × K)) : Prop := ∃ o es ep t, SI kk h a L o es ep t
theorem IsSet.up {h h' : Heap} {a : Addr} {L : List (Addr × K)} (R : IsSet kk h a L) (ha : ∀ o, h.get? a = some o → h'.get? a = some o) (hk : ∀ p ∈ L, kk.kd.is h' p.2 p.1) : IsSet kk h' a L := by
  obtain ⟨o, es, ep, t, R⟩ := R
  exact ⟨o, es, ep, t, { R with at' := ha o R.at', keys := hk }⟩
theorem isSet_new {h : Heap} {a : Addr} (ho : h.get? a = some { cls := .type "set", dict := none, data := .set #[] 0 (.fresh 0 0 (!w.params.followText "set-order")) }) : IsSet kk h a [] := by
  refine ⟨_, _, _, _, { at' := ho, exact' := ⟨rfl, rfl, rfl⟩, data := rfl, rows := rfl, tab := ⟨List.Pairwise.nil, rfl, rfl, .inl rfl, fun x hx => (nomatch hx), fun i h j hi => (by simp at hi)⟩, nd := List.nodup_nil, keys := fun p hp => (nomatch hp), plain := rfl, led := ?_, room := (by show 0 * 5 < 7 * 3; decide), few := (by show 0 < 64; decide) }⟩
  show _ ∨ (!w.params.followText "set-order") = true
  cases w.params.followText "set-order"
  · exact .inr rfl
  · exact .inl rfl

theorem loop {I : Addr} {fp wr : List Addr} {G : Array GenState → Array GenState → Prop} {n : Nat} {Pv : Nat → Value → Prop} {St : Nat → Shared → Prop} {R : Result → Shared → Prop}
    (W : WalksS P w A.in1 I fp wr G n Pv St) (S : Addr) (out : S ∉ fp) (ks : List (Addr × K)) (hn : n = ks.length) (few : ks.length < 64) (vals : ∀ i v, Pv i v → ∃ p, ks[i]? = some p ∧ v = .ref p.1)
    (h0 : Heap) (keys : ∀ p ∈ ks, kk.kd.is h0 p.2 p.1) (noS : h0.get? S = none) (noW : ∀ b ∈ wr, h0.get? b = none) (hr : kk.kd.room A.in1) :
    ∀ (m i : Nat) (s : Shared), i + m = n → St i s → (∀ b o, h0.get? b = some o → s.heap.get? b = some o) → (∃ L, IsSet kk s.heap S L ∧ Came (ks.take i) L) →
      (∀ s' L, Moved (S :: wr) G s s' → IsSet kk s'.heap S L → Came ks L → (∀ b o, h0.get? b = some o → s'.heap.get? b = some o) → R (.ok (.ret .none)) s') →
      codeAny (model P w) A (.builtin "set.update.loop" ⟨[.ref S, .ref I], []⟩) R s := by
  have outW : S ∉ wr := fun h => out (W.sub _ h)
  have wider : ∀ b ∈ wr, b ∈ S :: wr := fun b hb => List.mem_cons_of_mem _ hb
  have kept : ∀ {s s' : Shared}, Moved wr G s s' → (∀ b o, h0.get? b = some o → s.heap.get? b = some o) → ∀ b o, h0.get? b = some o → s'.heap.get? b = some o := fun hm hk b o e => hm.heap b o (fun hb => by rw [noW b hb] at e; cases e) (hk b o e)
  intro m
  induction m with
  | zero =>
    intro i s him hst hk ⟨L, hS, g⟩ hR
    obtain rfl : i = n := him
    refine codeAny_builtin F.entry_set_update_loop ?_
    rw [Around.under_plainId F.plain_set_update_loop _]
    show wpAny _ A.in1 (pyNext (.ref I) >>= _) _ _ s
    refine wpAny_bind (W.done s _ _ hst fun s' hm => ?_)
    show wpAny _ A.in1 (ret Value.none) _ _ s'
    have hk' := kept hm hk
    rw [hn, List.take_length] at g
    exact wpAny_pure (hR s' L (hm.mono wider) (hS.up (fun o e => hm.heap S o outW e) fun p hp => key_up (keys p (g.sub p hp)) hk') g hk')
  | succ m ih =>
    intro i s him hst hk ⟨L, hS, g⟩ hR
    refine codeAny_builtin F.entry_set_update_loop ?_
    rw [Around.under_plainId F.plain_set_update_loop _]
    show wpAny _ A.in1 (pyNext (.ref I) >>= _) _ _ s
    refine wpAny_bind (W.item i s _ _ (by omega) hst fun v s' hv hst' hm => ?_)
    obtain ⟨p, hp, rfl⟩ := vals i v hv
    have hk' := kept hm hk
    obtain ⟨o, es, ep, t, S1⟩ := hS.up (h' := s'.heap) (fun o e => hm.heap S o outW e) fun z hz => key_up (keys z (List.mem_of_mem_take (g.sub z hz))) hk'
    have hx : kk.kd.is s'.heap p.2 p.1 := key_up (keys p (List.mem_of_getElem? hp)) hk'
    show wpAny _ A.in1 (holding [Value.ref p.1] (setAdd S (.ref p.1)) >>= _) _ _ s'
    refine wpAny_bind (wpAny_holding ?_)
    unfold setAdd
    refine wpAny_holding (wpAny_bind (kk.kd.pyHash hr hx ?_))
    have gl := g.len
    rw [List.length_take] at gl
    refine add (s := { s' with toks := s'.toks + kk.kd.draws p.2 }) S1 hx hr (by omega) fun b h' L' o' es' ep' t' sb S2 ch => ?_
    have g2 : Came (ks.take (i + 1)) L' := by
      rw [List.take_succ, hp]
      exact g.snoc ch
    have hk2 : ∀ b o, h0.get? b = some o → h'.get? b = some o := fun b o e => (sb.2 b (fun z => by rw [z, noS] at e; cases e)).trans (hk' b o e)
    refine wpAny_pure ⟨plainId_quiet F.plain_set_update_loop _, ih (i + 1) _ (by omega) (W.frame _ s' _ _ hst' (Nat.le_add_right _ _) fun b hb o e => ?_) hk2 ⟨L', ⟨_, _, _, _, S2⟩, g2⟩ fun s'' L2 hm2 S3 g3 hk3 => ?_⟩
    · exact (sb.2 b (fun z => out (z ▸ hb))).trans e
    · refine hR s'' L2 (Moved.trans W.gtrans ((hm.mono wider).then_heap (Nat.le_add_right _ _) fun b o hb e => ?_) hm2) S3 g3 hk3
      exact (sb.2 b (fun z => hb (z ▸ List.mem_cons_self))).trans e

set_option maxHeartbeats 3200000 in
theorem set_list {l : Addr} {items : Array Value} (ks : List (Addr × K)) {Q : Value → Shared → Prop} (hh : A.handled = none) (hl : s.heap.IsList l items) (hit : items.toList = ks.map fun p => Value.ref p.1)
    (keys : ∀ p ∈ ks, kk.kd.is s.heap p.2 p.1) (few : ks.length < 64) (hr : ∀ A', A'.units ≤ A.units + 8 → kk.kd.room A')
    (h : ∀ (h' : Heap) (tk : Nat) L, IsSet kk h' s.heap.objs.size L → Came ks L → (∀ b o, s.heap.get? b = some o → h'.get? b = some o) → Q (.ref s.heap.objs.size) { s with heap := h', toks := tk }) :
    wpAny (model P w) A (call (.type "set") [.ref l]) Q E s := by
  have isz : items.size = ks.length := by rw [← Array.length_toList, hit, List.length_map]
  obtain ⟨c0, tl0, hmro⟩ := F.called_set.mro
  have k1 := F.called_set.made
  have k2 := F.called_set.sub
  refine wpAny_call (codeAny_of_tree ?_)
  show wpAny _ _ (callAny (.type "set") _) _ _ _
  refine wpAny_pure ⟨Code.quiet_builtin _ (by decide +kernel), codeAny_builtin F.entry_type_call ?_⟩
  rw [Around.under_plain (weight_type_call_type "set" [.ref l] []) rfl]
  have k3 := F.called_set.notType
  have k4 := F.called_set.canCreate
  have k5 := F.typeCall_set_1 (.ref l)
  repeat (any_goals (first | assumption | wp_step))
  refine codeAny_mono (code_set_led1 (.ref l) (E := E) (Q₁ := fun obj s₁ => obj = .ref s.heap.objs.size ∧ s₁ = { s with heap := Rs.withSet w s.heap }) ⟨rfl, rfl⟩) fun r s₁ hr' => ?_
  match r, hr' with
  | .error e, hr' => exact hr'
  | .ok (.next), hr' => exact hr'.elim
  | .ok (.brk), hr' => exact hr'.elim
  | .ok (.cont), hr' => exact hr'.elim
  | .ok (.ret obj), hr' =>
    obtain ⟨rfl, rfl⟩ := hr'
    have atS : (Rs.withSet w s.heap).get? s.heap.objs.size = some { cls := .type "set", dict := none, data := .set #[] 0 (.fresh 0 0 (!w.params.followText "set-order")) } := Heap.get?_push_size _ rfl
    have tyS : Shared.TypeIs { s with heap := Rs.withSet w s.heap } (.ref s.heap.objs.size) "set" := ⟨_, atS, rfl⟩
    have k6 := F.called_set.init.lookup
    have k7 := F.called_set.init.bind (.ref s.heap.objs.size)
    repeat (any_goals (first | assumption | wp_step))
    refine codeAny_mono (codeAny_call_builtin (R := wants (fun r s₂ => r = .none ∧ ∃ h' tk L, s₂ = { s with heap := h', toks := tk } ∧ IsSet kk h' s.heap.objs.size L ∧ Came ks L ∧
        (∀ b o, s.heap.get? b = some o → h'.get? b = some o)) E) F.called_set.init.plain F.entry_set_init (check_set_init_1 tyS ?_)) fun r₂ s₂ hr₂ => ?_
    · obtain ⟨⟨oc, od, odt, osl⟩, hol, hcl, nl, hdl⟩ := hl
      obtain rfl : oc = .type "list" := hcl
      obtain rfl : odt = .seq items nl := hdl
      have up1 : ∀ b o, s.heap.get? b = some o → (Rs.withSet w s.heap).get? b = some o := fun b o e => Heap.get?_push_of_some _ e
      have hol' := up1 _ _ hol
      have k8 := F.sub_list_set
      have k9 := F.sub_list_frozenset
      have k10 : (Value.type "list" == Value.type "dict") = false := by decide
      have isL : (Rs.withSet w s.heap).IsList l items := ⟨_, hol', rfl, nl, rfl⟩
      have sz1 : (Rs.withSet w s.heap).objs.size = s.heap.objs.size + 1 := Heap.size_push ..
      unfold Builtin.«set.__init__» noKeywords Builtin.Frozenset.updateFrom
      generalize hPI : pyIter = PI
      wp_walk
      subst hPI
      refine wpAny_pyIter_list isL ?_
      refine wpAny_bind (wpAny_runValue ?_)
      have lS : l < s.heap.objs.size := Heap.lt_size hol
      have hh3 : A.in1.in1.in1.handled = none := hh
      have neI : l ≠ (Rs.withSet w s.heap).objs.size := by rw [sz1]; exact Nat.ne_of_lt (Nat.lt_succ_of_lt lS)
      have nfp : s.heap.objs.size ∉ [(Rs.withSet w s.heap).objs.size, l] := by
        rw [sz1]
        simp only [List.mem_cons, List.not_mem_nil, or_false, not_or]
        exact ⟨Nat.ne_of_lt (Nat.lt_succ_self _), Nat.ne_of_gt lS⟩
      have vals : ∀ (i : Nat) (v : Value), items[i]? = some v → ∃ p, ks[i]? = some p ∧ v = .ref p.1 := fun i v hv => by
        rw [← Array.getElem?_toList, hit, List.getElem?_map] at hv
        obtain ⟨p, hp, e⟩ := Option.map_eq_some_iff.mp hv
        exact ⟨p, hp, e.symm⟩
      have gone : ∀ b, s.heap.objs.size ≤ b → s.heap.get? b = none := fun b hb => by
        cases q : s.heap.get? b with
        | none => rfl
        | some o => exact absurd (Nat.lt_of_lt_of_le (Heap.lt_size q) hb) (Nat.lt_irrefl _)
      refine loop ((Walks.list hh3 _ l neI items).toS) s.heap.objs.size nfp ks isz few vals s.heap keys (gone _ (Nat.le_refl _)) (fun b hb => gone b ?_) (hr _ ?_) items.size 0 _ (Nat.zero_add _)
        ⟨⟨_, Heap.get?_push_size _ rfl, rfl, rfl⟩, (isL.push _)⟩ (fun b o e => Heap.get?_push_of_some _ (up1 b o e)) ?S0 ?S1
      · rw [List.mem_singleton.mp hb, sz1]; exact Nat.le_succ _
      · simp only [Around.in1_units]; omega
      case S0 => exact ⟨[], isSet_new (Heap.get?_push_of_some _ atS), ⟨fun p hp => (nomatch hp), fun k => (by simp), Nat.zero_le _⟩⟩
      case S1 =>
        intro s' L hm S1 g hk
        obtain ⟨h', g2, d', tk', os'⟩ := s'
        obtain rfl : g2 = s.gens := hm.gens
        obtain rfl : d' = s.drawn := hm.drawn
        obtain rfl : os' = s.os := hm.os
        show wpAny _ _ _ _ _ _
        refine wpAny_pure ?_
        show wpAny _ _ (ret Value.none) _ _ _
        exact wpAny_pure ⟨rfl, h', tk', L, rfl, S1, g, hk⟩
    · match r₂, hr₂ with
      | .error e, hr₂ => exact hr₂
      | .ok (.next), hr₂ => exact hr₂.elim
      | .ok (.brk), hr₂ => exact hr₂.elim
      | .ok (.cont), hr₂ => exact hr₂.elim
      | .ok (.ret r), hr₂ =>
        obtain ⟨rfl, h', tk, L, rfl, S1, g, hk⟩ := hr₂
        repeat (any_goals (first | assumption | wp_step))
        exact h _ _ _ S1 g hk
end
end
end Sn

/-! Sn3: keys that are whole numbers, truths, None and tuples of such, nested. -/
namespace Sn
open PySem PySem.Spec PyProof.Rows L2
variable [Rs.Tabz]
mutual
/-- no text within -/
def calm : NestedKey → Bool
  | .none => true
  | .num _ => true
  | .text _ => false
  | .tup ks => calmAll ks
def calmAll : List NestedKey → Bool
  | [] => true
  | k :: ks => calm k && calmAll ks
end
section
variable {P : Program} {w : World}
def NoAt (P : Program) (w : World) (n : Nat) (s : Shared) (v : Value) : Prop := ∀ (A : Around) (E : Value → Shared → Prop) (Q : Bool → Shared → Prop), Q false s → wpAny (model P w) A (ofAClassStatement n v) Q E s
def ByAt (P : Program) (w : World) (n : Nat) (s : Shared) (v : Value) : Prop := ∀ (A : Around) (E : Value → Shared → Prop) (Q : Bool → Shared → Prop), Q true s → wpAny (model P w) A (hashByValue n v) Q E s
theorem noAt_val {n : Nat} {s : Shared} {v : Value} (h : ofAClassStatement n v = pure false) : NoAt P w n s v := fun A E Q q => by
  rw [h]; exact wpAny_pure q
theorem byAt_val {n : Nat} {s : Shared} {v : Value} (h : hashByValue n v = pure true) : ByAt P w n s v := fun A E Q q => by
  rw [h]; exact wpAny_pure q
theorem noAt_tup {n m : Nat} {s : Shared} {a : Addr} {o : Obj} {vs : Array Value} (ho : s.heap.get? a = some o) (hc : o.cls = .type "tuple") (hd : o.data = .seq vs m) (hv : ∀ v ∈ vs.toList, NoAt P w n s v) : NoAt P w (n + 1) s (.ref a) := fun A E Q q => by
  have ty : s.TypeIs (.ref a) "tuple" := ⟨o, ho, hc⟩
  have isT : (("tuple" : String) == "tuple") = true := by decide
  unfold ofAClassStatement
  refine wpAny_bind (wpAny_typeOf ty ?_)
  dsimp only
  simp only [isT, if_true, Bool.not_true, Bool.false_eq_true, if_false]
  try refine wpAny_bind (wpAny_pure ?_)
  try simp only [Bool.not_true, Bool.false_eq_true, if_false]
  show wpAny _ _ (seqItems? (.ref a) >>= _) _ _ s
  refine wpAny_bind (wpAny_seqItems ho hd ?_)
  dsimp only
  refine wpAny_bind ?_
  show wpAny _ _ (forIn vs _ _) _ _ s
  rw [← Array.forIn_toList]
  refine wpAny_forIn_list _ (fun left r s' => (r.1 = none ∧ s' = s) ∧ ∀ v ∈ left, NoAt P w n s v) _ (fun v left r s' H => ?_) (fun r s' H => ?_) _ _ ⟨⟨rfl, rfl⟩, hv⟩
  · obtain ⟨⟨h1, rfl⟩, h2⟩ := H
    refine wpAny_bind (h2 v List.mem_cons_self _ _ _ ?_)
    simp only [Bool.false_eq_true, if_false]
    exact wpAny_pure ⟨⟨rfl, rfl⟩, fun u hu => h2 u (List.mem_cons_of_mem _ hu)⟩
  · obtain ⟨r1, r2⟩ := r
    obtain ⟨⟨h1, rfl⟩, _⟩ := H
    simp only at h1
    subst h1
    exact wpAny_pure q
theorem byAt_tup {n m : Nat} {s : Shared} {a : Addr} {o : Obj} {vs : Array Value} (ho : s.heap.get? a = some o) (hc : o.cls = .type "tuple") (hd : o.data = .seq vs m) (hv : ∀ v ∈ vs.toList, ByAt P w n s v) : ByAt P w (n + 1) s (.ref a) := fun A E Q q => by
  have ty : s.TypeIs (.ref a) "tuple" := ⟨o, ho, hc⟩
  unfold hashByValue
  refine wpAny_bind (wpAny_specialOf ty F.slot_tuple_hash.lookup ?_)
  show wpAny _ _ (seqItems? (.ref a) >>= _) _ _ s
  refine wpAny_bind (wpAny_seqItems ho hd ?_)
  refine wpAny_bind ?_
  show wpAny _ _ (forIn vs _ _) _ _ s
  rw [← Array.forIn_toList]
  refine wpAny_forIn_list _ (fun left r s' => (r.1 = none ∧ s' = s) ∧ ∀ v ∈ left, ByAt P w n s v) _ (fun v left r s' H => ?_) (fun r s' H => ?_) _ _ ⟨⟨rfl, rfl⟩, hv⟩
  · obtain ⟨⟨h1, rfl⟩, h2⟩ := H
    refine wpAny_bind (h2 v List.mem_cons_self _ _ _ ?_)
    simp only [Bool.not_true, Bool.false_eq_true, if_false]
    exact wpAny_pure ⟨⟨rfl, rfl⟩, fun u hu => h2 u (List.mem_cons_of_mem _ hu)⟩
  · obtain ⟨r1, r2⟩ := r
    obtain ⟨⟨h1, rfl⟩, _⟩ := H
    simp only at h1
    subst h1
    exact wpAny_pure q
mutual
theorem no_key : ∀ (k : NestedKey) (v : Value) (n : Nat) (s : Shared), NestedIs s.heap k v → k.depth ≤ n → NoAt P w n s v
  | .none, _, n, s, x, _ => by cases x; exact noAt_val (by cases n <;> rfl)
  | .num i, _, n, s, x, _ => by cases x <;> exact noAt_val (by cases n <;> rfl)
  | .text y, _, n, s, x, _ => by cases x; exact noAt_val (by cases n <;> rfl)
  | .tup ks, _, 0, s, x, h => by simp [NestedKey.depth] at h
  | .tup ks, _, n + 1, s, x, h => by
    cases x with
    | tup h1 h2 h3 h4 =>
      simp only [NestedKey.depth] at h
      exact noAt_tup h1 h2 h3 (no_keys ks _ n s h4 (by omega))
theorem no_keys : ∀ (ks : List NestedKey) (vs : List Value) (n : Nat) (s : Shared), NestedAll s.heap ks vs → NestedKey.depthAll ks ≤ n → ∀ v ∈ vs, NoAt P w n s v
  | [], _, n, s, x, _, v, hv => by cases x; cases hv
  | k :: ks, _, n, s, x, h, v, hv => by
    simp only [NestedKey.depthAll] at h
    cases x with
    | cons x1 x2 =>
      rcases List.mem_cons.mp hv with rfl | hv
      · exact no_key k _ n s x1 (by omega)
      · exact no_keys ks _ n s x2 (by omega) v hv
end
mutual
theorem by_key : ∀ (k : NestedKey) (v : Value) (n : Nat) (s : Shared), NestedIs s.heap k v → k.depth ≤ n → calm k = true → ByAt P w n s v
  | .none, _, n, s, x, _, _ => by cases x; exact byAt_val (by cases n <;> rfl)
  | .num i, _, n, s, x, _, _ => by cases x <;> exact byAt_val (by cases n <;> rfl)
  | .text y, _, n, s, x, _, hc => by cases hc
  | .tup ks, _, 0, s, x, h, _ => by simp [NestedKey.depth] at h
  | .tup ks, _, n + 1, s, x, h, hc => by
    cases x with
    | tup h1 h2 h3 h4 =>
      simp only [NestedKey.depth] at h
      exact byAt_tup h1 h2 h3 (by_keys ks _ n s h4 (by omega) hc)
theorem by_keys : ∀ (ks : List NestedKey) (vs : List Value) (n : Nat) (s : Shared), NestedAll s.heap ks vs → NestedKey.depthAll ks ≤ n → calmAll ks = true → ∀ v ∈ vs, ByAt P w n s v
  | [], _, n, s, x, _, _, v, hv => by cases x; cases hv
  | k :: ks, _, n, s, x, h, hc, v, hv => by
    simp only [NestedKey.depthAll] at h
    simp only [calmAll, Bool.and_eq_true] at hc
    cases x with
    | cons x1 x2 =>
      rcases List.mem_cons.mp hv with rfl | hv
      · exact by_key k _ n s x1 (by omega) hc.1
      · exact by_keys ks _ n s x2 (by omega) hc.2 v hv
end
/-- the kind of keys of which sets are made here -/
def nk (P : Program) (w : World) : SKind P w NestedKey where
  kd := { nestedKind P w with
    is := fun h k a => (nestedKind P w).is h k a ∧ calm k = true
    inj := fun hx hy => (nestedKind P w).inj hx.1 hy.1
    keeps := fun x ho hd hs => ⟨(nestedKind P w).keeps x.1 ho hd hs, x.2⟩
    pyHash := fun hu hk h => (nestedKind P w).pyHash hu hk.1 h
    eqBool := fun hu hx hy h => (nestedKind P w).eqBool hu hx.1 hy.1 h
    quiet := fun hk h => (nestedKind P w).quiet hk.1 h }
  noClass := fun {A E s k a Q} hk h => no_key k _ 8 s hk.1.1 hk.1.2 A E Q h
  byVal := fun {A E s k a Q} hk h => by_key k _ 8 s hk.1.1 hk.1.2 hk.2 A E Q h
  stay := fun {h h' k a} hk up => ⟨⟨NestedIs.at up k _ hk.1.1, hk.1.2⟩, hk.2⟩
end
/-! a value that reads as the data of a key is this key -/
section
variable {X : Cx} {pins : List (Addr × Obj)} {σ : L2.St} {H : Hp} {s : Shared}
end
end Sn

/-! Sn4: sets of nested keys as things; set(a list), len. -/
namespace Sn
open PySem PySem.Spec PyProof.Rows L2 SlX StX Rs Ma
variable [Rs.Tabz]
abbrev Ad := Addr × NestedKey
/-- what a set is, told of its own object alone -/
def S0 (P : Program) (w : World) (L : List Ad) (a : Addr) (h : Heap) : Prop := ∃ o es ep t, h.get? a = some o ∧ o.ExactSet ∧ o.data = .set es ep t ∧ es.toList = L.map (row1 (nk P w)) ∧ TabOk t (L.map (hs (nk P w))) ∧ (L.map (·.2)).Nodup ∧ t.plain = true ∧
  (w.params.followText "set-order" = true ∨ t.led = true) ∧ L.length * 5 < t.mask * 3 ∧ L.length < 64
def setN (P : Program) (w : World) (L : List Ad) (a : Addr) : HO := .ext (S0 P w L a)
section
variable {P : Program} {w : World} {h : Heap} {H : Hp} {a : Addr} {L : List Ad}
theorem IsSet.s0 (R : IsSet (nk P w) h a L) : S0 P w L a h := by
  obtain ⟨o, es, ep, t, R⟩ := R
  exact ⟨o, es, ep, t, R.at', R.exact', R.data, R.rows, R.tab, R.nd, R.plain, R.led, R.room, R.few⟩
end
section
variable {X : Cx}
variable {e : Expr} {es : List Expr} {t : TA} {p pos : Pos}
end
end Sn

/-! Sn5: sets of nested keys in plain terms. -/
namespace Tw
open PySem PySem.Spec PyProof.Rows L2 SlX StX Rs Ma Sn
variable [Rs.Tabz]
/-- data that are keys -/
class Keyd {α : Type} (d : α → PyData) (n : outParam Nat) where
  key : α → NestedKey
  ok : ∀ a, (key a).data = d a
  quiet : ∀ a, calm (key a) = true
  dep : ∀ a, (key a).depth ≤ n
  inj : ∀ a b, key a = key b → a = b
theorem key_map_inj {α : Type} {f : α → NestedKey} (h : ∀ a b, f a = f b → a = b) : ∀ {xs ys : List α}, xs.map f = ys.map f → xs = ys
  | [], [], _ => rfl
  | [], _ :: _, e => nomatch e
  | _ :: _, [], e => nomatch e
  | x :: xs, y :: ys, e => by
    rw [List.map_cons, List.map_cons] at e
    injection e with e1 e2
    rw [h _ _ e1, key_map_inj h e2]
theorem datas_map {α : Type} {f : α → NestedKey} {d : α → PyData} (h : ∀ a, (f a).data = d a) : ∀ xs : List α, NestedKey.datas (xs.map f) = xs.map d
  | [] => rfl
  | x :: xs => by rw [List.map_cons, List.map_cons, NestedKey.datas, h, datas_map h xs]
theorem calm_map {α : Type} {f : α → NestedKey} (h : ∀ a, calm (f a) = true) : ∀ xs : List α, calmAll (xs.map f) = true
  | [] => rfl
  | x :: xs => by rw [List.map_cons, calmAll, h, calm_map h xs]; rfl
theorem dep_map {α : Type} {f : α → NestedKey} {n : Nat} (h : ∀ a, (f a).depth ≤ n) : ∀ xs : List α, NestedKey.depthAll (xs.map f) ≤ n
  | [] => Nat.zero_le _
  | x :: xs => by
    rw [List.map_cons, NestedKey.depthAll]
    exact Nat.max_le.mpr ⟨h x, dep_map h xs⟩
instance : Keyd dN 0 := ⟨fun n => .num (n : Nat), fun _ => rfl, fun _ => rfl, fun _ => Nat.le_refl _, fun a b e => by injection e with e; omega⟩
instance : Keyd dInt 0 := ⟨fun n => .num n, fun _ => rfl, fun _ => rfl, fun _ => Nat.le_refl _, fun a b e => by injection e⟩
instance keydT {α : Type} {d : α → PyData} {n : Nat} [c : Keyd d n] : Keyd (dT d) (n + 1) := ⟨fun xs => .tup (xs.map c.key), fun xs => by rw [NestedKey.data, datas_map c.ok]; rfl, fun xs => by rw [calm]; exact calm_map c.quiet xs, fun xs => by
  rw [NestedKey.depth]
  exact Nat.succ_le_succ (dep_map c.dep xs), fun a b e => by injection e with e; exact key_map_inj c.inj e⟩
/-- each once -/
def dd {α : Type} [DecidableEq α] : List α → List α
  | [] => []
  | x :: xs => if x ∈ xs then dd xs else x :: dd xs
/-- a set of such data -/
def fSK (K : PySem.W.Frag) (P : Program) (w : World) {α : Type} (d : α → PyData) {n : Nat} [c : Keyd d n] : List α → VP := fun xs v F => ∃ a L, v = .ref a ∧ F a = some (setN P w L a) ∧ (L.map (·.2)).Nodup ∧ (∀ k, k ∈ L.map (·.2) ↔ k ∈ xs.map c.key) ∧ ∀ z ∈ L, Dp K F (.ref z.1) z.2.data
instance {K : PySem.W.Frag} {P : Program} {w : World} {α : Type} {d : α → PyData} {n : Nat} [Keyd d n] {xs : List α} : Mono (fSK K P w d xs) := ⟨fun _ _ _ e ⟨a, L, h, h1, r1, r2, r3⟩ => ⟨a, L, h, e _ _ h1, r1, r2, fun z hz => dp_up e (r3 z hz)⟩⟩
section
variable {ε : Type} {K : PySem.W.Frag} {P : Program} {w : World} {α : Type} {d : α → PyData} {n : Nat}
end
end Tw

/-! Sn6: dicts by nested keys: d[k], k in d, d[k] = v within comprehensions. -/
namespace Sn
open PySem PySem.Spec PyProof.Rows L2 SlX StX Rs Ma
variable [Rs.Tabz]
abbrev Ent := NestedKey × Addr × V
def EntR (p : Ent) (q : NestedKey × Addr × Value) : Prop := p.1 = q.1 ∧ p.2.1 = q.2.1 ∧ RelV p.2.2 q.2.2
/-- what a dict is, told of its own object alone -/
def D0 (P : Program) (w : World) (zs : List Ent) (D : Addr) (h : Heap) : Prop := (D == sysModules) = false ∧ zs.length ≤ 100000 ∧ ∃ ys : List (NestedKey × Addr × Value), Paired EntR zs ys ∧ ∃ o es ep, h.get? D = some o ∧ o.ExactDict ∧ o.data = .dict es ep ∧ es.toList = ys.map (entryOfKey (nestedKind P w)) ∧ (ys.map (·.1)).Nodup
def dictN (P : Program) (w : World) (zs : List Ent) (D : Addr) : HO := .ext (D0 P w zs D)
def atN (zs : List Ent) (k : NestedKey) : Option (Addr × V) := (zs.find? fun z => decide (z.1 = k)).map (·.2)
def putN (zs : List Ent) (k : NestedKey) (a : Addr) (v : V) : List Ent := if (atN zs k).isSome then zs.map (fun z => if z.1 = k then (z.1, z.2.1, v) else z) else zs ++ [(k, a, v)]
/-- a key is here -/
def KeyAt (K : PySem.W.Frag) (H : Hp) (k : NestedKey) (a : Addr) : Prop := Dp K H (.ref a) k.data ∧ k.depth ≤ 8
section
variable {P : Program} {w : World} {h h' : Heap} {H : Hp} {D : Addr} {zs : List Ent}
end
section
variable {X : Cx} {pins : List (Addr × Obj)} {σ : L2.St} {H : Hp} {s : Shared} {D a : Addr} {k : NestedKey} {zs : List Ent} {E : Value → Shared → Prop} {v : V} {u : Value}
end
end Sn

/-! Sn7: {k: v for ..} with nested keys. -/
namespace Sn
open PySem PySem.Spec PyProof.Rows L2 SlX StX Rs Ma
variable [Rs.Tabz]
/-- what a turn of such a comprehension needs and leaves -/
def Turn (K : PySem.W.Frag) (P : Program) (w : World) (tt : TT) (tk tv : TE) (D : Addr) (Nx : Hp → Prop) : L2.St → Hp → Prop := fun τ H2 => tt τ H2 fun b H3 =>
  if b = true then tk τ H3 fun y H4 => tv τ H4 fun z H5 => ∃ a zs k, y = .ref a ∧ H5 D = some (dictN P w zs D) ∧ (∀ e ∈ zs, KeyAt K H5 e.1 e.2.1) ∧ KeyAt K H5 k a ∧ zs.length < 100000 ∧ Nx (upd H5 D (dictN P w (putN zs k a z) D)) else Nx H3
section
variable {X : Cx}
end
end Sn

/-! Sn8: dicts by nested keys in plain terms. -/
namespace Tw
open PySem PySem.Spec PyProof.Rows L2 SlX StX Rs Ma Sn
variable [Rs.Tabz]
/-- a dict in plain terms: its pairs, as they came -/
def putA {α β : Type} [DecidableEq α] : List (α × β) → α → β → List (α × β)
  | [], a, b => [(a, b)]
  | p :: ps, a, b => if p.1 = a then (p.1, b) :: ps else p :: putA ps a b
def getA {α β : Type} [DecidableEq α] : List (α × β) → α → Option β
  | [], _ => none
  | p :: ps, a => if p.1 = a then some p.2 else getA ps a
def putsA {α β : Type} [DecidableEq α] : List (α × β) → List (α × β) → List (α × β)
  | kvs, [] => kvs
  | kvs, p :: ps => putsA (putA kvs p.1 p.2) ps
/-- the entries say these pairs -/
def EntAll (K : PySem.W.Frag) {α β : Type} (d : α → PyData) {n : Nat} [c : Keyd d n] (R : β → VP) : List Ent → List (α × β) → Hp → Prop
  | [], [], _ => True
  | z :: zs, p :: ps, F => (z.1 = c.key p.1 ∧ KeyAt K F z.1 z.2.1 ∧ R p.2 z.2.2 F) ∧ EntAll K d R zs ps F
  | _, _, _ => False
theorem dictN_ne {P : Program} {w : World} {zs : List Ent} {D : Addr} (c : Addr) (q : Str) : dictN P w zs D ≠ CodeT c q := codeT_ne fun h ⟨_, _, _, _, o, es, ep, h1, _, h2, _⟩ => ⟨D, o, h1, fun vs z => by rw [h2] at z; cases z⟩
section
variable {K : PySem.W.Frag} {P : Program} {w : World} {α β : Type} [DecidableEq α] {d : α → PyData} {n : Nat} [c : Keyd d n] {R : β → VP} {F F' : Hp}
theorem keyAt_up {k : NestedKey} {a : Addr} (e : Same F F') (h : KeyAt K F k a) : KeyAt K F' k a := ⟨dp_up e h.1, h.2⟩
theorem entAll_up [∀ b, Mono (R b)] (e : Same F F') : ∀ {zs : List Ent} {ps : List (α × β)}, EntAll K d R zs ps F → EntAll K d R zs ps F'
  | [], [], _ => True.intro
  | z :: zs, p :: ps, ⟨⟨h1, h2, h3⟩, h4⟩ => ⟨⟨h1, keyAt_up e h2, Mono.mono _ _ _ e h3⟩, entAll_up e h4⟩
  | [], _ :: _, h => h.elim
  | _ :: _, [], h => h.elim
theorem putA_nodup {a : α} {b : β} : ∀ {ps : List (α × β)}, (ps.map (·.1)).Nodup → ((putA ps a b).map (·.1)).Nodup ∧ ∀ x, x ∈ (putA ps a b).map (·.1) → x = a ∨ x ∈ ps.map (·.1)
  | [], _ => ⟨by simp [putA], fun x hx => by simp [putA] at hx; exact .inl hx⟩
  | p :: ps, h => by
    rw [List.map_cons, List.nodup_cons] at h
    unfold putA
    split
    · rename_i e
      exact ⟨by rw [List.map_cons]; exact List.nodup_cons.mpr h, fun x hx => .inr hx⟩
    · rename_i e
      obtain ⟨h1, h2⟩ := putA_nodup (a := a) (b := b) h.2
      refine ⟨by rw [List.map_cons]; exact List.nodup_cons.mpr ⟨fun z => (h2 _ z).elim (fun q => e q) h.1, h1⟩, fun x hx => ?_⟩
      rw [List.map_cons, List.mem_cons] at hx
      rcases hx with rfl | hx
      · exact .inr List.mem_cons_self
      · exact (h2 x hx).imp id (List.mem_cons_of_mem _)
end
theorem rd_up {F F' : Hp} {a : Addr} {u : HO} (e : Same F F') (h : Rd F a u) : Rd F' a u := h.imp (fun h => e _ _ h) fun ⟨o, h⟩ => ⟨o, e _ _ h⟩
/-- a dict that stays -/
def fDK (K : PySem.W.Frag) (P : Program) (w : World) {α β : Type} [DecidableEq α] (d : α → PyData) {n : Nat} [c : Keyd d n] (R : β → VP) : List (α × β) → VP := fun kvs v F => ∃ D zs, v = .ref D ∧ Rd F D (dictN P w zs D) ∧ EntAll K d R zs kvs F ∧ (kvs.map (·.1)).Nodup
instance {K : PySem.W.Frag} {P : Program} {w : World} {α β : Type} [DecidableEq α] {d : α → PyData} {n : Nat} [Keyd d n] {R : β → VP} [∀ b, Mono (R b)] {kvs : List (α × β)} : Mono (fDK K P w d R kvs) := ⟨fun _ _ _ e ⟨D, zs, h, h1, r, n⟩ => ⟨D, zs, h, rd_up e h1, entAll_up e r, n⟩⟩
section
variable {ε α β γ δ : Type} {Z : Wsh ε} {ρ : List (Option VP)} {κ : List Ow} {K : PySem.W.Frag} {P : Program} {w : World} {tk tv : TE} {tt : TT} {wi : TI} {g : TG} {n : Nat} {d : α → PyData} [DecidableEq α] [c : Keyd d n] {Rb : β → VP} {R : β → VP}
end
end Tw

/-! RsW: own __getitem__, own __iter__ that hands out iter of a tuple. -/
namespace Rs
open PySem PySem.Spec PyProof.Rows L2 SlX StX Ma
variable [Rs.Tabz]
section
variable {X : Cx} {CX : CXT} {C g : Addr} {n : Nat} {sp : Sp} {E : XK}
end
section
variable {X : Cx} {k j : Nat} {C : Addr} {sp : Sp}
end

/-! ### iter of a tuple, as a value -/
section
variable {X : Cx}
variable {e : Expr} {t : TA} {p pos : Pos}
end
end Rs

/-! Tx0: own items, own iteration, slices, lists * int, objects being made. -/
namespace Tw
open PySem PySem.Spec PyProof.Rows L2 SlX StX Rs Ma Sn
variable [Rs.Tabz]
section
variable {ε α β γ δ : Type} {Z : Wsh ε} {ρ : List (Option VP)} {κ : List Ow} {K : PySem.W.Frag} {te ta tb ti : TE} {C : Addr} {Ra R : α → VP} {Rb : β → VP} {Rc : γ → VP} {ma : Wm ε α} {ml : Wm ε (List α)} {i : Nat} {E : XK}
/-! own items -/
/-! own iteration -/
/-! slices -/
structure TrO (Z : Wsh ε) (ρ : List (Option VP)) (κ : List Ow) (to : TO) (m : Wm ε (Option Nat)) : Prop where
  run : ∀ σ F L, SatV ρ σ F → SatC κ σ F L → ∀ Q X, m Q X → RunW Z (to σ) F L (fun o _ => ∃ k : Option Nat, Q k ∧ o = k.map fun n => (n : Int)) X
theorem to_no : TrO Z ρ κ tNoPart (pur none) := ⟨fun σ F L s c Q X q => .of fun F1 N H e A Qk qk => qk none F1 H (Same.refl _) A ⟨none, q, rfl⟩⟩
theorem to_some {m : Wm ε Nat} (h : TrE Z ρ κ te m (fD K dN)) : TrO Z ρ κ (tPart te) (fun Q X => m (fun n => Q (some n)) X) :=
  ⟨fun σ F L s c Q X q => rw_bind (k := te σ) (k2 := fun x H Q => ∃ i, x = .int i ∧ Q (some i) H) (h.run σ F L s c _ X q) fun x F1 e1 ⟨n, q1, hx⟩ => .of fun F2 N H e A Qk qk => by
    cases hx
    exact ⟨(n : Int), rfl, qk _ F2 H (Same.refl _) A ⟨some n, q1, rfl⟩⟩⟩
/-- xs[lo:hi] -/
def cutL (xs : List α) (lo hi : Option Nat) : List α := (xs.take (hi.getD xs.length)).drop (lo.getD 0)
theorem cut_eq {xs : List V} {lo hi : Option Nat} : cutV xs (lo.map fun n => (n : Int)) (hi.map fun n => (n : Int)) = cutL xs lo hi := by
  have e1 : HT.sIx xs.length 0 (lo.map fun n => (n : Int)) = min (lo.getD 0) xs.length := by
    cases lo with
    | none => show (0 : Nat) = min 0 xs.length; omega
    | some n => exact HT.sIx_nat _ _ _
  have e2 : HT.sIx xs.length xs.length (hi.map fun n => (n : Int)) = min (hi.getD xs.length) xs.length := by
    cases hi with
    | none => show xs.length = min xs.length xs.length; omega
    | some n => exact HT.sIx_nat _ _ _
  unfold cutV cutL
  rw [e1, e2, List.drop_take]
  apply List.ext_getElem?
  intro n
  rw [List.getElem?_take, List.getElem?_take, List.getElem?_drop, List.getElem?_drop]
  by_cases h : lo.getD 0 ≤ xs.length
  · rw [Nat.min_eq_left h]
    by_cases h2 : n < min (hi.getD xs.length) xs.length - lo.getD 0
    · rw [if_pos h2, if_pos (by omega)]
    · rw [if_neg h2]
      split
      · rw [List.getElem?_eq_none (by omega)]
      · rfl
  · rw [if_neg (by omega)]
    split
    · rw [List.getElem?_eq_none (by omega)]
    · rfl
theorem cutL_each {xs : List α} {vs : List V} {F : Hp} {lo hi : Option Nat} (h : Each (xs.map R) vs F) : Each ((cutL xs lo hi).map R) (cutL vs lo hi) F := by
  have hl : vs.length = xs.length := by rw [each_length h, List.length_map]
  have tk : ∀ (n : Nat) (xs : List α) (vs : List V), Each (xs.map R) vs F → Each ((xs.take n).map R) (vs.take n) F := by
    intro n
    induction n with
    | zero => intro xs vs _; exact True.intro
    | succ n ih => intro xs vs h; match xs, vs, h with
      | [], [], _ => exact True.intro
      | x :: xs, v :: vs, h => exact ⟨h.1, ih xs vs h.2⟩
  have dp : ∀ (n : Nat) (xs : List α) (vs : List V), Each (xs.map R) vs F → Each ((xs.drop n).map R) (vs.drop n) F := by
    intro n
    induction n with
    | zero => intro xs vs h; exact h
    | succ n ih => intro xs vs h; match xs, vs, h with
      | [], [], _ => exact True.intro
      | x :: xs, v :: vs, h => exact ih xs vs h.2
  unfold cutL
  rw [hl]
  exact dp _ _ _ (tk _ _ _ h)
theorem tr_slT {tl th : TO} {mlo mhi : Wm ε (Option Nat)} [∀ a, Mono (R a)] (h : TrE Z ρ κ te ml (fTp K R)) (hl : TrO Z ρ κ tl mlo) (hh : TrO Z ρ κ th mhi) :
    TrE Z ρ κ (L2.tSl (rSlA K) te tl th) (fun Q X => ml (fun xs => mlo (fun lo => mhi (fun hi => Q (cutL xs lo hi)) X) X) X) (fTp K R) :=
  ⟨inferInstance, fun σ F L s c Q X q => rw_bind (k := te σ) (h.run σ F L s c _ X q) fun x F1 e1 ⟨xs, q1, hx⟩ => rw_bind (k := tl σ) (hl.run σ F1 L (satV_up e1 s) (satC_up e1 c) _ X q1) fun o1 F2 e2 ⟨lo, q2, hlo⟩ =>
    rw_bind (k := th σ) (k2 := fun o2 H Q => rSlA K x o1 o2 H Q) (hh.run σ F2 L (satV_up (e1.trans e2) s) (satC_up (e1.trans e2) c) _ X q2) fun o2 F3 e3 ⟨hi, q3, hhi⟩ => .of fun F4 N H e A Qk qk => by
      obtain ⟨a, vs, rfl, hs, hr⟩ := id hx
      subst hlo hhi
      have hx4 : Tp K (xs.map R) (.ref a) F4 := Mono.mono (R := Tp K (xs.map R)) _ _ _ ((e2.trans e3).trans e) hx
      have hl : vs.length = xs.length := by rw [each_length hr, List.length_map]
      refine ⟨a, vs, rfl, sqT_up (((e2.trans e3).trans e).trans A.ex) hs, fun hw => ?_, fun _ p hp => ?_⟩
      · have e5 : cutL vs lo hi = vs := by
          rw [← cut_eq]
          unfold cutV
          rw [hw.1, hw.2, List.drop_zero, Nat.sub_zero, List.take_length]
        have e6 : cutL xs lo hi = xs := by
          have hle : (cutL xs lo hi).length = xs.length := by
            have := congrArg List.length e5
            unfold cutL at this ⊢
            rw [List.length_drop, List.length_take] at this ⊢
            rw [hl] at this
            exact this
          unfold cutL at hle ⊢
          rw [List.length_drop, List.length_take] at hle
          have z1 : lo.getD 0 = 0 ∨ xs.length = 0 := by omega
          rcases z1 with z1 | z1
          · rw [z1, List.drop_zero, List.take_of_length_le (by rw [z1] at hle; omega)]
          · rw [List.length_eq_zero_iff.mp z1, List.take_nil, List.drop_nil]
        exact qk _ F4 H (Same.refl _) A ⟨_, q3, by rw [e6]; exact hx4⟩
      · rw [cut_eq]
        exact qk _ (upd F4 p _) _ (same_new (A.free hp)) (A.new hp) ⟨_, q3, p, _, rfl, .inl (.inl upd_same), cutL_each (MonoL.mono _ _ _ (((e2.trans e3).trans e).trans (same_new (A.free hp))) hr)⟩⟩
/-! a list so many times -/
end
/-! ### an object being made -/
section
variable {α : Type} {ρ : List (Option VP)} {K : PySem.W.Frag} {σ : L2.St} {F : Hp} {L : Cells} {Nx : L2.St → Hp → Cells → Prop} {Rt : VP} {u : TS} {tv : TE} {tt : TT} {C a dx : Addr} {f : Str} {i : Nat} {vs : List (Option V)} {o o2 : HO} {R : α → VP} {m : Wm Empty α} {mb : Wm Empty Bool}
end
end Tw

/-! Tx1: isinstance of tuples of objects, of objects. -/
namespace Tw
open PySem PySem.Spec PyProof.Rows L2 SlX StX Rs Ma Sn
variable [Rs.Tabz]
section
variable {ε α : Type} {Z : Wsh ε} {ρ : List (Option VP)} {κ : List Ow} {K : PySem.W.Frag} {C : Addr} {R Ra : α → VP} {F H : Hp}
theorem ty_sqT {a : Addr} {xs : List V} (h : SqT K H a xs) : TyX K H (.ref a) (.type "tuple") := by
  rcases h with (h | ⟨o, h⟩) | ⟨o, its, n, h, hc, _⟩
  · exact .base (.tup h)
  · exact .fTuple h
  · exact .kTuple h hc
theorem tr_clsV : TrE Z ρ κ (tC (.ref C)) (pur ()) fun _ : Unit => Eqv (.ref C) := ⟨fun _ => inferInstance, fun σ F L s c Q X q => .of (run_ret fun F1 e => ⟨(), q, rfl⟩)⟩
end
/-! ### defs that fall off their end -/
section
variable {P : Program} {w : World} {K : PySem.W.Frag} {mg : Str → Option Value} {base : Heap} {γ : Type}
end
theorem forW_inv2 {ε S β δ : Type} {mbd : S → β → Ws ε S δ} {Nx : S → Prop} {Rt : δ → Prop} {X : ε → Prop} : ∀ {xs : List β} {s : S} (J : Nat → S → Prop), J 0 s → (∀ i x s (P : S → Prop), xs[i]? = some x → J i s → (∀ s', J (i + 1) s' → P s') → mbd s x P Rt X) → (∀ s, J xs.length s → Nx s) → forW mbd xs s Nx Rt X
  | [], s, J, h0, _, hn => hn s h0
  | x :: xs, s, J, h0, hb, hn => hb 0 x s _ rfl h0 fun s' h1 => forW_inv2 (fun i => J (i + 1)) h1 (fun i y s P hy => hb (i + 1) y s P hy) hn
end Tw

/-! Td0: dicts by numbers and texts, in plain terms. -/
namespace Tw
open PySem PySem.Spec PyProof.Rows L2 SlX StX Rs Ma Sn
variable [Rs.Tabz]
/-- data that are keys of such dicts -/
class NumK {α : Type} (d : α → PyData) where
  key : α → Key
  val : ∀ {K : PySem.W.Frag} {F : Hp} {v : V} {a : α}, Dp K F v (d a) → v = kV (key a)
  inj : ∀ a b, key a = key b → a = b
instance : NumK dN := ⟨fun n => .inl (n : Nat), fun h => by cases h; rfl, fun a b e => by have := Sum.inl.inj e; omega⟩
instance : NumK dInt := ⟨fun n => .inl n, fun h => by cases h; rfl, fun a b e => Sum.inl.inj e⟩
instance : NumK dS := ⟨fun x => .inr x, fun h => by cases h; rfl, fun a b e => Sum.inr.inj e⟩
section
variable {α β : Type} [DecidableEq α] {d : α → PyData} [c : NumK d] {R : β → VP} {F F' : Hp}
def RelD (d : α → PyData) [c : NumK d] (R : β → VP) : List (Key × V) → List (α × β) → Hp → Prop
  | [], [], _ => True
  | z :: zs, p :: ps, F => (z.1 = c.key p.1 ∧ R p.2 z.2 F) ∧ RelD d R zs ps F
  | _, _, _ => False
theorem relD_up [∀ b, Mono (R b)] (e : Same F F') : ∀ {zs : List (Key × V)} {ps : List (α × β)}, RelD d R zs ps F → RelD d R zs ps F'
  | [], [], _ => True.intro
  | z :: zs, p :: ps, ⟨⟨h1, h2⟩, h3⟩ => ⟨⟨h1, Mono.mono _ _ _ e h2⟩, relD_up e h3⟩
  | [], _ :: _, h => h.elim
  | _ :: _, [], h => h.elim
theorem relD_fst : ∀ {zs : List (Key × V)} {ps : List (α × β)}, RelD d R zs ps F → zs.map (·.1) = (ps.map (·.1)).map c.key
  | [], [], _ => rfl
  | z :: zs, p :: ps, h => by rw [List.map_cons, List.map_cons, List.map_cons, relD_fst h.2, h.1.1]
  | [], _ :: _, h => h.elim
  | _ :: _, [], h => h.elim
theorem valV_neg {p : Key × V} {r : List (Key × V)} {k : Key} (e : ¬ p.1 = k) : valV (p :: r) k = valV r k := by simp [valV, List.find?_cons, e]
theorem putK_neg {p : Key × V} {r : List (Key × V)} {k : Key} {v : V} (e : ¬ p.1 = k) : putK (p :: r) k v = p :: putK r k v := by
  unfold putK
  rw [List.any_cons, decide_eq_false e, Bool.false_or]
  split
  · rw [List.map_cons, if_neg e]
  · rfl
theorem setK_same {zs : List (Key × V)} {k : Key} {v : V} (h : k ∉ zs.map (·.1)) : zs.map (fun kv => if kv.1 = k then (kv.1, v) else kv) = zs := by
  induction zs with
  | nil => rfl
  | cons z zs ih =>
    rw [List.map_cons, List.mem_cons, not_or] at h
    rw [List.map_cons, ih h.2, if_neg fun e => h.1 e.symm]
theorem relD_put {a : α} {b : β} {v : V} (hb : R b v F) : ∀ {zs : List (Key × V)} {ps : List (α × β)}, RelD d R zs ps F → (ps.map (·.1)).Nodup → RelD d R (putK zs (c.key a) v) (putA ps a b) F
  | [], [], _, _ => ⟨⟨rfl, hb⟩, True.intro⟩
  | z :: zs, p :: ps, ⟨⟨h1, h2⟩, h3⟩, hn => by
    rw [List.map_cons, List.nodup_cons] at hn
    by_cases h : p.1 = a
    · have e : z.1 = c.key a := by rw [h1, h]
      have no : c.key a ∉ zs.map (·.1) := by
        rw [relD_fst h3]
        intro y
        obtain ⟨a', ha, ea⟩ := List.mem_map.mp y
        rw [c.inj _ _ ea, ← h] at ha
        exact hn.1 ha
      unfold putK
      rw [List.any_cons, decide_eq_true e, Bool.true_or, if_pos rfl, putA, if_pos h, List.map_cons, if_pos e, setK_same no]
      exact ⟨⟨h1, hb⟩, h3⟩
    · have ne : ¬ z.1 = c.key a := fun e => h (c.inj _ _ (by rw [← h1, e]))
      rw [putK_neg ne, putA, if_neg h]
      exact ⟨⟨h1, h2⟩, relD_put hb h3 hn.2⟩
  | [], _ :: _, h, _ => h.elim
  | _ :: _, [], h, _ => h.elim
end
/-- a dict that stays -/
def fDI {α β : Type} [DecidableEq α] (d : α → PyData) [c : NumK d] (R : β → VP) : List (α × β) → VP := fun kvs v F => ∃ D zs, v = .ref D ∧ Rd F D (.dK zs) ∧ RelD d R zs kvs F ∧ (kvs.map (·.1)).Nodup
instance {α β : Type} [DecidableEq α] {d : α → PyData} [NumK d] {R : β → VP} [∀ b, Mono (R b)] {kvs : List (α × β)} : Mono (fDI d R kvs) := ⟨fun _ _ _ e ⟨D, zs, h, h1, r, n⟩ => ⟨D, zs, h, rd_up e h1, relD_up e r, n⟩⟩
/-- one's own -/
def ownDI {α β : Type} [DecidableEq α] (d : α → PyData) [c : NumK d] (R : β → VP) (kvs : List (α × β)) : Addr → HO → Hp → Prop := fun _ o F => ∃ zs, o = .dK zs ∧ RelD d R zs kvs F ∧ (kvs.map (·.1)).Nodup
/-! ### new things of one's own -/
structure TrM {ε γ : Type} (Z : Wsh ε) (ρ : List (Option VP)) (κ : List Ow) (te : TE) (m : Wm ε γ) (ow : γ → Addr → HO → Hp → Prop) : Prop where
  run : ∀ σ F L, SatV ρ σ F → SatC κ σ F L → ∀ Q X, m Q X → ∀ F1 N H, Same F F1 → At F1 (L ++ N) H → WishOk Z F1 N X → ∀ Qk : VK, (∀ a o F2 H2 g, Same F1 F2 → At F2 ((a, o) :: (L ++ N)) H2 → (∀ F', Same F2 F' → ow g a o F') → Q g → Qk (.ref a) H2) → te σ H Qk
/-- a thing of one's own, looked at as a value -/
class Bor {γ : Type} (ow : γ → Addr → HO → Hp → Prop) (fam : outParam (γ → VP)) : Prop where
  mono : ∀ g, Mono (fam g)
  bor : ∀ g a o F, F a = none → (∀ F', Same F F' → ow g a o F') → fam g (.ref a) (upd F a o)
instance {α : Type} {R : α → VP} [∀ a, Mono (R a)] : Bor (fun xs : List α => ownL (xs.map R)) (fLn R) := ⟨inferInstance, fun g a o F h q => by
  obtain ⟨vs, rfl, r⟩ := q F (Same.refl _)
  exact ⟨a, vs, rfl, upd_same, MonoL.mono _ _ _ (same_new h) r⟩⟩
instance {α β : Type} [DecidableEq α] {d : α → PyData} [NumK d] {R : β → VP} [∀ b, Mono (R b)] : Bor (ownDI d R) (fDI d R) := ⟨inferInstance, fun g a o F h q => by
  obtain ⟨zs, rfl, r, n⟩ := q F (Same.refl _)
  exact ⟨a, zs, rfl, .inl upd_same, relD_up (same_new h) r, n⟩⟩
section
variable {ε α β γ δ S T : Type} {Z : Wsh ε} {ρ : List (Option VP)} {κ : List Ow} {K : PySem.W.Frag} {td ty tv te ta tb : TE} {t u : TS} {i j : Nat} {R : β → VP} {Rd : δ → VP} {ow : γ → Addr → HO → Hp → Prop} {fam : γ → VP} {g : γ} {ρ2 : S → List (Option VP)} {κ2 : S → List Ow}
theorem TrN.m {Ra : α → VP} {ml : Wm ε (List α)} (h : TrN Z ρ κ te ml Ra) : TrM Z ρ κ te ml (fun xs => ownL (xs.map Ra)) :=
  have := h.mono
  ⟨fun σ F L s c Q X q F1 N H e A wsh Qk qk => h.run σ F L s c Q X q F1 N H e A wsh Qk fun a vs F2 H2 xs e2 A2 r q1 => qk a _ F2 H2 xs e2 A2 (fun F' e' => ⟨vs, rfl, MonoL.mono _ _ _ e' r⟩) q1⟩
end
section
variable {ε α β δ S : Type} [DecidableEq α] {d : α → PyData} [c : NumK d] {Z : Wsh ε} {ρ : List (Option VP)} {κ : List Ow} {K : PySem.W.Frag} {td ty tv te : TE} {u : TS} {i : Nat} {R : β → VP} {Rd : δ → VP} {kvs : List (α × β)} {ρ2 : S → List (Option VP)} {κ2 : S → List Ow} {mv : Wm ε β} {mk : Wm ε α} {md : Wm ε (List (α × β))}
end
end Tw

/-! Td1: comprehensions of two fors. -/
namespace Tw
open PySem PySem.Spec PyProof.Rows L2 SlX StX Rs Ma Sn
variable [Rs.Tabz]
section
variable {ε β γ δ : Type} {Z : Wsh ε} {ρ : List (Option VP)} {κ : List Ow} {wi wi1 : TI} {g g1 : TG} {tt tt1 : TT} {te : TE} {Rd : δ → VP}
end
end Tw

/-! Td2: data taken out of things of one's own; triples. -/
namespace Tw
open PySem PySem.Spec PyProof.Rows L2 SlX StX Rs Ma Sn
variable [Rs.Tabz]
mutual
/-- no list within -/
def noList : PyData → Bool
  | .list _ => false
  | .tuple ds => noLists ds
  | .dict _ => false
  | _ => true
def noLists : List PyData → Bool
  | [] => true
  | d :: ds => noList d && noLists ds
end
theorem noLists_map {α : Type} {d : α → PyData} (h : ∀ a, noList (d a) = true) : ∀ xs : List α, noLists (xs.map d) = true
  | [] => rfl
  | x :: xs => by rw [List.map_cons, noLists, h, noLists_map h xs]; rfl
class NoL {α : Type} (d : α → PyData) : Prop where
  no : ∀ a, noList (d a) = true
instance : NoL dN := ⟨fun _ => rfl⟩
instance : NoL dInt := ⟨fun _ => rfl⟩
instance : NoL dB := ⟨fun _ => rfl⟩
instance : NoL dS := ⟨fun _ => rfl⟩
instance : NoL dU := ⟨fun _ => rfl⟩
instance {α : Type} {d : α → PyData} [h : NoL d] : NoL (dT d) := ⟨fun xs => by rw [dT, noList]; exact noLists_map h.no xs⟩
instance {α β : Type} {d : α → PyData} {e : β → PyData} [h : NoL d] [g : NoL e] : NoL (dP d e) := ⟨fun p => by rw [dP, noList, noLists, noLists, noLists, h.no, g.no]; rfl⟩
instance {α β γ : Type} {d : α → PyData} {e : β → PyData} {f : γ → PyData} [h : NoL d] [g : NoL e] [i : NoL f] : NoL (dP3 d e f) := ⟨fun p => by rw [dP3, noList, noLists, noLists, noLists, noLists, h.no, g.no, i.no]; rfl⟩
/-- the heap told without a -/
def cutF (F : Hp) (a : Addr) : Hp := fun b => if b = a then none else F b
section
variable {K : PySem.W.Frag} {F : Hp} {a : Addr} {o : HO}
theorem sqT_cut (h1 : F a = some o) (h2 : ∀ xs, o ≠ .tup xs) (h3 : ∀ o' u, o ≠ .frz o' u) {b : Addr} {xs : List V} (h : SqT K F b xs) : SqT K (cutF F a) b xs := by
  rcases h with (h | ⟨u, h⟩) | h
  · refine .inl (.inl ?_)
    have : b ≠ a := fun z => by
      rw [z, h1] at h
      exact h2 _ (Option.some.inj h)
    show (if b = a then none else F b) = _
    rw [if_neg this, h]
  · refine .inl (.inr ⟨u, ?_⟩)
    have : b ≠ a := fun z => by
      rw [z, h1] at h
      exact h3 _ _ (Option.some.inj h)
    show (if b = a then none else F b) = _
    rw [if_neg this, h]
  · exact .inr h
mutual
theorem dp_cut (h1 : F a = some o) (h2 : ∀ xs, o ≠ .tup xs) (h3 : ∀ o' u, o ≠ .frz o' u) : ∀ (d : PyData) (v : V), noList d = true → Dp K F v d → Dp K (cutF F a) v d
  | .none, _, _, h => by cases h; exact .non
  | .bool b, _, _, h => by cases h; exact .bl b
  | .int i, _, _, h => by cases h; exact .int i
  | .str x, _, _, h => by cases h; exact .str x
  | .list ds, _, n, _ => by cases n
  | .dict _, _, n, _ => by cases n
  | .tuple ds, _, n, h => by
    cases h with
    | tup hs ha => exact .tup (sqT_cut h1 h2 h3 hs) (dps_cut h1 h2 h3 ds _ n ha)
theorem dps_cut (h1 : F a = some o) (h2 : ∀ xs, o ≠ .tup xs) (h3 : ∀ o' u, o ≠ .frz o' u) : ∀ (ds : List PyData) (vs : List V), noLists ds = true → DpAll K F vs ds → DpAll K (cutF F a) vs ds
  | [], _, _, h => by cases h; exact .nil
  | d :: ds, _, n, h => by
    rw [noLists, Bool.and_eq_true] at n
    cases h with
    | cons x1 x2 => exact .cons (dp_cut h1 h2 h3 d _ n.1 x1) (dps_cut h1 h2 h3 ds _ n.2 x2)
end
end
/-- what is told of such values does not lean on lists, dicts -/
class Cut {δ : Type} (R : δ → VP) : Prop where
  cut : ∀ d v F a o, F a = some o → (∀ xs, o ≠ .tup xs) → (∀ o' u, o ≠ .frz o' u) → R d v F → R d v (cutF F a)
instance {K : PySem.W.Frag} {α : Type} {d : α → PyData} [h : NoL d] : Cut (fD K d) := ⟨fun x v F a o h1 h2 h3 r => dp_cut h1 h2 h3 (d x) v (h.no x) r⟩
class NotFrz {γ : Type} (ow : γ → Addr → HO → Hp → Prop) : Prop where
  no : ∀ g a o F, ow g a o F → ∀ o' u, o ≠ .frz o' u
instance {α : Type} {R : α → VP} : NotFrz (fun xs : List α => ownL (xs.map R)) := ⟨fun g a o F ⟨vs, h, _⟩ o' u z => by rw [h] at z; cases z⟩
instance {α β : Type} [DecidableEq α] {d : α → PyData} [NumK d] {R : β → VP} : NotFrz (ownDI d R) := ⟨fun g a o F ⟨zs, h, _⟩ o' u z => by rw [h] at z; cases z⟩
section
variable {ε α β γ δ : Type} {Z : Wsh ε} {ρ : List (Option VP)} {κ : List Ow} {K : PySem.W.Frag} {te ta tb tc : TE} {i : Nat} {Rd : δ → VP} {ow : γ → Addr → HO → Hp → Prop} {fam : γ → VP} {g : γ}
/-! triples -/
variable {d : α → PyData} {e : β → PyData} {f : γ → PyData} {ma : Wm ε α} {mb : Wm ε β} {mc : Wm ε γ} {mp : Wm ε (α × β × γ)}
end
end Tw

/-! Sn9: sorted of a set of nested keys. -/
namespace Tw
open PySem PySem.Spec PyProof.Rows L2 SlX StX Rs Ma Sn
variable [Rs.Tabz]
section
variable {X : Cx}
variable {e : Expr} {es : List Expr} {t : TA} {p pos : Pos}
end
end Tw

/-! Te0: repr of data; what is taken off a list's end; a dict made of pairs; two places of a dict at once; triples as rows. -/
namespace Tw
open PySem PySem.Spec PyProof.Rows L2 SlX StX Rs Ma Sn
variable [Rs.Tabz]
/-! ### repr -/
/-- a text can be made of it -/
def Sayable (d : PyData) : Prop := d.showable = true ∧ d.hasDict = false ∧ d.depth ≤ 60 ∧ d.shown.length ≤ sizeLine
section
variable {X : Cx}
variable {e : Expr} {es : List Expr} {t : TA} {p pos : Pos}
end
/-- lists and tuples -/
class Shown {α : Type} (d : α → PyData) : Prop where
  ref : ∀ a (K : PySem.W.Frag) (F : Hp) v, Dp K F v (d a) → ∃ p, v = .ref p
instance {α : Type} {d : α → PyData} : Shown (dT d) := ⟨fun a K F v h => by cases h; exact ⟨_, rfl⟩⟩
instance {α : Type} {d : α → PyData} : Shown (dL d) := ⟨fun a K F v h => by cases h; exact ⟨_, rfl⟩⟩
instance {α β : Type} {d : α → PyData} {e : β → PyData} : Shown (dP d e) := ⟨fun a K F v h => by cases h; exact ⟨_, rfl⟩⟩
/-! ### a triple as a row -/
section
variable {ε α β γ δ S : Type} {Z : Wsh ε} {ρ : List (Option VP)} {κ : List Ow} {K : PySem.W.Frag} {te ta tb tx ty : TE} {t u : TS} {i j : Nat} {R : α → VP} {Rd : δ → VP} {ρ2 : S → List (Option VP)} {κ2 : S → List Ow}
/-! ### x = ys.pop() -/
end
/-! ### a dict made of pairs -/
def rDictP (K : PySem.W.Frag) : List V → Hp → VK → Prop := fun xs H Q => ∃ (a : Addr) (ps : List Addr) (kvs : List (Key × V)), xs = [.ref a] ∧ SqL K H a (ps.map V.ref) ∧ Paired (fun p kv => SqT K H p [kV kv.1, kv.2]) ps kvs ∧ ∀ p, H p = none → Q (.ref p) (upd H p (.dK (mergeK [] kvs)))
section
variable {X : Cx} {e : Expr} {es : List Expr} {t : TA} {p pos : Pos}
theorem p_dictP (hc : X.calm = true) (B : Bf X.mg) (ha : PA X (e :: es) t) (hg : Gl X "dict" := by rfl) (he : starEach (e :: es) X.env = (false, eval e X.env) :: starEach es X.env := by rfl) (hpl : (backTo pos (starEach es X.env)).any (·.1) = false := by rfl) :
    PE X (.Call (.Name "dict" p) (e :: es) [] pos) (tCB (rDictP X.K) t) := pe_callTy (call_dictP hc) hg B.dict boot_dict ha (by decide) (by decide) he hpl
end
section
variable {α β : Type} [DecidableEq α] {d : α → PyData} [c : NumK d] {F F' : Hp}
theorem relD_merge {R : β → VP} : ∀ {more : List (Key × V)} {xs : List (α × β)} {zs : List (Key × V)} {ps : List (α × β)}, RelD d R more xs F → RelD d R zs ps F → (ps.map (·.1)).Nodup → RelD d R (mergeK zs more) (putsA ps xs) F ∧ ((putsA ps xs).map (·.1)).Nodup
  | [], [], _, _, _, h, n => ⟨h, n⟩
  | z :: more, x :: xs, zs, ps, ⟨⟨h1, h2⟩, h3⟩, h, n => by
    have := relD_merge (zs := putK zs z.1 z.2) (ps := putA ps x.1 x.2) h3 (by rw [h1]; exact relD_put h2 h n) (putA_nodup n).1
    exact this
  | [], _ :: _, _, _, h, _, _ => h.elim
  | _ :: _, [], _, _, h, _, _ => h.elim
theorem pairs_at {K : PySem.W.Frag} {b : β → PyData} : ∀ {xs : List (α × β)} {vs : List V}, Each (xs.map (fD K (dP d b))) vs F → ∃ ps kvs, vs = ps.map V.ref ∧ (∀ F', Same F F' → Paired (fun p kv => SqT K F' p [kV kv.1, kv.2]) ps kvs) ∧ RelD d (fD K b) kvs xs F
  | [], [], _ => ⟨[], [], rfl, fun _ _ => .nil, True.intro⟩
  | x :: xs, v :: vs, h => by
    obtain ⟨ps, kvs, e, h1, h2⟩ := pairs_at (xs := xs) h.2
    have h0 : Dp K F v (.tuple [d x.1, b x.2]) := h.1
    cases h0 with
    | @tup a us _ hs ha =>
      cases ha with
      | cons q1 q2 =>
        cases q2 with
        | cons q3 q4 =>
          cases q4
          have ev := c.val q1
          subst ev
          refine ⟨a :: ps, (c.key x.1, _) :: kvs, by rw [e]; rfl, fun F' e' => .cons (sqT_up e' hs) (h1 F' e'), ⟨rfl, q3⟩, h2⟩
  | [], _ :: _, h => h.elim
  | _ :: _, [], h => h.elim
end
section
variable {ε α β δ S : Type} [DecidableEq α] {d : α → PyData} [c : NumK d] {Z : Wsh ε} {ρ : List (Option VP)} {κ : List Ow} {K : PySem.W.Frag} {te ta tb tx ty : TE} {u : TS} {i : Nat} {R : β → VP} {Rd : δ → VP} {kvs : List (α × β)} {ρ2 : S → List (Option VP)} {κ2 : S → List Ow}
theorem tm_dictP {b : β → PyData} {ml : Wm ε (List (α × β))} (h : TrE Z ρ κ te ml (fLn (fD K (dP d b)))) : TrM Z ρ κ (tCB (rDictP K) (tCons te tNil)) (fun Q X => ml (fun xs => Q (putsA [] xs)) X) (ownDI d (fD K b)) :=
  ⟨fun σ F L s cc Q X q F1 N H e A wsh Qk qk => h.run σ F L s cc _ X q F1 N H e A wsh _ fun v F2 H2 e2 A2 ⟨xs, q1, r⟩ => by
    obtain ⟨a, vs, rfl, hl, hv⟩ := r
    obtain ⟨ps, kvs, rfl, h1, h2⟩ := pairs_at hv
    refine ⟨a, ps, kvs, rfl, .inl (.inl (A2.ex _ _ hl)), h1 _ A2.ex, fun p hp => ?_⟩
    obtain ⟨g1, g2⟩ := relD_merge (zs := []) (ps := []) h2 True.intro List.nodup_nil
    exact qk p _ F2 _ (putsA [] xs) e2 (A2.cell hp) (fun F' e' => ⟨_, rfl, relD_up e' g1, g2⟩) q1⟩
/-! ### x[a], x[b] = y, z -/
end
/-! ### f(e, .., *y) -/
section
variable {X : Cx} {e : Expr} {es : List Expr} {t : TA} {p pos : Pos} {f : Str}
end
end Tw

/-! Te1: promises of defs that are called where no repr is under way. -/
namespace Tw
open PySem PySem.Spec PyProof.Rows L2 SlX StX Rs Ma Sn
variable [Rs.Tabz]
structure FnG (P : Program) (w : World) (K : PySem.W.Frag) (mg : Str → Option Value) (base : Heap) (k : Nat) (f : Addr) (fd : FuncData) (ps : List Str) (sp : Sp) : Prop where
  len : ∀ vs H Q E, sp vs H Q E → vs.length = ps.length
  run : ∀ (A : Around) (outer : List Env) (s : Shared) (H : Hp) (args : Args) (us : List Value) (vs : List V) (Q : VK) (E : XK), A.guards = some [] → Room k A → Env0 P w K mg base A outer s H → BindsTo s fd args (ps.zip us) → Vals vs us → sp vs H Q E →
    codeAny (model P w) A (.call (.ref f) args) (CR CX0 outer P w H s Q E) s
theorem FnG.imp {P : Program} {w : World} {K : PySem.W.Frag} {mg : Str → Option Value} {base : Heap} {k : Nat} {f : Addr} {fd : FuncData} {ps : List Str} {sp sp' : Sp} (F : FnG P w K mg base k f fd ps sp) (h : ∀ vs H Q E, sp' vs H Q E → sp vs H Q E) : FnG P w K mg base k f fd ps sp' :=
  ⟨fun vs H Q E q => F.len vs H Q E (h _ _ _ _ q), fun A outer s H args us vs Q E hg hr e0 hb r q => F.run A outer s H args us vs Q E hg hr e0 hb r (h _ _ _ _ q)⟩
structure GfG (P : Program) (w : World) (K : PySem.W.Frag) (mg : Str → Option Value) (base : Heap) (k : Nat) (x : Str) (sp : Sp) : Prop where
  ex : ∃ f fd ps, FnG P w K mg base k f fd ps sp ∧ mg x = some (.ref f) ∧ PySem.W.keepIn K (.ref f) = true ∧ Binds K fd ps []
section
variable {X : Cx} {e : Expr} {es : List Expr} {t : TA} {p pos : Pos} {f : Str}
theorem p_callG {k j : Nat} {sp : Sp} (c : GfG X.prog X.w X.K X.mg X.base k f sp) (hgu : X.A.guards = some []) (hr : Room j X.A) (hk : k ≤ j) (ha : PA X (e :: es) t) (hg : Gl X f := by rfl)
    (hdb : (f == ("__debug__" : Str)) = false := by decide) (he : starEach (e :: es) X.env = (false, eval e X.env) :: starEach es X.env := by rfl) (hpl : (backTo pos (starEach es X.env)).any (·.1) = false := by rfl) :
    PE X (.Call (.Name f p) (e :: es) [] pos) (tCall sp [] E0 t) := by
  obtain ⟨g, fd, ps, F, hm, kp, b⟩ := c.ex
  refine ⟨fun pins s σ H Q I h => wpAny_Call_Name_kw (ld_glob I hg hm ?_ hdb)⟩
  refine PySem.W.callWith_K (h₀ := X.base) I.ok.mod.kin kp (thn (ha.run pos pins s σ H _ I h) fun us s1 ⟨vs, H1, I1, r, q⟩ => ⟨I1.kIn, ?_⟩) he hpl
  have q' : sp vs H1 Q E0 := by rw [← List.append_nil vs]; exact q
  have hl : (us ++ []).length = ps.length := by rw [List.append_nil, ← r.length]; exact F.len _ _ _ _ q'
  refine wpAny_call (codeAny_mono (F.run X.A X.stack s1 H1 ⟨us, []⟩ (us ++ []) vs Q E0 hgu (hr.mono hk) I1.env0 (b s1 us I1.kIn hl) (by rw [List.append_nil]; exact r) q') fun z s' hq => ?_)
  match z, hq with
  | .error err, hq => exact pass0 pins σ H1 s1 err s' I1 hq
  | .ok (.ret u), hq => exact I1.after hq
end
section
variable {P : Program} {w : World} {K : PySem.W.Frag} {mg : Str → Option Value} {base : Heap}
theorem fnG_of {x qual : Str} {st : Stmt} {f : Addr} {fd : FuncData} {N ps : List Str} {k : Nat} {sp : Sp} (F : Fun K x qual st f fd) (S : FnScope N ps (defScope st)) (len : ∀ vs H Q E, sp vs H Q E → vs.length = ps.length)
    (hbody : ∀ (cdv : Value), fd.code = cdv → ∀ (A : Around) (outer : List Env) (s : Shared) (H : Hp) (vs : List V) (Q : VK) (E : XK), A.guards = some [] → Room k (A.deeper (envOfC qual (defScope st) s.heap.objs.size f cdv)) → sp vs H Q E →
      ∃ t, PSs (cxOf CX0 P w K mg base N qual (defScope st) f cdv A outer s H E).nox (defBody st) t ∧ t { nx := fun _ H' => Q .non H', rt := Q } (start N vs) H) : FnG P w K mg base (k + 1) f fd ps sp := by
  obtain ⟨oc, od, kV, doc, pm, an, cdv, ct, osl, rfl, lk, hcd⟩ := F.ex
  refine ⟨len, fun A outer s H args us vs Q E hgu hr e0 hb r hsp => ?_⟩
  have stays : ∀ b o, base.get? b = some o → s.heap.get? b = some o := fun b o q => (e0.bs b o q).1
  have KX : K.In s.heap := e0.mod.kin.keeps stays
  have lim := e0.mod.nolimit.keeps stays
  refine codeAny_call_function hr.depth (KX _ _ lk) rfl S.co S.gen rfl (PySem.W.codeRec_of KX hcd) (hb _ _ _ _ (wpAny_newFunctionEnv_cells S.kind (fun y hy => ?_) fun env he s1 x => ?_))
  · rcases S.par y.1 (List.of_mem_zip hy).1 with q | q
    · exact .inl q
    · exact .inr ⟨q, PySem.W.cellsFrom_some _ _ _ (.inl q)⟩
  subst he
  refine ⟨lim.keeps x.toInCall.keep, codeAny_func ?_⟩
  obtain ⟨t, ht, hq⟩ := hbody cdv rfl A outer s H vs Q E hgu (hr.deeper _) hsp
  have I := inv_start (E := E) (CX := CX0) (f := f) (cd := cdv) (N := N) S hr.hd e0 (len _ _ _ _ hsp) r x
  refine wpAny_mono (ht.nox.run [] s1 (start N vs) H _ I hq) (fun fl s' hs => ?_) fun e s' hs => hs
  match fl, hs with
  | .ret u, ⟨v, σ', H', J, rv, q⟩ => exact ⟨v, H', J.os, J.bare, J.base, J.hok, rv, q⟩
  | .next, ⟨σ', H', J, q⟩ => exact ⟨.non, H', J.os, J.bare, J.base, J.hok, rfl, q⟩
  | .brk, ⟨_, _, _, q⟩ => exact q.elim
  | .cont, ⟨_, _, _, q⟩ => exact q.elim
variable {γ δ S : Type}
theorem gwG_ok {x qual : Str} {stt : Stmt} {f : Addr} {fd : FuncData} {N ps : List Str} {k : Nat} {Rs : γ → List VP} {spec : γ → (δ → Prop) → Prop} {R : δ → VP} (F : Fun K x qual stt f fd) (Sc : FnScope N ps (defScope stt)) (len : ∀ g, (Rs g).length = ps.length) (hm : ∀ g, MonoAll (Rs g))
    (body : ∀ (cdv : Value) (A : Around) (outer : List Env) (s : Shared) (H : Hp) (E : XK) (g : γ), A.guards = some [] → Room k (A.deeper (envOfC qual (defScope stt) s.heap.objs.size f cdv)) →
      ∃ t, PSs (cxOf CX0 P w K mg base N qual (defScope stt) f cdv A outer s H E).nox (defBody stt) t ∧ ∃ m : Ws Empty Unit δ, TrS Z0 (ofArgs (Rs g) N.length) [] t m (fun _ => List.replicate N.length none) (fun _ => []) R ∧ ∀ Q, (∃ vs F, Each (Rs g) vs F) → spec g Q → m (fun _ => False) Q X0) :
    FnG P w K mg base (k + 1) f fd ps (SpN Rs spec R) := by
  refine fnG_of F Sc (fun vs H Q E ⟨g, F0, N0, P0, A, hv, q⟩ => (each_length hv).trans (len g)) fun cdv _ A outer s H vs Q E hgu hr ⟨g, F0, N0, P0, A0, hv, hs, q⟩ => ?_
  obtain ⟨t, h1, m, h2, h3⟩ := body cdv A outer s H E g hgu hr
  exact ⟨t, h1, h2.run (start N vs) F0 [] (sat_start (hm g) hv) True.intro _ _ _ (h3 P0 ⟨vs, F0, hv⟩ hs) F0 N0 H (Same.refl _) A0 wish0 _ (fun σ' F' L' H' e' A' ⟨s', n, _⟩ => n.elim) fun v F' H' e' A' ⟨d, pd, r⟩ => q d v F' H' e' A' pd r⟩
theorem gwG_mk {x : Str} {stt : Stmt} {f : Addr} {fd : FuncData} {N ps : List Str} {k : Nat} {Rs : γ → List VP} {spec : γ → (δ → Prop) → Prop} {R : δ → VP} (F : Fun K x x stt f fd) (hmg : mg x = some (.ref f)) (b : Binds K fd ps []) (Sc : FnScope N ps (defScope stt)) (len : ∀ g, (Rs g).length = ps.length) (hm : ∀ g, MonoAll (Rs g))
    (body : ∀ (cdv : Value) (A : Around) (outer : List Env) (s : Shared) (H : Hp) (E : XK) (g : γ), A.guards = some [] → Room k (A.deeper (envOfC x (defScope stt) s.heap.objs.size f cdv)) →
      ∃ t, PSs (cxOf CX0 P w K mg base N x (defScope stt) f cdv A outer s H E).nox (defBody stt) t ∧ ∃ m : Ws Empty Unit δ, TrS Z0 (ofArgs (Rs g) N.length) [] t m (fun _ => List.replicate N.length none) (fun _ => []) R ∧ ∀ Q, (∃ vs F, Each (Rs g) vs F) → spec g Q → m (fun _ => False) Q X0) :
    GfG P w K mg base (k + 1) x (SpN Rs spec R) := ⟨f, fd, ps, gwG_ok F Sc len hm body, hmg, F.kp, b⟩
end
end Tw

/-! Te2: the head of a law whose def is promised where no repr is under way. -/
namespace Tw
open PySem PySem.Spec PyProof.Rows L2 SlX StX Rs Ma Sn
variable [Rs.Tabz]
section
variable {P : Program} {w : World} {K : PySem.W.Frag} {mg mb : Str → Option Value} {k : Nat} {fa a : Addr} {fd : FuncData} {x : Str} {s₁ : Shared} {vs : List Value} {ns : List Int}
/-- the script, told frozen or as the module's own -/
theorem script_told (KX : K.In s₁.heap) (ha : s₁.heap.get? a = some { cls := .type "list", data := .seq vs.toArray }) (hi : IntsAre vs ns) (hl : ns.length ≤ sizeLine) :
    ∃ H : Hp, Only H ∧ SqL K H a (ns.map V.int) ∧ HOk P w H s₁.heap ∧ (∀ b, H b ≠ none → b = a) ∧ (H a ≠ none → K.lookup a = none) := by
  have rv := vals_ints hi
  have lenV := hi.length
  by_cases hk : ∃ o, K.lookup a = some o
  · obtain ⟨o, hk⟩ := hk
    have e := KX a o hk
    rw [ha] at e
    cases e
    exact ⟨fun _ => none, fun _ => .inl rfl, .inr ⟨_, vs.toArray, _, hk, rfl, rfl, rfl, by rw [List.size_toArray, lenV]; exact hl, by simpa using rv⟩, (fun b u z => nomatch (show (none : Option HO) = some u from z)), (fun b z => absurd rfl z), fun z => absurd rfl z⟩
  · have hk' : K.lookup a = none := by
      cases h : K.lookup a with
      | none => rfl
      | some o => exact absurd ⟨o, h⟩ hk
    refine ⟨fun b => if b = a then some (.frz { cls := .type "list", data := .seq vs.toArray } (.lst (ns.map V.int))) else none, fun b => ?_, .inl (.inr ⟨_, if_pos rfl⟩), fun b u z => ?_, fun b z => ?_, fun _ => hk'⟩
    · by_cases h : b = a
      · exact .inr ⟨_, _, if_pos h⟩
      · exact .inl (if_neg h)
    · by_cases h : b = a
      · have z' := (if_pos h).symm.trans z
        cases z'
        subst h
        exact ⟨ha, by rw [List.length_map]; exact hl, vs, _, rv, ha⟩
      · cases (if_neg h).symm.trans z
    · by_cases h : b = a
      · exact h
      · exact absurd (if_neg h) z
theorem law_callG (KX : K.In s₁.heap) (hns : s₁.heap.Ns mainGlobals mg) (hb : s₁.heap.Ns builtinsNs mb) (hbb : ∀ x : Str, x ≠ "__name__" → mb x = bootBuiltins x) (hlim : s₁.heap.NoLimit) (hg : s₁.gens = #[])
    (ha : s₁.heap.get? a = some { cls := .type "list", data := .seq vs.toArray }) (hi : IntsAre vs ns) (hl : ns.length ≤ 63) (hr : Room k callerA) (hz : ∀ P, ¬ Tabz.ts P)
    (F : ∀ base : Heap, K.In base → base.Ns mainGlobals mg → FnG P w K mg base k fa fd [x] (spLaw K)) (hbind : ∀ (s : Shared) (u : Value), BindsTo s fd ⟨[u], []⟩ [(x, u)]) :
    codeAny (model P w) callerA (.call (.ref fa) ⟨[.ref a], []⟩) (fun r s' => r = .ok (.ret (.bool true)) ∧ OldK s₁.heap s'.heap ∧ s'.os = s₁.os ∧ AllBare s'.gens) s₁ := by
  obtain ⟨H, hO, hS, hok, hA, hK⟩ := script_told (P := P) (w := w) KX ha hi (Nat.le_trans hl (by decide))
  have noA : ∀ {b : Addr} {o : Obj}, s₁.heap.get? b = some o → (b = a → False) → H b = none := fun {b o} e ne => by
    cases q : H b with
    | none => rfl
    | some u => exact (ne (hA b (by rw [q]; simp))).elim
  have nsK : ∀ {b : Addr} {m : Str → Option Value}, s₁.heap.Ns b m → (hidT s₁.heap H).Ns b m := fun {b m} ⟨o, es, ep, e, d, r⟩ => ⟨o, es, ep, hidT_get e (noA e fun z => by
    rw [z, ha] at e
    cases e
    cases (show Data.seq vs.toArray _ = Data.dict es ep from d)), d, r⟩
  have hKb : K.In (hidT s₁.heap H) := fun b o e => hidT_get (KX b o e) (by
    cases q : H b with
    | none => rfl
    | some u =>
      have z := hA b (by rw [q]; simp)
      rw [z] at e q
      rw [hK (by rw [q]; simp)] at e
      cases e)
  have hM : Mod K mg (hidT s₁.heap H) := ⟨hKb, nsK hns, ⟨mb, nsK hb, hbb⟩, let ⟨mc, h1, h2⟩ := hlim; ⟨mc, nsK h1, h2⟩⟩
  have nob : ∀ b : Addr, ¬ b ∈ ([] : List Addr) := fun b z => by cases z
  have e0 : Env0 P w K mg (hidT s₁.heap H) callerA [] s₁ H := ⟨rfl, hM, fun b o e => of_hidT e, Nat.le_of_eq (hidT_size _ _), trivial, fun b z => (nob b z).elim, hok, .of_eq hg⟩
  refine codeAny_mono ((F _ hKb (nsK hns)).run callerA [] s₁ H ⟨[.ref a], []⟩ [.ref a] [.ref a] (fun v _ => v = .bl true) (fun _ _ _ => False) rfl hr e0 (hbind s₁ (.ref a)) (.cons rfl .nil) ⟨a, ns, rfl, hS, hl, fun P hP => absurd hP (hz P), fun _ => rfl⟩) fun r s' h => ?_
  match r, h with
  | .error e, h => exact h.elim
  | .ok (.ret u), ⟨v, H', os, bare, un, hok', r', q⟩ =>
    subst q
    cases r'
    refine ⟨rfl, OldK.of_keep fun b o e => ?_, os, bare⟩
    rcases hO b with z | ⟨ob, xs, z⟩
    · exact un.keep b o e z (fun y => (nob b y).elim) (nob b)
    · obtain ⟨e1, _⟩ := hok b _ z
      obtain ⟨e2, _⟩ := hok' b _ (un.frzs b ob _ z)
      rw [e] at e1
      cases e1
      exact e2
end
theorem walkG {l : PySem.W.OpenLaw} {q : Program} {loose : List Str} {XP : (Str → Option Value) → Heap → Prop} {YP : World → Heap → Prop} {d : DefRec} {k : Nat} (hr : Room k callerA) {K : Params → PySem.W.Frag} (hn : l.most = some 63) (hdf : d.params.defaults = []) (hz : ∀ P, ¬ Tabz.ts P)
    (hY : ∀ (w : World) (h : Heap), YP w h → (K w.params).In h)
    (F : ∀ (w : World) (mg : Str → Option Value) (fa : Addr) (h : Heap), (K w.params).In h → h.Ns mainGlobals mg → mg d.name = some (.ref fa) →
      ∃ fd : FuncData, (∀ (s : Shared) (u : Value), BindsTo s fd ⟨[u], []⟩ [("_law_script", u)]) ∧ ∀ base : Heap, (K w.params).In base → base.Ns mainGlobals mg → FnG l.prog w (K w.params) mg base k fa fd ["_law_script"] (spLaw (K w.params))) :
    PySem.W.WalkO q loose XP YP l.row.toRowW d [] (fun f vs => PySem.call f vs) := by
  refine Att.attach_call hn hdf fun w s₀ s₁ mg mb fa o pm cd doc a vs ns G Y ho hd hcd hmg hobj hints hlen hg => ?_
  have KX := hY w _ Y
  obtain ⟨fd, hb, hF⟩ := F w mg fa _ KX G.T.g hmg
  exact law_callG KX G.T.g G.T.b G.T.builtins G.T.nolimit hg hobj hints hlen hr hz hF hb
/-- a promise by a wish, as the law's -/
theorem law_fnG {P : Program} {w : World} {K : PySem.W.Frag} {mg : Str → Option Value} {base : Heap} {k : Nat} {f : Addr} {fd : FuncData} {ps : List Str} (G : FnG P w K mg base k f fd ps (SpN (fun ns : List Int => [fD K (dL dInt) ns]) (fun (ns : List Int) (Q : Bool → Prop) => ns.length ≤ 63 ∧ Q true) (fD K dB))) : FnG P w K mg base k f fd ps (spLaw K) := by
  refine G.imp fun vs H Q E ⟨a, ns, e, hs, hl, tb, q⟩ => ?_
  subst e
  refine ⟨ns, cutT H, [], fun b => b = true, at_start tb, ⟨ls_dt.mp ⟨a, _, rfl, sqL_cut tb hs, each_dt.mpr ints_vs⟩, True.intro⟩, ⟨hl, rfl⟩, fun d v F' H' _ _ (hd : d = true) hv => ?_⟩
  subst hd
  rw [dt_bl hv]; exact q H'
end Tw

/-! Te3: == of tuples of objects with an own ==, told where they are equal. -/
namespace Tw
open PySem PySem.Spec PyProof.Rows L2 SlX StX Rs Ma Sn
variable [Rs.Tabz]
section
variable {X : Cx} {α : Type} {Ra : α → VP} {C : Addr} {k : Nat}
end
section
variable {ε α : Type} {K : PySem.W.Frag} {Ra : α → VP}
end
end Tw

/-! Te4: of what a short text can be made. -/
namespace Tw
open PySem PySem.Spec PyProof.Rows L2 SlX StX Rs Ma Sn
variable [Rs.Tabz]
structure Says (d : PyData) (n w : Nat) : Prop where
  sh : d.showable = true
  nd : d.hasDict = false
  dp : d.depth ≤ n
  lv : d.leavesShort 13 = true
  wt : d.bulk ≤ w
theorem Says.ok {d : PyData} {n w : Nat} (h : Says d n w) (hn : n ≤ 60) (hw : w ≤ 1048576) : Sayable d :=
  ⟨h.sh, h.nd, Nat.le_trans h.dp hn, by
  have h1 := PyData.shown_le_bulk 13 (by decide) d h.lv
  have h2 := h.wt
  rw [sizeLine_eq]
  omega⟩
section
variable {α : Type} {d : α → PyData} {n w m : Nat}
end
section
variable {ε α : Type} {Z : Wsh ε} {ρ : List (Option VP)} {κ : List Ow} {K : PySem.W.Frag} {te : TE} {t : TA} {R : α → VP}
end
/-! items by any whole number -/
section
variable {ε α : Type} {K : PySem.W.Frag} {R : α → VP}
end
instance {α β γ : Type} [DecidableEq α] [DecidableEq β] [DecidableEq γ] {d : α → PyData} {e : β → PyData} {f : γ → PyData} {n m k : Nat} [h : Nice d n] [g : Nice e m] [j : Nice f k] : Nice (dP3 d e f) (n + m + k + 1) := ⟨fun a => by
  simp only [dP3, PyData.canLay0, PyData.canLayAll0, h.lay, g.lay, j.lay, Bool.and_self], fun a => by
  have h1 := h.dep a.1
  have h2 := g.dep a.2.1
  have h3 := j.dep a.2.2
  simp only [dP3, PyData.depth, PyData.depthAll]
  omega, fun a b => by
  simp only [dP3, PyData.eqv, PyData.eqvAll, h.eq, g.eq, j.eq, Bool.and_true]
  obtain ⟨a1, a2, a3⟩ := a
  obtain ⟨b1, b2, b3⟩ := b
  by_cases h1 : a1 = b1 <;> by_cases h2 : a2 = b2 <;> by_cases h3 : a3 = b3 <;> simp [h1, h2, h3]⟩
end Tw

/-! Tf0: three things bound at once; a comprehension that takes items off a list; index; sorted triples; range by twos. -/
namespace Tw
open PySem PySem.Spec PyProof.Rows L2 SlX StX Rs Ma Sn
variable [Rs.Tabz]
section
variable {ε α β γ γ' δ S : Type} {Z : Wsh ε} {ρ : List (Option VP)} {κ : List Ow} {K : PySem.W.Frag} {ta tb tc te : TE} {wi : TI} {u : TS} {i j k t : Nat} {Ra : α → VP} {R : α → VP} {Rd : δ → VP} {ow : γ → Addr → HO → Hp → Prop} {ow' : γ' → Addr → HO → Hp → Prop} {fam : γ → VP} {ρ2 : S → List (Option VP)} {κ2 : S → List Ow}
/-- a new thing, as a value that stays -/
theorem tr_ofM [b : Bor ow fam] {m : Wm ε γ} (h : TrM Z ρ κ te m ow) : TrE Z ρ κ te m fam :=
  ⟨b.mono, fun σ F L s c Q X q F1 N H e A wsh Qk qk => h.run σ F L s c Q X q F1 N H e A wsh Qk fun a o F2 H2 g e2 A2 r q1 => qk (.ref a) (upd F2 a o) H2 (e2.trans (same_new A2.off1)) A2.keep ⟨g, q1, b.bor g a o F2 A2.off1 r⟩⟩
/-! ### return [xs.pop(..) for ..] -/
end
end Tw

/-! Tf1: index; sorted triples; rows of three as triples; range by twos. -/
namespace Tw
open PySem PySem.Spec PyProof.Rows L2 SlX StX Rs Ma Sn
variable [Rs.Tabz]
section
variable {X : Cx} {o e : Expr} {es : List Expr} {to : TE} {t : TA} {name : Str} {apos cpos : Pos} {T id : String} {r : V → List V → Hp → VK → Prop}
end
/-! ### index -/
section
variable {ε α β S δ : Type} {Z : Wsh ε} {ρ : List (Option VP)} {κ : List Ow} {K : PySem.W.Frag} {te tx ta tb tc : TE} {wi : TI} {u : TS} {R : α → VP}
theorem each_ints {F : Hp} : ∀ {xs : List Nat} {vs : List V}, Each (xs.map (fD K dN)) vs F → vs = xs.map fun n => V.int (n : Nat)
  | [], [], _ => rfl
  | x :: xs, v :: vs, h => by
    have h1 : Dp K F v (.int (x : Nat)) := h.1
    cases h1
    rw [each_ints (xs := xs) h.2]; rfl
  | [], _ :: _, h => h.elim
  | _ :: _, [], h => h.elim
/-! ### triples -/
/-! ### range(a, b, 2) -/
end
end Tw

/-! Tg0: next((x for x, y in enumerate(e) if not y[z]), None). -/
namespace Rs
open PySem PySem.Spec PyProof.Rows L2 GxR

section
variable {prog : Program} {w : World} {A : Around} {E : Value → Shared → Prop} {s : Shared}
end

section
variable {X : Cx} {pins : List (Addr × Obj)} {σ : L2.St} {H : Hp} {s : Shared}
end

variable {X : Cx}
end Rs

/-! Tg1: for x, y in zip(a, b, strict=True), two tuples. -/
namespace Rz
open PySem PySem.Spec PyProof.Rows L2
variable [Rs.Tabz]
open PySem.Sem (wp)
section
variable {prog : Program} {w : World} {A : Around} {E : Value → Shared → Prop} {s : Shared}
open Builtin.SmallTypes (nextOf nextOrEnd)
end
section
end
end Rz

/-! Tg2: zip(.., strict=True) walked, enumerate of a list, next of a generator expression, what is optional, in terms. -/
namespace Tw
open PySem PySem.Spec PyProof.Rows L2 SlX StX Rs Ma Sn
variable [Rs.Tabz]
section
variable {K : PySem.W.Frag} {a b : Addr} {xs ys vs ws : List V} {Ra Ss : List VP} {F1 : Hp}
end
section
variable {ε α β γ δ : Type} {Z : Wsh ε} {ρ : List (Option VP)} {κ : List Ow} {K : PySem.W.Frag} {te ta tb tc : TE} {i : Nat} {R : α → VP} {Rb : β → VP}
/-! ### what is optional -/
def dO : Option Nat → PyData
  | none => .none
  | some n => .int (n : Nat)
instance : Nice dO 0 := ⟨fun a => by cases a <;> rfl, fun a => by cases a <;> exact Nat.zero_le _, fun a b => by
  cases a with
  | none => cases b <;> rfl
  | some x =>
    cases b with
    | none => rfl
    | some y =>
      show ((x : Int) == (y : Int)) = _
      by_cases h : x = y
      · subst h; simp
      · have : (x : Int) ≠ y := by omega
        simp [h, this]⟩
instance : NoL dO := ⟨fun a => by cases a <;> rfl⟩
/-! ### a table has grown -/
theorem At.tab {F H H' : Hp} {L : Cells} {P : Addr} (A : At F L H) (hP : Tabz.ts P) (hnm : Tabz.nm P = none) (t : GxR.Tabbed P H H') : At F L H' := by
  have ne : ∀ {b : Addr} {u : HO}, H b = some u → (∀ ps, u ≠ .tbl ps) → b ≠ P := fun {b u} e h z => by
    obtain ⟨ps, e2, _⟩ := A.tb P hP
    rw [z, e2] at e
    exact h ps (Option.some.inj e).symm
  refine ⟨fun b u e => ?_, fun p q => by rw [t.2 p.1 (ne (A.on p q) (A.nb p q))]; exact A.on p q, A.off, A.nd, A.nt, A.nb, A.nc, fun P2 h2 => ?_, A.ft⟩
  · have hb : b ≠ P := fun z => by rw [z, A.ft P hP] at e; cases e
    rw [t.2 b hb]; exact A.ex b u e
  · by_cases h : P2 = P
    · subst h
      obtain ⟨ps, e, r⟩ := t.1
      exact ⟨ps, e, r, fun q hq => by rw [hnm] at hq; cases hq⟩
    · obtain ⟨ps, e, r⟩ := A.tb P2 h2
      exact ⟨ps, by rw [t.2 P2 h]; exact e, r⟩
end
end Tw

/-! Tg3: promises of defs with a table of code objects; the head of a law with one. -/
namespace Tw
open PySem PySem.Spec PyProof.Rows L2 SlX StX Rs Ma
variable [Rs.Tabz]
section
variable {P : Program} {w : World} {K : PySem.W.Frag} {mg : Str → Option Value} {base : Heap} {γ δ S : Type}
end
end Tw

/-! Mn: roots of whatever webs are heard by all in time; other numbers of houses and roots. -/
namespace Ma
variable [Rs.Tabz]
open Rs
section
variable {n x : Nat} {l : List Rows} {r rs qs : Rows} {ns : List Nat}
/-- who hears x behind the rounds l -/
def hears (n : Nat) (l : List Rows) (x : Nat) : List Nat := (List.range n).filter fun o => decide (x ∈ hbL (wholeR l n) o)
/-! other numbers -/
abbrev pi (ns : List Nat) (x : Nat) : Nat := ns.getD x 0
section
variable (inj : ∀ a b, a < rs.length → b < rs.length → pi ns a = pi ns b → a = b) (lt : ∀ a, a < rs.length → pi ns a < rs.length)
include inj lt
end
end
end Ma

/-! Tp0: what a pool is. -/
namespace Wb
open PySem PySem.Spec PyProof.Rows L2 SlX StX Rs Ma Sn Tw
variable [Rs.Tabz]
def psize (rss : List Rows) : Nat := (rss.headD []).length
/-- different webs on the same houses -/
structure POk (rss : List Rows) : Prop where
  pos : 1 ≤ rss.length
  le : rss.length ≤ 8
  nd : rss.Nodup
  ok : ∀ rs ∈ rss, Ok rs
  sz : ∀ rs ∈ rss, rs.length = psize rss
def placesL (rss : List Rows) : List (Rows × Nat) := (enumL rss).map fun x => (x.2, x.1)
noncomputable def poolVs (CW : Addr) (K : PySem.W.Frag) (P : Program) (w : World) (rss : List Rows) : List VP := [fTp K (webP CW K) rss, fD K dN (psize rss), fDK K P w (dT (dT dN)) (fD K dN) (placesL rss)]
instance {CW : Addr} {K : PySem.W.Frag} {P : Program} {w : World} {rss : List Rows} : MonoL (poolVs CW K P w rss) := by unfold poolVs; infer_instance
noncomputable def poolP (C CW : Addr) (K : PySem.W.Frag) (P : Program) (w : World) (rss : List Rows) : VP := fun v F => POk rss ∧ Ob C [2, 1, 0] (poolVs CW K P w rss) v F
instance {C CW : Addr} {K : PySem.W.Frag} {P : Program} {w : World} {rss : List Rows} : Mono (poolP C CW K P w rss) := ⟨fun _ _ _ e h => ⟨h.1, Mono.go h.2 e⟩⟩
section
variable {P : Program} {w : World} {K : PySem.W.Frag} {C_Pool C_Web : Addr}
end
end Wb

/-! Mo: equal views, in plain terms. -/
namespace Wb
open Rs Ma
variable [Rs.Tabz]
/-- which houses still have equal views behind one more round -/
def stillL (ahead : List Bool) (one other : Rows) : List Bool := (List.range one.length).map fun h => decide (hbL one h = hbL other h) && (hbL one h).all fun n => ahead.getD n false
def eqStep (p : List Rows) (acc : List (List Bool)) (lr : Nat × Nat) : List (List Bool) := acc ++ [stillL (acc.getLast?.getD []) (p.getD lr.1 []) (p.getD lr.2 [])]
def eqRowsL (p : List Rows) (one other : List Nat) : List (List Bool) := (one.zip other).foldl (eqStep p) [List.replicate (psize p) true]
def eqInL (p : List Rows) (one other : List Nat) : List Nat := (List.range (psize p)).filter fun h => ((eqRowsL p one other).getLast?.getD []).getD h false
theorem still_len {E : List Bool} {a b : Rows} : (stillL E a b).length = a.length := by unfold stillL; rw [List.length_map, List.length_range]
theorem fold_len {p : List Rows} {n : Nat} (hp : ∀ rs ∈ p, rs.length = n) : ∀ {zs : List (Nat × Nat)} {acc : List (List Bool)}, (∀ z ∈ zs, z.1 < p.length) → (∀ r ∈ acc, r.length = n) → ∀ r ∈ zs.foldl (eqStep p) acc, r.length = n
  | [], acc, _, h, r, hr => h r hr
  | z :: zs, acc, hz, h, r, hr => by
    refine fold_len hp (fun y hy => hz y (List.mem_cons_of_mem _ hy)) (fun q hq => ?_) r hr
    rcases List.mem_append.mp hq with q1 | q1
    · exact h q q1
    · rw [List.mem_singleton.mp q1, still_len]
      have e := List.getElem?_eq_getElem (hz z List.mem_cons_self)
      rw [List.getD_eq_getElem?_getD, e]
      exact hp _ (List.getElem_mem _)
theorem rows_len {p : List Rows} (ok : POk p) {one other : List Nat} (h : ∀ x ∈ one, x < p.length) : ∀ r ∈ eqRowsL p one other, r.length = psize p := by
  refine fold_len ok.sz (fun z hz => h _ (List.of_mem_zip hz).1) fun r hr => ?_
  rw [List.mem_singleton.mp hr, List.length_replicate]
end Wb

/-! Tg4: sorted of a list, as a list that can be joined; is None. -/
namespace Tw
open PySem PySem.Spec PyProof.Rows L2 SlX StX Rs Ma
variable [Rs.Tabz]
section
variable {ε α β γ δ : Type} {Z : Wsh ε} {ρ : List (Option VP)} {κ : List Ow} {K : PySem.W.Frag} {te ta tb tc : TE} {i : Nat} {R : α → VP} {Rb : β → VP}
theorem nums_vs {vs : List V} {F : Hp} : ∀ {xs : List Nat} {vs : List V}, Each (xs.map (fD K dN)) vs F → vs = (cI xs).map V.int
  | [], [], _ => rfl
  | x :: xs, v :: vs, h => by
    have h1 : Dp K F v (.int (x : Nat)) := h.1
    cases h1
    rw [nums_vs (vs := vs) h.2]; rfl
theorem vs_nums {F : Hp} : ∀ {xs : List Nat}, Each (xs.map (fD K dN)) ((cI xs).map V.int) F
  | [] => True.intro
  | x :: xs => ⟨.int _, vs_nums⟩
theorem c_sortedLn : Cb ε (rSorted K) (fun xs => [fLn (fD K dN) xs]) (fun xs Q X => xs.length < 64 ∧ Q (sortN xs)) (fLn (fD K dN)) :=
  cb1 fun xs v F L hx Q X ⟨q0, q1⟩ => ⟨_, q1, r_cb (r_cons (r_c (R := Ln (xs.map (fD K dN))) hx) r_nil) fun vs F1 e1 hv => by
    obtain ⟨v, rfl, a, us, rfl, hs, hr⟩ := each1 hv
    have eu := nums_vs (vs := us) hr
    subst eu
    refine fun F2 N H e A Q q => ⟨a, cI xs, rfl, .inl (.inl (A.ex _ _ (e _ _ hs))), by rw [List.length_map]; exact q0, fun ms p hp hm hn => q _ (upd F2 p _) _ (same_new (A.free hn)) (A.new hn) ?_⟩
    have e : ms = cI (sortN xs) := List.Perm.eq_of_pairwise (le := (· ≤ ·)) (fun a b _ _ x y => Int.le_antisymm x y) hm (List.pairwise_map.mpr (sortN_asc.imp fun {a b} h => by show (a : Int) ≤ (b : Int); omega)) (hp.trans (sortN_perm.map _).symm)
    rw [e]
    exact ⟨p, _, rfl, upd_same, vs_nums⟩⟩
end
end Tw

/-! Ti0: next((e for x in xs if c), None), c and e any expressions (calls too). -/
namespace Rs
open PySem PySem.Spec PyProof.Rows L2 GxR

section
variable {X : Cx} {pins : List (Addr × Obj)} {σ : L2.St} {H : Hp} {s : Shared}
end

section
variable {Xg : Cx} {A : Around} {elt iter cond : Expr} {x : Str} {px : Pos} {scope : Scope} {pos : Pos} {it : Addr} {fp : List Addr} {tn : Nat → Heap → Prop} {J : It} {ix : Nat} {tt : TT} {tv : TE} {Q : VK} {s₀ : Shared}
end
section
variable {prog : Program} {w : World} {A : Around} {E : Value → Shared → Prop} {s : Shared}
end
section
variable {X : Cx}
end
end Rs
namespace Tw
open PySem PySem.Spec PyProof.Rows L2 SlX StX Rs Ma
variable [Rs.Tabz]
def fOpt {δ : Type} (R : δ → VP) : Option δ → VP := fun o v F => match o with
  | none => v = .non
  | some d => R d v F
instance {δ : Type} {R : δ → VP} [hM : ∀ d, Mono (R d)] {o : Option δ} : Mono (fOpt R o) := ⟨fun v F F' e h => by
  cases o with
  | none => exact h
  | some d => exact (hM d).mono v F F' e h⟩
section
variable {ε β δ : Type} {Z : Wsh ε} {ρ : List (Option VP)} {κ : List Ow} {K : PySem.W.Frag} {wi : TI} {tt : TT} {tv te : TE} {ix : Nat} {P : Addr} {Rd : δ → VP}
end
end Tw

/-! Ti1: t[::-1] of tuples, is not of bools, zip of two tuples, list * int as a list of one's own. -/
namespace HT
open PySem PySem.Spec PyProof.Rows L2
section
variable {prog : Program} {w : World} {A : Around} {E : Value → Shared → Prop} {s : Shared}
theorem places_rev (n : Nat) : Builtin.Slice.slicePlaces ((n : Int) - 1) (-1) (-1) = n := by
  unfold Builtin.Slice.slicePlaces
  rw [if_neg (by decide)]
  by_cases c : n = 0
  · subst c; rfl
  · rw [if_pos (by omega)]
    show ((((n : Int) - 1 - -1 - 1) / 1 + 1).toNat) = n
    rw [Int.ediv_one]
    omega
theorem sliceApplied_rev {sl : Addr} {vl vu vs : Value} {n : Nat} {Q : Int × Int × Nat → Shared → Prop} (hs : s.heap.IsSliceOf sl vl vu vs) (pl : IsPart vl none) (pu : IsPart vu none) (ps : IsPart vs (some (-1)))
    (h : Q ((n : Int) - 1, -1, n) s) : wpAny (model prog w) A (Builtin.Slice.sliceApplied (.ref sl) (pure (n : Int))) Q E s := by
  obtain ⟨os, hos, hcs, hds⟩ := id hs
  unfold Builtin.Slice.sliceApplied Builtin.Slice.sliceFields
  refine wpAny_bind (wpAny_bind (wpAny_field hos hds (x := vl) rfl (wpAny_bind (wpAny_field hos hds (x := vu) rfl (wpAny_bind (wpAny_field hos hds (x := vs) rfl (wpAny_pure ?_)))))))
  refine wpAny_bind (slicePart_ ps ?_)
  show wpAny _ _ (if ((-1 : Int) == 0) = true then _ else _) _ _ s
  rw [if_neg (by decide)]
  refine wpAny_bind (slicePart_ pl (wpAny_bind (slicePart_ pu (wpAny_bind (wpAny_pure ?_)))))
  show wpAny _ _ (pure ((n : Int) - 1, (-1 : Int), Builtin.Slice.slicePlaces ((n : Int) - 1) (-1) (-1))) _ _ s
  rw [places_rev]
  exact wpAny_pure h
theorem fm_congr {α β : Type} {f g : α → Option β} : ∀ {l : List α}, (∀ m ∈ l, f m = g m) → l.filterMap f = l.filterMap g
  | [], _ => rfl
  | x :: l, h => by
    rw [List.filterMap_cons, List.filterMap_cons, h x List.mem_cons_self, fm_congr (l := l) fun m hm => h m (List.mem_cons_of_mem _ hm)]
theorem pick_rev (xs : Array Value) : ((List.range xs.size).filterMap fun (m : Nat) => xs[(((xs.size : Int) - 1) + (m : Int) * (-1)).toNat]?).toArray = xs.toList.reverse.toArray := by
  congr 1
  have e : ∀ m ∈ List.range xs.size, (fun (m : Nat) => xs[(((xs.size : Int) - 1) + (m : Int) * (-1)).toNat]?) m = (some ∘ fun m => xs.toList.reverse.getD m .none) m := fun m hm => by
    have hm := List.mem_range.mp hm
    have e1 : (((xs.size : Int) - 1) + (m : Int) * (-1)).toNat = xs.size - 1 - m := by omega
    show xs[(((xs.size : Int) - 1) + (m : Int) * (-1)).toNat]? = some (xs.toList.reverse.getD m .none)
    rw [e1, List.getD_eq_getElem?_getD, List.getElem?_reverse (by simpa using hm)]
    have h2 : xs.size - 1 - m < xs.size := by omega
    simp [Array.getElem?_eq_getElem h2]
  rw [fm_congr e, List.filterMap_eq_map]
  refine List.ext_getElem (by simp) fun i h1 h2 => ?_
  rw [List.getElem_map, List.getElem_range, List.getD_eq_getElem?_getD, List.getElem?_eq_getElem h2]; rfl
theorem getItem_tuple_rev {t sl : Addr} {items : Array Value} {vl vu vs : Value} {Q : Value → Shared → Prop} (ht : IsTup s.heap t items) (hs : s.heap.IsSliceOf sl vl vu vs) (pl : IsPart vl none) (pu : IsPart vu none) (ps : IsPart vs (some (-1)))
    (h : Q (.ref s.heap.objs.size) { s with heap := s.heap.push { cls := .type "tuple", data := .seq items.toList.reverse.toArray } })
    (hsz : items.size ≤ sizeLine) : wpAny (model prog w) A (getItem (.ref t) (.ref sl)) Q E s := by
  have htake : sizeOk (.seq items.toList.reverse.toArray) := by
    show items.toList.reverse.toArray.size ≤ sizeLine
    rw [List.size_toArray, List.length_reverse, Array.length_toList]
    exact hsz
  obtain ⟨os, hos, hcs, hds⟩ := id hs
  have hTs : s.TypeIs (.ref sl) "slice" := ⟨os, hos, hcs⟩
  unfold getItem
  try with_reducible refine wpAny_holding ?_
  first | refine wpAny_bind (wpAny_pure ?_) | skip
  refine wpAny_bind (wpAny_sequenceKey ht.typeIs (by decide) ?_)
  refine wpAny_bind (wpAny_callSpecial?_slot (name := Str.ofString "__getitem__") ht.typeIs PyProof.Rows.slot_tuple_getitem
    (wpAny_call_entry PyProof.Rows.slot_tuple_getitem ht.typeIs entry_tuple_getitem ?_ (args_tuple_getitem _ _)))
  show wpAny _ _ (Builtin.Tuple.tupleItemsOf (.ref t) >>= _) _ _ s
  refine wpAny_bind (tupleItemsOf_ ht ?_)
  refine wpAny_bind (wpAny_typeOf hTs ?_)
  rw [if_pos (by decide)]
  refine wpAny_bind (sliceApplied_rev hs pl pu ps ?_)
  have hno : ¬ ((((items.size : Int) - 1) == 0 && (-1 : Int) == 1 && items.size == items.size) = true) := by
    intro q
    rw [Bool.and_eq_true, Bool.and_eq_true] at q
    exact absurd q.1.2 (by decide)
  show wpAny _ _ (if (((items.size : Int) - 1) == 0 && (-1 : Int) == 1 && items.size == items.size) = true then _ else _) _ _ s
  rw [if_neg hno, pick_rev]
  first
    | exact wpAny_bind (m := Builtin.Tuple.tupleExact _) (wpAny_newObj_type (wpAny_pure ⟨_, rfl, wpAny_pure h⟩) htake)
    | exact wpAny_bind (m := Builtin.Tuple.tupleExact _) (wpAny_newObj_type (wpAny_bind (wpAny_pure (wpAny_pure ⟨_, rfl, wpAny_pure h⟩))) htake)
    | exact wpAny_bind (wpAny_bind (m := Builtin.Tuple.tupleExact _) (wpAny_newObj_type (wpAny_pure (wpAny_pure ⟨_, rfl, wpAny_pure h⟩)) htake))
    | exact wpAny_bind (wpAny_bind (m := Builtin.Tuple.tupleExact _) (wpAny_newObj_type (wpAny_pure ⟨_, rfl, wpAny_pure h⟩) htake))
end
end HT
namespace Rs
open PySem PySem.Spec PyProof.Rows L2
section
variable {X : Cx}
def tRevT (K : PySem.W.Frag) (te : TE) : TE := fun σ H Q => te σ H fun x H1 => ∃ a xs, x = .ref a ∧ SqT K H1 a xs ∧ ∀ p, H1 p = none → Q (.ref p) (upd H1 p (.tup xs.reverse))
theorem pe_revT (K : PySem.W.Frag) {e : Expr} {te : TE} {k : Nat} {p1 p2 p3 pos : Pos} (he : PE X e te) (hK : X.K = K := by rfl) : PE X (.Subscript e (.Slice none none (some (.UnaryOp .USub (.Constant (.int 1) k p1) p2)) p3) pos) (tRevT K te) := by
  subst hK
  refine ⟨fun pins s σ H Q I h => ?_⟩
  refine Subscript_ (thn (he.run pins s σ H _ I h) fun v s1 ⟨x, H1, I1, r1, q1⟩ => ?_)
  obtain ⟨a, xs, ex, hx, q⟩ := q1
  subst ex
  cases r1
  have hst : PO X (some (.UnaryOp .USub (.Constant (.int 1) k p1) p2)) (tPart (tUn (rU fun i => .int (-i)) (tC (.int 1)))) := po_some (pe_un un_neg pe_int)
  refine wpAny_Slice (thn (po_none.run pins s1 σ H1 (fun o H2 => o = none ∧ H2 = H1) I1 ⟨rfl, rfl⟩) fun vl s2 ⟨l, H2, I2, pl, el, e2⟩ => ?_)
  subst el e2
  refine thn (po_none.run pins s2 σ H2 (fun o H3 => o = none ∧ H3 = H2) I2 ⟨rfl, rfl⟩) fun vu s3 ⟨u, H3, I3, pu, eu, e3⟩ => ?_
  subst eu e3
  refine thn (hst.run pins s3 σ H3 (fun o H4 => o = some (-1) ∧ H4 = H3) I3 ⟨1, rfl, -1, rfl, rfl, rfl⟩) fun vs s4 ⟨o, H4, I4, ps, eo, e4⟩ => ?_
  subst eo e4
  have I5 : Inv X pins σ H4 { s4 with heap := s4.heap.push { cls := .type "slice", data := .fields #[vl, vu, vs] } } := I4.kept (t' := s4.toks) fun b ob q => Heap.get?_push_of_some _ q
  obtain ⟨its, r, ht, hz⟩ := I5.tuple hx
  have hlen := r.length
  show wpAny (model X.prog X.w) X.A (subscriptTail e (.Slice none none (some (.UnaryOp .USub (.Constant (.int 1) k p1) p2)) p3) (.ref a) (.ref s4.heap.objs.size)) (EP X pins σ Q) X.xe { s4 with heap := s4.heap.push { cls := .type "slice", data := .fields #[vl, vu, vs] } }
  refine tail_any (ops := [.ref a, .ref s4.heap.objs.size]) ht.typeIs (PyProof.Rows.slot_tuple_getitem.lookup) ?_ (by with_unfolding_all rfl)
  refine HT.getItem_tuple_rev ht (Heap.IsSliceOf.new _ vl vu vs) pl pu ps ?_ (by rw [List.size_toArray]; omega)
  refine ⟨.ref _, _, I5.laid (t' := s4.toks) (o := .tup xs.reverse) (fun b ob q => Heap.get?_push_of_some _ q) (Nat.le_refl _) ?_, rfl, q _ (I5.hok.fresh (Nat.le_refl _))⟩
  exact ⟨by rw [List.length_reverse]; exact hz, _, r.reverse, IsTup.new _ _⟩
end
end Rs
namespace Tw
open PySem PySem.Spec PyProof.Rows L2 SlX StX Rs Ma
variable [Rs.Tabz]
section
variable {ε α β γ δ : Type} {Z : Wsh ε} {ρ : List (Option VP)} {κ : List Ow} {K : PySem.W.Frag} {te ta tb tc tx : TE} {i : Nat} {R : α → VP} {Rb : β → VP}
theorem each_rev : ∀ {Rs : List VP} {vs : List V} {F : Hp}, Each Rs vs F → Each Rs.reverse vs.reverse F
  | [], [], _, _ => True.intro
  | R :: Rs, v :: vs, F, h => by
    rw [List.reverse_cons, List.reverse_cons]
    exact each_app (each_rev h.2) ⟨h.1, True.intro⟩
  | [], _ :: _, _, h => h.elim
  | _ :: _, [], _, h => h.elim
theorem tr_revT {ml : Wm ε (List α)} [∀ a, Mono (R a)] (h : TrE Z ρ κ te ml (fTp K R)) : TrE Z ρ κ (tRevT K te) (fun Q X => ml (fun xs => Q xs.reverse) X) (fTp K R) :=
  ⟨inferInstance, fun σ F L s c Q X q => rw_bind (k := te σ) (k2 := fun (v : V) (H1 : Hp) (Q : V → Hp → Prop) => ∃ (a : Addr) (xs : List V), v = V.ref a ∧ SqT K H1 a xs ∧ ∀ p : Addr, H1 p = none → Q (V.ref p) (upd H1 p (HO.tup xs.reverse))) (h.run σ F L s c _ X q) fun v F1 e ⟨xs, q1, a, vs, ev, hs, hv⟩ => .of fun F2 N H e2 A Qk qk => by
    subst ev
    refine ⟨a, vs, rfl, sqT_up (e2.trans A.ex) hs, fun p hp => ?_⟩
    have s1 : Same F2 (upd F2 p (.tup vs.reverse)) := same_new (A.free hp)
    refine qk _ _ _ s1 (A.new hp) ⟨_, q1, p, _, rfl, .inl (.inl upd_same), ?_⟩
    have h2 := MonoL.mono _ _ _ (e2.trans s1) hv
    rw [List.map_reverse]
    exact each_rev h2⟩
end
end Tw

/-! Tj0: a list of one's own that is changed no more. -/
namespace Tw
open PySem PySem.Spec PyProof.Rows L2 SlX StX Rs Ma
variable [Rs.Tabz]
section
variable {ε α S δ : Type} {Z : Wsh ε} {ρ : List (Option VP)} {κ : List Ow} {K : PySem.W.Frag} {t : TS} {i : Nat} {R : α → VP} {ρ2 : S → List (Option VP)} {κ2 : S → List Ow} {Rd : δ → VP} {xs : List α} {m : Ws ε S δ}
theorem ts_freeze [∀ a, Mono (R a)] (h : TrS Z (st ρ i (some (fLn R xs))) κ t m ρ2 κ2 Rd) (hi : Nat.blt i ρ.length = true) : TrS Z ρ (.one i (ownL (xs.map R)) :: κ) t m ρ2 κ2 Rd :=
  ⟨fun σ F L sv sc Nx Rt X q F1 N H e A wsh D nx rt => by
    obtain ⟨a, o, L', hL, h1, h2, h3⟩ := sc
    subst hL
    have A1 : At F1 ((a, o) :: (L' ++ N)) H := A
    obtain ⟨us, ho, hu⟩ := h2 F1 e
    subst ho
    have e1 : Same F1 (upd F1 a (.lst us)) := same_new A1.off1
    have sv1 : SatV (st ρ i (some (fLn R xs))) (σ.set i (some (.ref a))) (upd F1 a (.lst us)) := satV_set ⟨a, us, rfl, upd_same, MonoL.mono _ _ _ e1 hu⟩ inferInstance (satV_up (e.trans e1) sv)
    have eσ : σ.set i (some (.ref a)) = σ := by
      apply List.ext_getElem?
      intro j
      by_cases hj : i = j
      · subst hj
        rw [List.getElem?_set_self (by rw [← sat_len sv]; exact Nat.le_of_ble_eq_true hi), h1]
      · rw [List.getElem?_set_ne hj]
    rw [eσ] at sv1
    exact h.run σ (upd F1 a (.lst us)) L' sv1 (satC_up (e.trans e1) h3) Nx Rt X q (upd F1 a (.lst us)) N H (Same.refl _) A1.keep (wsh.up e1) D (fun σ' F' L'' H' e' A' n => nx σ' F' L'' H' (e1.trans e') A' n) (fun v F' H' e' A' r => rt v F' H' (e1.trans e') A' r)⟩
end
/-! ### == of tuples of own objects in laws with tables: promises that keep everything -/
abbrev Tz0 : Rs.Tabz := ⟨fun _ => False, fun _ => none⟩
end Tw

/-! Tk0: an own list handed back ahead of other code; is None of what next gives. -/
namespace Tw
open PySem PySem.Spec PyProof.Rows L2 SlX StX Rs Ma
variable [Rs.Tabz]
section
variable {ε α β γ δ S : Type} {Z : Wsh ε} {ρ : List (Option VP)} {κ : List Ow} {K : PySem.W.Frag} {te : TE} {u : TS} {i : Nat} {R : α → VP} {ρ2 : S → List (Option VP)} {κ2 : S → List Ow}
/-- what is never None -/
class NoNon (R : α → VP) : Prop where
  nn : ∀ a v F, R a v F → v ≠ .non
instance {d : α → PyData} : NoNon (fD K (dT d)) := ⟨fun a v F h e => by
  have h : Dp K F v (dT d a) := h
  subst e
  cases h⟩
instance : NoNon (fD K dN) := ⟨fun a v F h e => by
  have h : Dp K F v (dN a) := h
  subst e
  cases h⟩
theorem fOpt_non {R : α → VP} [NoNon R] {o : Option α} {v : V} {F : Hp} (h : fOpt R o v F) : decide (v = V.non) = o.isNone := by
  cases o with
  | none => have h : v = .non := h; rw [h]; rfl
  | some a => exact decide_eq_false (NoNon.nn (R := R) a v F h)
theorem tr_isNT [NoNon R] {m : Wm ε (Option α)} (h : TrE Z ρ κ te m (fOpt R)) : TrE Z ρ κ (tIsN te) (fun Q X => m (fun o => Q o.isNone) X) (fD K dB) :=
  ⟨inferInstance, fun σ F L s c Q X q => rw_bind (k := te σ) (k2 := fun (x : V) H1 (Q : V → Hp → Prop) => Q (V.bl (decide (x = V.non))) H1) (h.run σ F L s c _ X q) fun v F1 e1 ⟨o, q1, hv⟩ => .of (run_ret fun F2 e2 => ⟨_, q1, by
    rw [fOpt_non hv]; exact .bl _⟩)⟩
theorem tr_notNT [NoNon R] {m : Wm ε (Option α)} (h : TrE Z ρ κ te m (fOpt R)) : TrE Z ρ κ (tNotN te) (fun Q X => m (fun o => Q o.isSome) X) (fD K dB) :=
  ⟨inferInstance, fun σ F L s c Q X q => rw_bind (k := te σ) (k2 := fun (x : V) H1 (Q : V → Hp → Prop) => Q (V.bl (!decide (x = V.non))) H1) (h.run σ F L s c _ X q) fun v F1 e1 ⟨o, q1, hv⟩ => .of (run_ret fun F2 e2 => ⟨_, q1, by
    rw [fOpt_non hv, Option.not_isNone]; exact .bl _⟩)⟩
end
end Tw

/-! Tk1: the head of a law with a table and with repr. -/
namespace Tw
open PySem PySem.Spec PyProof.Rows L2 SlX StX Rs Ma Sn
section
variable {P : Program} {w : World} {K : PySem.W.Frag} {mg mb : Str → Option Value} {k : Nat} {fa a cA PT : Addr} {fd : FuncData} {x : Str} {s₁ : Shared} {vs : List Value} {ns : List Int}
end
section
variable [Rs.Tabz]
/-! ### repr of a truth -/
section
variable {X : Cx}
variable {e : Expr} {es : List Expr} {t : TA} {p pos : Pos}
end
end
end Tw

/-! Tm0: C(v) where C is a class of exceptions over a built-in one, with `super().__init__('..'); self.f = f` for its own __init__. -/
namespace PySem
namespace SuI
open PySem.W PySem.Calls PyProof.Rows PySem.Spec
section
variable {prog : Program} {w : World} {A : Around} {E : Value → Shared → Prop} {h : Heap} {g : Array GenState} {d : Drawn} {t : Nat} {os : OsState} {K : Frag} {B i newId : String} {bmB : List Value}
end
section
variable {prog : Program} {w : World} {A : Around} {R : Result → Shared → Prop} {s : Shared} {K : Frag} {mg mb : Str → Option Value} {B i newId : String} {bmB : List Value}
end
end SuI
end PySem

/-! Tm1: what the written part says of a class of exceptions with `super().__init__('..'); self.f = f`; C(v) as an exception that is made. -/
namespace PySem
namespace SuI
open PySem.W PySem.Calls PyProof.Rows PySem.Spec
end SuI
end PySem

/-! Tm2: raise C(v), as a rule. -/
namespace L2
open PySem PySem.Spec PyProof.Rows
end L2

/-! Tm3: try with several clauses, some of them with a name. -/
namespace L2
open PySem PySem.Spec PyProof.Rows
/-- a clause: its class, the slot of its name (if it has one), its suite -/
structure Clz where
  c : Value
  i : Option Nat
  ts : Addr → Value → Option Addr → TS
/-- what stands behind a clause with a name: the name is gone -/
def Ends.gone (D : Ends) (i : Nat) : Ends := { nx := fun σ H => D.nx (σ.set i none) H, rt := D.rt, bk := fun σ H => D.bk (σ.set i none) H, ct := fun σ H => D.ct (σ.set i none) H }
def Clz.run (z : Clz) (cls : Value) (d : Option Addr) (D : Ends) (σ : St) (H : Hp) : Prop := ∀ a, H a = none → match z.i with
  | none => z.ts a cls d D σ H
  | some i => z.ts a cls d (D.gone i) (σ.set i (some (.ref a))) H
section
variable {X : Cx} {pins : List (Addr × Obj)} {σ : St} {H : Hp} {B : Heap} {sI s : Shared} {a : Addr} {cls : Value} {d : Option Addr} {D : Ends} {Wout : WX}
/-- a caught exception, looked at by the clauses -/
structure Caught (X : Cx) (pins : List (Addr × Obj)) (σ : St) (H : Hp) (B : Heap) (sI s : Shared) (a : Addr) (cls : Value) (d : Option Addr) : Prop where
  inv : Inv X pins σ H sI
  nb : ∀ b o, sI.heap.get? b = some o → b ∉ frs X.stack → B.get? b = some o
  up : sI.heap.UpToSlots s.heap
  fl : HandSPX.FlyingZ B (X.env :: X.outer) a (Zc cls d) s.heap
  na : H a = none
  os : s.os = sI.os
  ag : AllBare s.gens
theorem Caught.here (C : Caught X pins σ H B sI s a cls d) : Inv X pins σ H s := C.inv.landed C.nb C.fl.1 C.up C.os C.ag
end
section
variable {X : Cx} {body : List Stmt} {h₀ : ExceptHandler} {hds : List ExceptHandler} {l : List Clz} {pos : Pos} {tb : WX → TS} {Wout : WX}
end
end L2

/-! Tl0: defs that raise, calls of them, raise, try .. except C. Of an exception its class is told. -/
namespace Tw
open PySem PySem.Spec PyProof.Rows L2 SlX StX Rs Ma
variable [Rs.Tabz]
/-- exceptions by their class, wished by W, in a def of n slots -/
def Zx (W : WX) (n : Nat) : Wsh Value where
  wi := W
  xr := fun c cls _ _ => cls = c
  t := fun σ _ _ => σ.length = n
  tl := fun _ _ _ _ h => h
/-- a promise by a wish of a result and one of exceptions -/
def SpE {γ δ : Type} (Rs : γ → List VP) (spec : γ → (δ → Prop) → (Value → Prop) → Prop) (R : δ → VP) : Sp := fun vs H Q E => ∃ g F N P PX, At F N H ∧ Each (Rs g) vs F ∧ spec g P PX ∧ (∀ d v F' H', Same F F' → At F' N H' → P d → R d v F' → Q v H') ∧
  ∀ c d F' H', Same F F' → At F' N H' → PX c → E c d H'
structure GfX (P : Program) (w : World) (K : PySem.W.Frag) (mg : Str → Option Value) (base : Heap) (k : Nat) (x : Str) (sp : Sp) : Prop where
  ex : ∃ f fd ps, FnOk P w K mg base (L2.CX P w) k f fd ps sp ∧ mg x = some (.ref f) ∧ PySem.W.keepIn K (.ref f) = true ∧ Binds K fd ps []
section
variable {X : Cx} {e : Expr} {es : List Expr} {t : TA} {p pos : Pos} {f : Str} {W : WX}
/-- raise C('m') -/
def tRaise (W : WX) (C : Addr) : TS := fun _ σ H => W (.ref C) none σ H
/-- what is known of a class of exceptions over ValueError -/
structure XCls (K : PySem.W.Frag) (mg : Str → Option Value) (x : Str) (C : Addr) : Prop where
  g : mg x = some (.ref C)
  ex : PySem.W.excIn K C [.type "ValueError", .type "Exception", .type "BaseException", .type "object"] "ValueError.__new__" = true
  kp : PySem.W.keepIn K (.ref C) = true
  b : PySem.W.subIn K (.ref C) (.type "BaseException") = some true
  t : PySem.W.typeIn K (.ref C) = some (.type "type")
  c : PySem.W.exmOne K (.ref C) (.ref C) = some true
theorem p_raise {x m : Str} {C : Addr} {j : Nat} {p p2 pos pos2 : Pos} (hc : X.calm = true) (tk : Takes X W) (h : XCls X.K X.mg x C) (hg : Gl X x := by rfl) (hdb : (x == ("__debug__" : Str)) = false := by decide) :
    PS X (.Raise (some (.Call (.Name x p) [.Constant (.str m) j p2] [] pos)) none pos2) (tRaise W C) :=
  ps_raise hc tk (pmk_own PySem.F.excBase_ValueError h.ex h.g h.kp (raises_own h.b h.t) hg hdb)
/-- try: body, except C: suite, where no other exception leaves -/
def tTry (K : PySem.W.Frag) (C : Addr) (tb : WX → TS) (ts : TS) : TS := fun D σ H => tb (wOnly K (.ref C) (fun _ _ _ => ts) (fun _ _ _ _ => False) D) D σ H
theorem p_try {x : Str} {C : Addr} {body suite : List Stmt} {b₀ : Stmt} {np pos pos' : Pos} {tb : WX → TS} {ts : TS} (hs : X.stack = X.env :: X.outer) (hf : X.env.frame = some X.env.locals) (h : XCls X.K X.mg x C)
    (hb : ∀ (W : WX) (pn : List (Addr × Obj)) (xe : Value → Shared → Prop), Takes (X.tr pn xe) W → PassesOwn (model X.prog X.w) X.A X.env xe → PSs (X.tr pn xe) body (tb W))
    (hsu : ∀ (a : Addr) (pn : List (Addr × Obj)), PSs (X.suite a pn) (b₀ :: suite) ts) (hg : Gl X x := by rfl) (hdb : (x == ("__debug__" : Str)) = false := by decide) :
    PS X (.Try body [.ExceptHandler (some (.Name x np)) none (b₀ :: suite) pos'] [] [] pos) (tTry X.K C tb ts) :=
  ps_try_only hs hf ⟨hg, hdb, .inl h.g⟩ (fun u s' ⟨_, _, _, _, _, _, _, _, _, _, _, _, _, _, _, _, z⟩ => z.elim) hb fun a oe cls d pn _ _ => hsu a ((a, oe) :: pn)
end
section
variable {α β γ δ S : Type} {ρ : List (Option VP)} {κ : List Ow} {K : PySem.W.Frag} {t : TA} {mg : Wm Value γ} {Rs : γ → List VP} {Rd : δ → VP} {W : WX} {n : Nat} {ρ2 : S → List (Option VP)} {κ2 : S → List Ow}
/-- the state behind an exception: no slot is known -/
theorem sat_lost : ∀ {n : Nat} {σ : L2.St} {F : Hp}, σ.length = n → SatV (List.replicate n none) σ F
  | 0, [], _, _ => True.intro
  | 0, _ :: _, _, h => nomatch h
  | n + 1, [], _, h => nomatch h
  | n + 1, _ :: σ, F, h => sat_lost (n := n) (σ := σ) (F := F) (Nat.succ.inj h)
theorem ts_try {C : Addr} {x : Str} {mgl : Str → Option Value} {tb : WX → TS} {ts : TS} {mb : Ws Value S δ} {ms : Ws Empty S δ} (hx : XCls K mgl x C) (hb : ∀ W, TrS (Zx W n) ρ κ (tb W) mb ρ2 κ2 Rd) (hs : TrS Z0 (List.replicate n none) [] ts ms ρ2 κ2 Rd) :
    TrS Z0 ρ κ (tTry K C tb ts) (fun Nx Rt X => mb Nx Rt (fun c => c = .ref C ∧ ms Nx Rt X)) ρ2 κ2 Rd :=
  ⟨fun σ F L sv sc Nx Rt X q F1 N H e A wsh D nx rt => by
    refine (hb _).run σ F L sv sc Nx Rt _ q F1 N H e A (fun c cls d σ2 F2 L2 H2 e2 A2 hl ⟨hc, q2⟩ he => ?_) D nx rt
    have he : cls = c := he
    subst he
    subst hc
    refine ⟨true, hx.c, fun _ a _ => ?_, fun z => nomatch z⟩
    exact hs.run σ2 F2 [] (sat_lost hl) True.intro Nx Rt X q2 F2 N H2 (Same.refl _) A2.drop wish0 D (fun σ3 F3 L3 H3 e3 A3 n3 => nx σ3 F3 L3 H3 (e2.trans e3) A3 n3) fun v F3 H3 e3 A3 r3 => rt v F3 H3 (e2.trans e3) A3 r3⟩
end
section
variable {P : Program} {w : World} {K : PySem.W.Frag} {mg : Str → Option Value} {base : Heap} {γ δ : Type}
end
end Tw

/-! Tl1: {k: v for .. for ..} with nested keys. -/
namespace Sn
open PySem PySem.Spec PyProof.Rows L2 SlX StX Rs Ma
variable [Rs.Tabz]
section
variable {prog : Program} {w : World} {A : Around} {R : Result → Shared → Prop} {s : Shared} {kx vx t0 i0 t1 i1 : Expr} {ifs0 ifs1 : List Expr} {scope : Scope} {pos : Pos} {it acc : Value} {D : Addr} {env : Env}
end
section
variable {X : Cx}
end
end Sn
namespace Tw
open PySem PySem.Spec PyProof.Rows L2 SlX StX Rs Ma Sn
variable [Rs.Tabz]
section
variable {ε α β γ δ η : Type} {Z : Wsh ε} {ρ : List (Option VP)} {κ : List Ow} {K : PySem.W.Frag} {P : Program} {w : World} {tk tv : TE} {tt tt1 : TT} {wi wi1 : TI} {g g1 : TG} {n : Nat} {d : α → PyData} [DecidableEq α] [c : Keyd d n] {Rb : β → VP}
end
end Tw

/-! Tl2: new lists made while an own list is looked at; extend; break. -/
namespace Tw
open PySem PySem.Spec PyProof.Rows L2 SlX StX Rs Ma
variable [Rs.Tabz]
section
variable {ε α β γ δ S S1 : Type} {Z : Wsh ε} {ρ : List (Option VP)} {κ : List Ow} {K : PySem.W.Frag} {te : TE} {t u : TS} {tt : TT} {wi : TI} {g : TG} {i : Nat} {R : α → VP} {Rd : δ → VP} {ρ2 : S → List (Option VP)} {κ2 : S → List Ow} {ρ1 : S1 → List (Option VP)} {κ1s : S1 → List Ow}
/-! ### break -/
end
end Tw

/-! Tl3: a dict of one's own that is locked while a statement runs; walks over its keys; own = own + ..; max of a list; int of a truth. -/
namespace Tw
open PySem PySem.Spec PyProof.Rows L2 SlX StX Rs Ma
variable [Rs.Tabz]
/-! ### what does not lean on a locked dict -/
section
variable {K : PySem.W.Frag} {F : Hp} {a : Addr} {o : Obj} {zs : List (Key × V)}
theorem rd_cutZ (h1 : F a = some (.frz o (.dK zs))) {b : Addr} {u : HO} (hu : ∀ ks, u ≠ .dK ks) (hz : ∀ q w, u ≠ .frz q w) (h : F b = some u ∨ ∃ q, F b = some (.frz q u)) : cutF F a b = some u ∨ ∃ q, cutF F a b = some (.frz q u) := by
  have ne : b ≠ a := fun z => by
    rcases h with h | ⟨q, h⟩
    · rw [z, h1] at h
      exact hz _ _ (Option.some.inj h).symm
    · rw [z, h1] at h
      cases h
      exact hu _ rfl
  have e : cutF F a b = F b := by
    show (if b = a then none else F b) = _
    rw [if_neg ne]
  rw [e]; exact h
mutual
theorem dp_cutZ (h1 : F a = some (.frz o (.dK zs))) : ∀ (d : PyData) (v : V), Dp K F v d → Dp K (cutF F a) v d
  | .none, _, h => by cases h; exact .non
  | .bool b, _, h => by cases h; exact .bl b
  | .int i, _, h => by cases h; exact .int i
  | .str x, _, h => by cases h; exact .str x
  | .list ds, _, h => by
    cases h with
    | lst hs ha => exact .lst (hs.imp (fun r => rd_cutZ h1 (fun _ z => by cases z) (fun _ _ z => by cases z) r) id) (dps_cutZ h1 ds _ ha)
  | .dict _, _, h => by cases h
  | .tuple ds, _, h => by
    cases h with
    | tup hs ha => exact .tup (hs.imp (fun r => rd_cutZ h1 (fun _ z => by cases z) (fun _ _ z => by cases z) r) id) (dps_cutZ h1 ds _ ha)
theorem dps_cutZ (h1 : F a = some (.frz o (.dK zs))) : ∀ (ds : List PyData) (vs : List V), DpAll K F vs ds → DpAll K (cutF F a) vs ds
  | [], _, h => by cases h; exact .nil
  | d :: ds, _, h => by
    cases h with
    | cons x1 x2 => exact .cons (dp_cutZ h1 d _ x1) (dps_cutZ h1 ds _ x2)
end
end
/-- what is told does not lean on locked dicts -/
class CutZ {δ : Type} (R : δ → VP) : Prop where
  cut : ∀ d v F a o zs, F a = some (.frz o (.dK zs)) → R d v F → R d v (cutF F a)
class CutZ1 (R : VP) : Prop where
  cut : ∀ v F a o zs, F a = some (.frz o (.dK zs)) → R v F → R v (cutF F a)
instance {K : PySem.W.Frag} {α : Type} {d : α → PyData} : CutZ (fD K d) := ⟨fun x v F a o zs h r => dp_cutZ h (d x) v r⟩
theorem each_cutZ {α : Type} {R : α → VP} [CutZ R] {F : Hp} {a : Addr} {o : Obj} {ks : List (Key × V)} (h1 : F a = some (.frz o (.dK ks))) : ∀ {xs : List α} {vs : List V}, Each (xs.map R) vs F → Each (xs.map R) vs (cutF F a)
  | [], [], h => h
  | x :: xs, v :: vs, h => ⟨CutZ.cut x v F a o ks h1 h.1, each_cutZ h1 h.2⟩
  | [], _ :: _, h => h.elim
  | _ :: _, [], h => h.elim
instance {α : Type} {R : α → VP} [CutZ R] : CutZ (fLn R) := ⟨fun xs v F a o zs h ⟨b, vs, e, hb, r⟩ => ⟨b, vs, e, by
  have ne : b ≠ a := fun z => by rw [z, h] at hb; cases hb
  show (if b = a then none else F b) = _
  rw [if_neg ne]; exact hb, each_cutZ h r⟩⟩
instance {δ : Type} {R : δ → VP} [h : CutZ R] {d : δ} : CutZ1 (R d) := ⟨fun v F a o zs => h.cut d v F a o zs⟩
class CutV (ρ : List (Option VP)) : Prop where
  cut : ∀ σ F a o zs, F a = some (.frz o (.dK zs)) → SatV ρ σ F → SatV ρ σ (cutF F a)
instance : CutV [] := ⟨fun σ F a o zs h s => by cases σ with | nil => exact True.intro | cons _ _ => exact s⟩
instance {ρ : List (Option VP)} [c : CutV ρ] : CutV (none :: ρ) := ⟨fun σ F a o zs h s => by
  cases σ with
  | nil => exact s
  | cons x σ => exact c.cut σ F a o zs h s⟩
instance {ρ : List (Option VP)} {R : VP} [r : CutZ1 R] [c : CutV ρ] : CutV (some R :: ρ) := ⟨fun σ F a o zs h s => by
  cases σ with
  | nil => exact s
  | cons x σ =>
    obtain ⟨⟨v, h1, h2, h3⟩, s⟩ := s
    exact ⟨⟨v, h1, r.cut v F a o zs h h2, h3⟩, c.cut σ F a o zs h s⟩⟩
class CutO (κ : List Ow) : Prop where
  cut : ∀ σ F L a o zs, F a = some (.frz o (.dK zs)) → SatC κ σ F L → SatC κ σ (cutF F a) L
instance : CutO [] := ⟨fun _ _ _ _ _ _ _ _ => True.intro⟩
/-- a dict that is locked -/
def fDZ {α β : Type} [DecidableEq α] (d : α → PyData) [c : NumK d] (R : β → VP) : List (α × β) → VP := fun kvs v F => ∃ D o zs, v = .ref D ∧ F D = some (.frz o (.dK zs)) ∧ RelD d R zs kvs F ∧ (kvs.map (·.1)).Nodup
instance {α β : Type} [DecidableEq α] {d : α → PyData} [NumK d] {R : β → VP} [∀ b, Mono (R b)] {kvs : List (α × β)} : Mono (fDZ d R kvs) := ⟨fun _ _ _ e ⟨D, o, zs, h, h1, r, n⟩ => ⟨D, o, zs, h, e _ _ h1, relD_up e r, n⟩⟩
section
variable {ε α β γ δ S S1 : Type} [DecidableEq α] {Z : Wsh ε} {ρ : List (Option VP)} {κ : List Ow} {K : PySem.W.Frag} {te ta tb td ty : TE} {t u : TS} {i : Nat} {d : α → PyData} [c : NumK d] {R : β → VP} {Ra : γ → VP} {Rd : δ → VP} {ρ2 : S → List (Option VP)} {κ2 : S → List Ow} {ρ1 : S1 → List (Option VP)} {κ1s : S1 → List Ow}
instance {κ : List Ow} {γ : Type} {R : γ → VP} [∀ g, Mono (R g)] [CutZ R] {i : Nat} {xs : List γ} [k : CutO κ] : CutO (.one i (ownL (xs.map R)) :: κ) := ⟨fun σ F L a o zs h ⟨b, u, L', e, s, q, r⟩ => ⟨b, u, L', e, s, fun F' e' => by
  obtain ⟨vs, hu, hv⟩ := q F (Same.refl _)
  exact ⟨vs, hu, MonoL.mono _ _ _ e' (each_cutZ h hv)⟩, k.cut σ F L' a o zs h r⟩⟩
/-! ### own = own + .. -/
theorem tn_cat {ma mb : Wm ε (List γ)} [∀ g, Mono (Ra g)] (ha : TrE Z ρ κ ta ma (fLn Ra)) (hb : TrE Z ρ κ tb mb (fLn Ra)) : TrN Z ρ κ (tOp rCat ta tb) (fun Q X => ma (fun xs => mb (fun ys => xs.length + ys.length ≤ 10000 ∧ Q (xs ++ ys)) X) X) Ra :=
  ⟨inferInstance, fun σ F L s c Q X q F1 N H e A wsh Qk qk => ha.run σ F L s c _ X q F1 N H e A wsh _ fun x F2 H2 e2 A2 ⟨xs, q1, hx⟩ => hb.run σ F2 L (satV_up (e.trans e2) s) (satC_up (e.trans e2) c) _ X q1 F2 N H2 (Same.refl _) A2 (wsh.up e2) _ fun y F3 H3 e3 A3 ⟨ys, ⟨q2, q3⟩, hy⟩ => by
    obtain ⟨a, vs, rfl, h1, h2⟩ := hx
    obtain ⟨b, ws, rfl, h3, h4⟩ := hy
    refine ⟨a, b, vs, ws, rfl, rfl, A3.ex _ _ (e3 _ _ h1), A3.ex _ _ h3, ?_, fun p hp => ?_⟩
    · have l1 := each_length h2
      have l2 := each_length h4
      rw [List.length_map] at l1 l2
      rw [l1, l2]
      exact len_ok (by omega)
    · refine qk p (vs ++ ws) F3 _ (xs ++ ys) (e2.trans e3) (A3.cell hp) ?_ q3
      rw [List.map_append]
      exact each_app (MonoL.mono _ _ _ e3 h2) h4⟩
/-! ### int of a truth, max of a list -/
end
end Tw

/-! Tl4: max of a list, tuple of a tuple; a def that may raise, where it does not. -/
namespace Tw
open PySem PySem.Spec PyProof.Rows L2 SlX StX Rs Ma
variable [Rs.Tabz]
section
variable {X : Cx} {e : Expr} {es : List Expr} {t : TA} {p pos : Pos}
end
section
variable {P : Program} {w : World} {K : PySem.W.Frag} {mg : Str → Option Value} {base : Heap} {γ δ : Type} {k : Nat} {x : Str} {Rs : γ → List VP} {spec : γ → (δ → Prop) → (Value → Prop) → Prop} {R : δ → VP}
theorem GfX.pure (h : GfX P w K mg base k x (SpE Rs spec R)) : Gf P w K mg base k x (SpN Rs (fun g Q => spec g Q fun _ => False) R) := by
  obtain ⟨f, fd, ps, F, h1, h2, h3⟩ := h.ex
  refine ⟨f, fd, ps, ⟨fun vs H Q E ⟨g, F0, N, P0, A, hv, q⟩ => F.len vs H Q (fun _ _ _ => False) ⟨g, F0, N, P0, fun _ => False, A, hv, q.1, q.2, fun _ _ _ _ _ _ z => z.elim⟩, fun A outer s H args us vs Q E hr e0 hb r ⟨g, F0, N, P0, A0, hv, hs, q⟩ => ?_⟩, h1, h2, h3⟩
  refine codeAny_mono (F.run A outer s H args us vs Q (fun _ _ _ => False) hr e0 hb r ⟨g, F0, N, P0, fun _ => False, A0, hv, hs, q, fun _ _ _ _ _ _ z => z.elim⟩) fun z s' hq => ?_
  match z, hq with
  | .error err, ⟨_, _, _, _, _, _, _, _, _, _, _, _, z⟩ => exact z.elim
  | .ok (.ret u), hq => exact hq
end
end Tw
namespace Tw
open PySem PySem.Spec PyProof.Rows L2 SlX StX Rs Ma
variable [Rs.Tabz]
section
variable {ε α β γ δ S : Type} {Z : Wsh ε} {ρ : List (Option VP)} {κ : List Ow} {K : PySem.W.Frag} {ta tb : TE} {u : TS} {ma : Wm ε α} {Ra : α → VP} {Rb : β → VP} {Rd : δ → VP} {ρ2 : S → List (Option VP)} {κ2 : S → List Ow}
end
end Tw

/-! Tl5: sorted of one item, whatever it is. -/
namespace Tw
open PySem PySem.Spec PyProof.Rows L2 SlX StX Rs Ma
variable [Rs.Tabz]
section
variable {X : Cx} {e : Expr} {es : List Expr} {t : TA} {p pos : Pos}
end
end Tw

/-! Tm4: values of many kinds; exceptions that keep a value. -/
namespace Tw
open PySem PySem.Spec PyProof.Rows L2 SlX StX Rs Ma Sn Wb
/-- any value that a law puts in the place of another one -/
inductive Wv where
  | dat (d : PyData) | dct | opL | opT | web (rs : Rows) | pool (rss : List Rows) | tp (ws : List Wv) | dk (es : List (Nat × PyData))
/-- the written part, and the classes of webs and pools -/
structure Wx where
  K : PySem.W.Frag
  cw : Addr
  cp : Addr
  P : Program
  w : World
variable [Rs.Tabz]
mutual
noncomputable def fW (X : Wx) : Wv → V → Hp → Prop
  | .dat d => Dt X.K d
  | .dct => fun v F => ∃ a, v = .ref a ∧ F a = some (.dK [])
  | .opL => fun v F => ∃ a xs, v = .ref a ∧ SqL X.K F a xs
  | .opT => fun v F => ∃ a xs, v = .ref a ∧ SqT X.K F a xs
  | .web rs => webP X.cw X.K rs
  | .pool rss => poolP X.cp X.cw X.K X.P X.w rss
  | .tp ws => fun v F => ∃ a xs, v = .ref a ∧ SqT X.K F a xs ∧ fWs X ws xs F
  | .dk es => fDI dN (fD X.K dA) es
noncomputable def fWs (X : Wx) : List Wv → List V → Hp → Prop
  | [], xs, _ => xs = []
  | w :: ws, xs, F => ∃ x ys, xs = x :: ys ∧ fW X w x F ∧ fWs X ws ys F
end
theorem fWs_each {X : Wx} {F : Hp} : ∀ {ws : List Wv} {xs : List V}, fWs X ws xs F ↔ Each (ws.map (fW X)) xs F
  | [], [] => Iff.intro (fun _ => True.intro) (fun _ => rfl)
  | [], x :: xs => Iff.intro (fun h => nomatch (show x :: xs = [] from h)) (fun h => False.elim h)
  | w :: ws, [] => Iff.intro (fun ⟨_, _, z, _⟩ => nomatch z) (fun h => False.elim h)
  | w :: ws, x :: xs => Iff.intro (fun ⟨_, _, z, h1, h2⟩ => by cases z; exact ⟨h1, fWs_each.mp h2⟩) (fun ⟨h1, h2⟩ => ⟨x, xs, rfl, h1, fWs_each.mpr h2⟩)
mutual
theorem fW_up {X : Wx} : ∀ (w : Wv) {v : V} {F F' : Hp}, Same F F' → fW X w v F → fW X w v F'
  | .dat d, v, F, F', e, h => dp_up e h
  | .dct, v, F, F', e, ⟨a, h1, h2⟩ => ⟨a, h1, e _ _ h2⟩
  | .opL, v, F, F', e, ⟨a, xs, h1, h2⟩ => ⟨a, xs, h1, sqL_up e h2⟩
  | .opT, v, F, F', e, ⟨a, xs, h1, h2⟩ => ⟨a, xs, h1, sqT_up e h2⟩
  | .web rs, v, F, F', e, h => Mono.mono (R := webP X.cw X.K rs) _ _ _ e h
  | .pool rss, v, F, F', e, h => Mono.mono (R := poolP X.cp X.cw X.K X.P X.w rss) _ _ _ e h
  | .tp ws, v, F, F', e, ⟨a, xs, h1, h2, h3⟩ => ⟨a, xs, h1, sqT_up e h2, fWs_up ws e h3⟩
  | .dk es, v, F, F', e, h => Mono.mono (R := fDI dN (fD X.K dA) es) _ _ _ e h
theorem fWs_up {X : Wx} : ∀ (ws : List Wv) {xs : List V} {F F' : Hp}, Same F F' → fWs X ws xs F → fWs X ws xs F'
  | [], xs, F, F', e, h => h
  | w :: ws, xs, F, F', e, ⟨x, ys, h1, h2, h3⟩ => ⟨x, ys, h1, fW_up w e h2, fWs_up ws e h3⟩
end
instance {X : Wx} {w : Wv} : Mono (fW X w) := ⟨fun v F F' e h => fW_up w e h⟩
/-! ### its text -/
mutual
/-- the value as data -/
def Wv.toD : Wv → PyData
  | .dat d => d
  | .dk es => .dict (es.map fun p => (.int p.1, p.2))
  | .tp ws => .tuple (toDs ws)
  | .dct => .dict []
  | .opL => .dict []
  | .opT => .dict []
  | .web _ => .dict []
  | .pool _ => .dict []
def toDs : List Wv → List PyData
  | [] => []
  | w :: ws => w.toD :: toDs ws
end
mutual
/-- no list, no dict within -/
def flatD : PyData → Bool
  | .none => true
  | .bool _ => true
  | .int _ => true
  | .str _ => true
  | .tuple xs => flatDs xs
  | .list _ => false
  | .dict _ => false
def flatDs : List PyData → Bool
  | [] => true
  | x :: xs => flatD x && flatDs xs
end
mutual
/-- a text can be made of it, part by part -/
def Wv.rd : Wv → Bool
  | .dat d => flatD d
  | .dct => true
  | .dk es => es.all fun p => flatD p.2
  | .tp ws => rds ws
  | .opL => false
  | .opT => false
  | .web _ => false
  | .pool _ => false
def rds : List Wv → Bool
  | [] => true
  | w :: ws => w.rd && rds ws
end
mutual
theorem flat_reads {h : Heap} : ∀ (d : PyData) {v : Value} {as : List Addr}, flatD d = true → Reads h v d as → as = []
  | .none, v, as, _, r => by cases r; rfl
  | .bool _, v, as, _, r => by cases r; rfl
  | .int _, v, as, _, r => by cases r; rfl
  | .str _, v, as, _, r => by cases r; rfl
  | .tuple xs, v, as, f, r => by
    cases r with
    | tuple _ _ _ q => exact flat_readsAll xs (by simpa only [flatD] using f) q
  | .list _, v, as, f, _ => by simp only [flatD] at f; cases f
  | .dict _, v, as, f, _ => by simp only [flatD] at f; cases f
theorem flat_readsAll {h : Heap} : ∀ (ds : List PyData) {vs : List Value} {as : List Addr}, flatDs ds = true → ReadsAll h vs ds as → as = []
  | [], vs, as, _, r => by cases r; rfl
  | d :: ds, vs, as, f, r => by
    simp only [flatDs, Bool.and_eq_true] at f
    cases r with
    | cons r1 r2 => rw [flat_reads d f.1 r1, flat_readsAll ds f.2 r2]; rfl
end
theorem keys_reads {h : Heap} {P : Program} {w : World} : ∀ {es : List DictEntry} {vs : List (Key × Value)}, Pairs (mixKind P w) es vs → ∀ {kvs : List (Key × V)} {ps : List (Nat × PyData)} {F : Hp} {Y : Wx}, KV kvs vs → RelD dN (fD Y.K dA) kvs ps F → ReadsAll h (es.map (·.key)) (ps.map fun p => PyData.int p.1) []
  | _, _, .nil, kvs, ps, F, Y, k, r => by
    cases k
    cases ps with
    | nil => exact .nil
    | cons p ps => exact r.elim
  | _, _, .cons h1 h2 h3, kvs, ps, F, Y, k, r => by
    cases k with
    | cons k1 k2 =>
      cases ps with
      | nil => exact r.elim
      | cons p ps =>
        obtain ⟨⟨r1, _⟩, r2⟩ := r
        have ih := keys_reads (h := h) h3 k2 r2
        have e := k1.1
        rw [r1] at e
        rw [← e] at h1
        obtain ⟨t, et⟩ := Value.isInt_shape (k := (p.1 : Int)) h1
        have := ReadsAll.cons (Reads.int (h := h) (p.1 : Int) t) ih
        rw [List.map_cons, List.map_cons, et]
        exact this
theorem vals_reads {X : Cx} {pins : List (Addr × Obj)} {σ : L2.St} {H : Hp} {s : Shared} (I : L2.Inv X pins σ H s) : ∀ {es : List DictEntry} {vs : List (Key × Value)}, Pairs (mixKind X.prog X.w) es vs → ∀ {kvs : List (Key × V)} {ps : List (Nat × PyData)}, KV kvs vs → RelD dN (fD X.K dA) kvs ps H → (ps.all fun p => flatD p.2) = true → ReadsAll s.heap (es.map (·.val)) (ps.map (·.2)) []
  | _, _, .nil, kvs, ps, k, r, f => by
    cases k
    cases ps with
    | nil => exact .nil
    | cons p ps => exact r.elim
  | _, _, .cons h1 h2 h3, kvs, ps, k, r, f => by
    cases k with
    | cons k1 k2 =>
      cases ps with
      | nil => exact r.elim
      | cons p ps =>
        obtain ⟨⟨_, r1⟩, r2⟩ := r
        rw [List.all_cons, Bool.and_eq_true] at f
        have ih := vals_reads I h3 k2 r2 f.2
        obtain ⟨as, q⟩ := Dp.reads I p.2 _ _ r1 k1.2
        have ea := flat_reads _ f.1 q
        subst ea
        have := ReadsAll.cons q ih
        rw [List.map_cons, List.map_cons, h2]
        exact this
mutual
theorem W_reads {X : Cx} {Y : Wx} (hK : Y.K = X.K) {pins : List (Addr × Obj)} {σ : L2.St} {H : Hp} {s : Shared} (I : L2.Inv X pins σ H s) : ∀ (w : Wv) {v : V} {u : Value}, fW Y w v H → RelV v u → w.rd = true → ∃ as, Reads s.heap u w.toD as ∧ sysModules ∉ as
  | .dat d, v, u, h, r, f => by
    have h : Dp Y.K H v d := h
    rw [hK] at h
    obtain ⟨as, q⟩ := Dp.reads I d _ _ h r
    have ea := flat_reads d (by simpa only [Wv.rd] using f) q
    subst ea
    exact ⟨_, by simpa only [Wv.toD] using q, List.not_mem_nil⟩
  | .dct, v, u, h, r, f => by
    obtain ⟨a, rfl, ha⟩ := h
    obtain rfl : _ = Value.ref a := r
    obtain ⟨_, hsys, ws, kv, o, es, ep, ho, hex, hdd, hko, hes, hnd⟩ := I.hok a _ ha
    cases kv
    have e0 : es.toList = [] := by
      cases q : es.toList with
      | nil => rfl
      | cons x xs => rw [q] at hes; cases hes
    refine ⟨a :: [] ++ [], .dict ho hex.1 hdd (by rw [e0]; exact .nil) (by rw [e0]; exact .nil), fun hm => ?_⟩
    have hm : sysModules ∈ [a] := hm
    rw [List.mem_singleton] at hm
    rw [hm] at hsys
    simp at hsys
  | .dk ps, v, u, h, r, f => by
    obtain ⟨a, zs, rfl, ha, hr, _⟩ := h
    obtain rfl : _ = Value.ref a := r
    obtain ⟨_, hsys, ws, kv, o, es, ep, ho, hex, hdd, hko, hes, hnd⟩ := dk_rd I.hok ha
    rw [hK] at hr
    have f : (ps.all fun p => flatD p.2) = true := by simpa only [Wv.rd] using f
    have q1 := keys_reads (h := s.heap) (Y := ⟨X.K, Y.cw, Y.cp, Y.P, Y.w⟩) hes kv hr
    have q2 := vals_reads I hes kv hr f
    refine ⟨a :: [] ++ [], ?_, fun hm => ?_⟩
    · have := Reads.dict (kvs := ps.map fun p => (PyData.int p.1, p.2)) ho hex.1 hdd (as := []) (bs := []) (by rw [List.map_map]; exact q1) (by rw [List.map_map]; exact q2)
      simpa only [Wv.toD] using this
    · have hm : sysModules ∈ [a] := hm
      rw [List.mem_singleton] at hm
      rw [hm] at hsys
      simp at hsys
  | .tp ws, v, u, h, r, f => by
    obtain ⟨a, xs, rfl, hs, hw⟩ := h
    obtain rfl : _ = Value.ref a := r
    rw [hK] at hs
    obtain ⟨its, rv, ⟨o, ho, hc, n, hd⟩, _⟩ := I.tuple hs
    obtain ⟨as, q, na⟩ := W_readsAll hK I ws hw rv (by simpa only [Wv.rd] using f)
    exact ⟨as, by simpa only [Wv.toD] using Reads.tuple ho hc hd q, na⟩
  | .opL, _, _, _, _, f => by simp only [Wv.rd] at f; cases f
  | .opT, _, _, _, _, f => by simp only [Wv.rd] at f; cases f
  | .web _, _, _, _, _, f => by simp only [Wv.rd] at f; cases f
  | .pool _, _, _, _, _, f => by simp only [Wv.rd] at f; cases f
theorem W_readsAll {X : Cx} {Y : Wx} (hK : Y.K = X.K) {pins : List (Addr × Obj)} {σ : L2.St} {H : Hp} {s : Shared} (I : L2.Inv X pins σ H s) : ∀ (ws : List Wv) {vs : List V} {us : List Value}, fWs Y ws vs H → Vals vs us → rds ws = true → ∃ as, ReadsAll s.heap us (toDs ws) as ∧ sysModules ∉ as
  | [], vs, us, h, r, f => by
    have h : vs = [] := h
    subst h
    cases r
    exact ⟨[], by simpa only [toDs] using ReadsAll.nil, List.not_mem_nil⟩
  | w :: ws, vs, us, h, r, f => by
    obtain ⟨x, ys, rfl, h1, h2⟩ := h
    simp only [rds, Bool.and_eq_true] at f
    cases r with
    | cons r1 r2 =>
      obtain ⟨as, q1, n1⟩ := W_reads hK I w h1 r1 f.1
      obtain ⟨bs, q2, n2⟩ := W_readsAll hK I ws h2 r2 f.2
      exact ⟨as ++ bs, by simpa only [toDs] using ReadsAll.cons q1 q2, fun hm => (List.mem_append.mp hm).elim n1 n2⟩
end
def Wv.shown (w : Wv) : Str := w.toD.shown
def SayW (w : Wv) : Prop := w.rd = true ∧ w.toD.showable = true ∧ w.toD.depth ≤ 60 ∧ w.toD.shown.length ≤ sizeLine
def Wv.says : Wv → Prop
  | .dat d => Sayable d
  | .dct => True
  | .dk es => SayW (.dk es)
  | .tp ws => SayW (.tp ws)
  | _ => False
noncomputable def rReprW (X : Wx) : List V → Hp → VK → Prop := fun xs H Q => ∃ v w, xs = [v] ∧ fW X w v H ∧ w.says ∧ Q (.str w.shown) H
theorem cr_reprW {X : Cx} {Y : Wx} (hK : Y.K = X.K) (hg : X.A.guards = some []) (hu : X.A.units + 64 < cLine) : CallR X (.builtin "repr") (rReprW Y) := by
  intro pins s σ H vs us Q I r h
  obtain ⟨v, w, rfl, hd, hs, q⟩ := h
  cases r with
  | cons ra rn =>
    cases rn
    cases w with
    | dat d =>
      obtain ⟨h1, h2, h3, h4⟩ := hs
      have hd : Dp Y.K H v d := hd
      rw [hK] at hd
      cases hd with
      | non =>
        obtain rfl : _ = Value.none := ra
        refine PySem.P.repr_of_none ⟨.str _, H, I.tok _, ⟨_, rfl⟩, ?_⟩
        have e : (PyData.none).shown = ("None" : Str) := by simp only [PyData.shown]
        rw [← e]; exact q
      | bl b =>
        obtain rfl : _ = Value.bool b := ra
        refine PySem.P.repr_of_bool ⟨.str _, H, I.tok _, ⟨_, rfl⟩, ?_⟩
        have e : (PyData.bool b).shown = (if b then ("True" : Str) else "False") := by simp only [PyData.shown]
        rw [← e]; exact q
      | int i =>
        obtain ⟨t, rfl⟩ : ∃ t, _ = Value.int i t := ra
        refine PySem.P.repr_of_int (by simpa [PyData.showable] using h1) ⟨.str _, H, I.tok _, ⟨_, rfl⟩, ?_⟩
        have e : (PyData.int i).shown = (toString i : Str) := by simp only [PyData.shown]
        rw [← e]; exact q
      | str x =>
        obtain ⟨t, rfl⟩ : ∃ t, _ = Value.str x t := ra
        refine PySem.P.repr_of_str ⟨.str _, H, I.tok _, ⟨_, rfl⟩, ?_⟩ (by simpa only [PyData.shown] using h4)
        have e : (PyData.str x).shown = reprText x := by simp only [PyData.shown]
        rw [← e]; exact q
      | lst sq t =>
        obtain rfl : _ = Value.ref _ := ra
        obtain ⟨as, rd⟩ := Dp.reads I _ _ _ (.lst sq t) (show RelV (.ref _) (.ref _) from rfl)
        exact repr_of_reads' rd h1 (PyData.noDict_hsm h2) hg (by omega) (fun _ _ e => e) (fun h' u tk k => ⟨.str _, H, I.kept k, ⟨u, rfl⟩, q⟩) h4
      | tup sq t =>
        obtain rfl : _ = Value.ref _ := ra
        obtain ⟨as, rd⟩ := Dp.reads I _ _ _ (.tup sq t) (show RelV (.ref _) (.ref _) from rfl)
        exact repr_of_reads' rd h1 (PyData.noDict_hsm h2) hg (by omega) (fun _ _ e => e) (fun h' u tk k => ⟨.str _, H, I.kept k, ⟨u, rfl⟩, q⟩) h4
    | dct =>
      obtain ⟨a, rfl, ha⟩ := hd
      obtain rfl : _ = Value.ref a := ra
      obtain ⟨_, hsys, ws, kv, o, es, ep, ho, hex, hdd, hko, hes, hnd⟩ := I.hok a _ ha
      cases kv
      have e0 : es.toList = [] := by
        cases q : es.toList with
        | nil => rfl
        | cons x xs => rw [q] at hes; cases hes
      have rd : Reads s.heap (.ref a) (.dict []) (a :: [] ++ []) := .dict ho hex.1 hdd (by rw [e0]; exact .nil) (by rw [e0]; exact .nil)
      exact repr_of_reads' rd (by simp [PyData.showable, PyData.showableKv]) (fun _ hm => by
        have hm : sysModules ∈ [a] := hm
        rw [List.mem_singleton] at hm
        rw [hm] at hsys
        simp at hsys) hg (by simp only [PyData.depth, PyData.depthKv]; omega) (fun _ _ e => e) (fun h' u tk k => ⟨.str _, H, I.kept k, ⟨u, rfl⟩, q⟩) (by simp only [PyData.shown, PyData.shownKv]; rw [sizeLine_eq]; decide +kernel)
    | opL => exact hs.elim
    | opT => exact hs.elim
    | web rs => exact hs.elim
    | pool rss => exact hs.elim
    | tp ws =>
      obtain ⟨h1, h2, h3, h4⟩ := hs
      obtain ⟨a, xs, rfl, hq, hw⟩ := hd
      obtain rfl : _ = Value.ref a := ra
      obtain ⟨as, rd, na⟩ := W_reads (Y := Y) (H := H) hK I (.tp ws) (u := .ref a) ⟨a, xs, rfl, hq, hw⟩ rfl h1
      exact repr_of_reads' rd h2 (fun _ => na) hg (by omega) (fun _ _ e => e) (fun h' u tk k => ⟨.str _, H, I.kept k, ⟨u, rfl⟩, q⟩) h4
    | dk es =>
      obtain ⟨h1, h2, h3, h4⟩ := hs
      obtain ⟨a, zs, rfl, hq⟩ := hd
      obtain rfl : _ = Value.ref a := ra
      obtain ⟨as, rd, na⟩ := W_reads (Y := Y) (H := H) hK I (.dk es) (u := .ref a) ⟨a, zs, rfl, hq⟩ rfl h1
      exact repr_of_reads' rd h2 (fun _ => na) hg (by omega) (fun _ _ e => e) (fun h' u tk k => ⟨.str _, H, I.kept k, ⟨u, rfl⟩, q⟩) h4
/-! ### its kind -/
def Wv.isT (T : String) : Wv → Bool
  | .dat d => (kitB (tyName d) T).getD false
  | .dct => T == "dict"
  | .dk _ => T == "dict"
  | .opL => T == "list"
  | .opT => T == "tuple"
  | .tp _ => T == "tuple"
  | _ => false
def Wv.isWeb : Wv → Bool
  | .web _ => true
  | _ => false
def Wv.isPool : Wv → Bool
  | .pool _ => true
  | _ => false
section
variable {ε : Type} {X : Wx} {F H : Hp}
def bName : Wv → String
  | .dat d => tyName d
  | .dct => "dict"
  | .dk _ => "dict"
  | .opL => "list"
  | .opT => "tuple"
  | .tp _ => "tuple"
  | _ => ""
theorem ty_sqL {K : PySem.W.Frag} {a : Addr} {xs : List V} (h : SqL K H a xs) : TyX K H (.ref a) (.type "list") := by
  rcases h with (h | ⟨o, h⟩) | ⟨o, its, n, h, hc, _⟩
  · exact .base (.lst h)
  · exact .base (.frz h)
  · exact .kList h hc
/-- no web, no pool -/
def Wv.plain : Wv → Bool
  | .web _ => false
  | .pool _ => false
  | _ => true
theorem ty_dk {K : PySem.W.Frag} {α β : Type} [DecidableEq α] {d : α → PyData} [NumK d] {R : β → VP} {kvs : List (α × β)} {v : V} (h : fDI d R kvs v H) : TyX K H v (.type "dict") := by
  obtain ⟨D, zs, rfl, hD, _⟩ := h
  rcases hD with h | ⟨o, h⟩
  · exact .base (.dK h)
  · exact .fDict h
theorem ty_plain {w : Wv} {v : V} (hp : w.plain = true) (h : fW X w v H) : TyX X.K H v (.type (bName w)) := by
  cases w with
  | dat d => exact ty_dt h
  | dct => obtain ⟨a, rfl, h⟩ := h; exact .base (.dK h)
  | dk es => exact ty_dk h
  | opL => obtain ⟨a, xs, rfl, h⟩ := h; exact ty_sqL h
  | opT => obtain ⟨a, xs, rfl, h⟩ := h; exact ty_sqT h
  | tp ws => obtain ⟨a, xs, rfl, h, _⟩ := h; exact ty_sqT h
  | web rs => cases hp
  | pool rss => cases hp
theorem nm_plain {w : Wv} (hp : w.plain = true) : bName w ∈ ["NoneType", "bool", "int", "str", "list", "tuple", "dict"] := by
  cases w with
  | dat d => cases d <;> simp [bName, tyName]
  | dct => decide
  | dk es => exact (by decide : "dict" ∈ ["NoneType", "bool", "int", "str", "list", "tuple", "dict"])
  | opL => decide
  | opT => decide
  | tp ws => exact (by decide : "tuple" ∈ ["NoneType", "bool", "int", "str", "list", "tuple", "dict"])
  | web rs => cases hp
  | pool rss => cases hp
theorem kit_plain {T : String} (hT : T ∈ ["int", "bool", "tuple"]) {w : Wv} (hp : w.plain = true) : kitB (bName w) T = some (w.isT T) := by
  have key : ∀ n ∈ ["NoneType", "bool", "int", "str", "list", "tuple", "dict"], ∀ T ∈ ["int", "bool", "tuple"], kitB n T = some ((kitB n T).getD false) ∧ (n == "dict" || n == "list" || n == "tuple" → (kitB n T).getD false = (T == n)) := by decide +kernel
  cases w with
  | dat d => exact (key _ (nm_plain hp) T hT).1
  | dct => rw [bName, (key "dict" (by decide) T hT).1, (key "dict" (by decide) T hT).2 (by decide)]; rfl
  | dk es => rw [bName, (key "dict" (by decide) T hT).1, (key "dict" (by decide) T hT).2 (by decide)]; rfl
  | opL => rw [bName, (key "list" (by decide) T hT).1, (key "list" (by decide) T hT).2 (by decide)]; rfl
  | opT => rw [bName, (key "tuple" (by decide) T hT).1, (key "tuple" (by decide) T hT).2 (by decide)]; rfl
  | tp ws => rw [bName, (key "tuple" (by decide) T hT).1, (key "tuple" (by decide) T hT).2 (by decide)]; rfl
  | web rs => cases hp
  | pool rss => cases hp
abbrev rIsiW (K : PySem.W.Frag) (u : Value) : List V → Hp → VK → Prop := fun xs H Q => rIsi K xs H Q ∨ rIsiSl K u xs H Q
end
end Tw

/-! Tm5: values of many kinds as values of one kind, and back; defs that raise exceptions which keep a value. -/
namespace Tw
open PySem PySem.Spec PyProof.Rows L2 SlX StX Rs Ma Sn Wb
variable [Rs.Tabz]
section
variable {ε α β : Type} {Z : Wsh ε} {ρ : List (Option VP)} {κ : List Ow} {X : Wx} {te : TE} {i : Nat}
theorem TrE.part {R : α → VP} {R' : β → VP} [∀ b, Mono (R' b)] {m : Wm ε α} (f : β → α) (h : TrE Z ρ κ te m R) (hr : ∀ b v F, R (f b) v F → R' b v F) : TrE Z ρ κ te (fun Q E => m (fun a => ∃ b, a = f b ∧ Q b) E) R' :=
  ⟨inferInstance, fun σ F L s c Q E q => (h.run σ F L s c _ E q).weak fun v F2 e ⟨a, ⟨b, eb, q1⟩, r1⟩ => ⟨b, q1, hr b v F2 (eb ▸ r1)⟩⟩
variable {m : Wm ε Wv}
theorem tr_Wd (h : TrE Z ρ κ te m (fW X)) : TrE Z ρ κ te (fun Q E => m (fun a => ∃ d, a = .dat d ∧ Q d) E) (fD X.K dA) := h.part Wv.dat fun b v F x => x
theorem tr_Wi (h : TrE Z ρ κ te m (fW X)) : TrE Z ρ κ te (fun Q E => m (fun a => ∃ i, a = .dat (.int i) ∧ Q i) E) (fD X.K dInt) := h.part (fun i => Wv.dat (.int i)) fun b v F x => x
theorem tr_WN (h : TrE Z ρ κ te m (fW X)) : TrE Z ρ κ te (fun Q E => m (fun a => ∃ n : Nat, a = .dat (.int n) ∧ Q n) E) (fD X.K dN) := h.part (fun n : Nat => Wv.dat (.int n)) fun b v F x => x
theorem tr_WtN (h : TrE Z ρ κ te m (fW X)) : TrE Z ρ κ te (fun Q E => m (fun a => ∃ ns : List Nat, a = .dat (dT dN ns) ∧ Q ns) E) (fD X.K (dT dN)) := h.part (fun ns => Wv.dat (dT dN ns)) fun b v F x => x
theorem tr_dW {d : α → PyData} {m : Wm ε α} (h : TrE Z ρ κ te m (fD X.K d)) : TrE Z ρ κ te (fun Q E => m (fun a => Q (.dat (d a))) E) (fW X) := h.conv (R' := fW X) (fun a => Wv.dat (d a)) fun a v F x => x
theorem tr_dct : TrE Z ρ κ tDNewK (pur .dct) (fW X) := ⟨inferInstance, fun σ F L s c Q E q => .of fun F1 N H e A Qk qk => fun p hp => qk _ (upd F1 p (.dK [])) _ (same_new (A.free hp)) (A.new hp) ⟨.dct, q, p, rfl, upd_same⟩⟩
/-- whatever it is -/
def fAny : Unit → VP := fun _ _ _ => True
instance {u : Unit} : Mono (fAny u) := ⟨fun _ _ _ _ h => h⟩
theorem TrE.any {R : α → VP} {m : Wm ε α} (h : TrE Z ρ κ te m R) : TrE Z ρ κ te (fun Q E => m (fun _ => Q ()) E) fAny := h.conv (fun _ => ()) fun _ _ _ _ => True.intro
end
/-! ### exceptions -/
structure Ex where
  cls : Addr
  arg : Option (Str × Wv)
/-- how an exception stands there -/
noncomputable def xrE (Y : Wx) (e : Ex) (cls : Value) (d : Option Addr) (F : Hp) : Prop := cls = .ref e.cls ∧ ∀ f w, e.arg = some (f, w) → ∃ dd v, d = some dd ∧ F dd = some (.xd [(f, v)]) ∧ fW Y w v F
noncomputable def Zy (Y : Wx) (W : WX) (n : Nat) : Wsh Ex where
  wi := W
  xr := xrE Y
  t := fun σ _ _ => σ.length = n
  tl := fun _ _ _ _ h => h
section
variable {X : Cx} {e : Expr} {es : List Expr} {t : TA} {p pos : Pos} {f : Str} {W : WX}
end
section
variable {α γ δ S : Type} {ρ : List (Option VP)} {κ : List Ow} {Y : Wx} {t : TA} {mg : Wm Ex γ} {Rs : γ → List VP} {Rd : δ → VP} {W : WX} {n : Nat} {ρ2 : S → List (Option VP)} {κ2 : S → List Ow}
end
section
variable {P : Program} {w : World} {K : PySem.W.Frag} {mg : Str → Option Value} {base : Heap} {γ δ : Type} {Y : Wx}
end
end Tw

/-! Tm6: a lambda handed to a def of the law's. -/
namespace LmR
open PySem PySem.Spec PyProof.Rows L2 LamX
section
variable {X : Cx} {pins : List (Addr × Obj)} {σ : L2.St} {H : Hp} {s : Shared}
end
end LmR

/-! Tm7: a law's def that calls what it got, and tells the error by a word. -/
namespace Tw
open PySem PySem.Spec PyProof.Rows L2 SlX StX Rs Ma Sn Wb LmR
variable [Rs.Tabz]
/-! ### the word for an error -/
inductive MetW where
  | word (s : Str) | kept (pre f : Str)
  /-- .. and the number kept, by str -/
  | keptS (pre f : Str)
structure MetC where
  C : Addr
  w : MetW
def metK (Y : Wx) : List MetC → Ex → (Str → Prop) → Prop
  | [], _, _ => False
  | m :: ms, e, Q => ∃ b, PySem.W.exmOne Y.K (.ref e.cls) (.ref m.C) = some b ∧ (b = true → match m.w with
      | .word s => Q s
      | .kept pre f => e.cls = m.C ∧ ∃ w, e.arg = some (f, w) ∧ w.says ∧ pre.length + w.shown.length ≤ sizeLine ∧ Q (pre ++ w.shown)
      | .keptS pre f => e.cls = m.C ∧ ∃ i : Int, e.arg = some (f, .dat (.int i)) ∧ i.natAbs.log2 < 1920 ∧ pre.length + (toString i : Str).length ≤ sizeLine ∧ Q (pre ++ (toString i : Str))) ∧ (b = false → metK Y ms e Q)
section
variable {X : Cx} {Y : Wx}
open LamX in
end
section
variable {ε β : Type} {Z : Wsh ε} {ρ : List (Option VP)} {κ : List Ow} {Y : Wx} {n : Nat} {Rb : β → VP} {t : XK → TE} {mb : Wm Ex β} {P : Addr} {q ret : Str} {ms : List MetC}
/-- a def's run, its error told by a word -/
def lamW (Y : Wx) (ms : List MetC) (ret : Str) (mb : Wm Ex β) (Q : Str → Prop) : Prop := mb (fun _ => Q ret) fun e => metK Y ms e Q
end
end Tw

/-! Tm8: d(lambda: e) as a rule; defs with lambdas. -/
namespace Tw
open PySem PySem.Spec PyProof.Rows L2 SlX StX Rs Ma Sn Wb LmR
variable [Rs.Tabz]
section
variable {P : Program} {w : World} {K : PySem.W.Frag} {mg : Str → Option Value} {base : Heap} {γ δ : Type}
end
abbrev YY (K : PySem.W.Frag) (CW CP : Addr) (P : Program) (w : World) : Wx := ⟨K, CW, CP, P, w⟩
section
variable {ε : Type} {Z : Wsh ε} {ρ : List (Option VP)} {κ : List Ow} {X : Wx} {te : TE} {m : Wm ε Wv} {K : PySem.W.Frag}
theorem seqI_t2 {r : List Nat} {v : V} {F : Hp} (h : Dt K (.tuple (r.map dN)) v F) : seqI (cI r) v F K := seqI_t (ns := cI r) (row_int (r := r) ▸ h)
theorem o_inTI : Op2 ε (rIn K false) (fD K dInt) (fD K (dT dN)) (fun a b => pur (decide (a ∈ cI b))) (fD K dB) := op_pur fun a b x y F L hx hy =>
  r_is (r_in (i := a) (r_c (R := Dt K (.int a)) hx) (r_c (R := Dt K (.tuple (b.map dN))) hy) fun v F1 h => seqI_t2 h) (congrArg PyData.bool rfl)
theorem c_reprW {Y : Wx} : Cb ε (rReprW Y) (fun w : Wv => [fW Y w]) (fun w Q E => w.says ∧ Q w.shown) (fD Y.K dS) := .of fun g vs F L hv Q E ⟨q0, q1⟩ => by
  obtain ⟨v, rfl, hx⟩ := each1 hv
  exact ⟨_, q1, fun F1 N H e A Qk qk => ⟨v, g, rfl, Mono.mono (R := fW Y g) _ _ _ (e.trans A.ex) hx, q0, qk _ F1 H (Same.refl _) A (.str _)⟩⟩
end
section
variable {X : Cx} {e : Expr} {es : List Expr} {t : TA} {p pos : Pos}
theorem p_reprW {Y : Wx} (hK : Y.K = X.K) (hgu : X.A.guards = some []) (hu : X.A.units + 64 < cLine) (B : Bf X.mg) (ha : PA X (e :: es) t) (hg : Gl X "repr" := by rfl) (he : starEach (e :: es) X.env = (false, eval e X.env) :: starEach es X.env := by rfl) (hpl : (backTo pos (starEach es X.env)).any (·.1) = false := by rfl) :
    PE X (.Call (.Name "repr" p) (e :: es) [] pos) (tCB (rReprW Y) t) := pe_callB (cr_reprW hK hgu hu) hg B.repr boot_repr ha (by decide) (by decide) he hpl
end
section
variable {γ δ S : Type} {ρ : List (Option VP)} {κ : List Ow} {Y : Wx} {Rd : δ → VP} {W : WX} {n : Nat} {ρ2 : S → List (Option VP)} {κ2 : S → List Ow} {u : TS}
end
end Tw

/-! Tn0: the head of a law with several tables of code objects. -/
namespace Tw
open PySem PySem.Spec PyProof.Rows L2 SlX StX Rs Ma Sn
section
variable {P : Program} {w : World} {K : PySem.W.Frag} {mg mb : Str → Option Value} {k : Nat} {fa a : Addr} {cs : List (Addr × Addr)} {fd : FuncData} {x : Str} {s₁ : Shared} {vs : List Value} {ns : List Int}
end
end Tw

/-! Tn1: facts of own errors and own classes, as closed truths. -/
namespace Tw
open PySem PySem.Spec PyProof.Rows L2 SlX StX Rs Ma Sn
def xclsB (K : PySem.W.Frag) (C : Addr) : Bool := PySem.W.excIn K C [.type "ValueError", .type "Exception", .type "BaseException", .type "object"] "ValueError.__new__" && (PySem.W.keepIn K (.ref C) && (decide (PySem.W.subIn K (.ref C) (.type "BaseException") = some true) && (decide (PySem.W.typeIn K (.ref C) = some (.type "type")) && decide (PySem.W.exmOne K (.ref C) (.ref C) = some true))))
theorem xclsB_ok {K : PySem.W.Frag} {mg : Str → Option Value} {x : Str} {C : Addr} (h : xclsB K C = true) (g : mg x = some (.ref C)) : XCls K mg x C := by
  unfold xclsB at h
  simp only [Bool.and_eq_true, decide_eq_true_eq] at h
  obtain ⟨h1, h2, h3, h4, h5⟩ := h
  exact ⟨g, h1, h2, h3, h4, h5⟩
end Tw

/-! Tq0: methods that may raise. -/
namespace Tw
open PySem PySem.Spec PyProof.Rows L2 SlX StX Rs Ma Sn Wb
variable [Rs.Tabz]
section
variable {X : Cx} {o e : Expr} {es : List Expr} {m : Str} {pos apos : Pos} {ta : TE} {t : TA} {E : XK}
end
section
variable {α γ δ : Type} {ρ : List (Option VP)} {κ : List Ow} {Y : Wx} {ta : TE} {t : TA} {ma : Wm Ex α} {mg : Wm Ex γ} {Ra : α → VP} {Rs : γ → List VP} {Rd : δ → VP} {n : Nat} {E : XK}
end
section
variable {P : Program} {w : World} {K : PySem.W.Frag} {mg : Str → Option Value} {base : Heap} {γ δ : Type} {Y : Wx}
end
section
variable {α β δ : Type} {ρ : List (Option VP)} {κ : List Ow} {Y : Wx} {ta tb : TE} {ma : Wm Ex α} {mb : Wm Ex β} {Ra : α → VP} {Rb : β → VP} {Rd : δ → VP} {n : Nat} {E : XK}
end
end Tw

/-! Tq1: a law's def that gives back what the call gives, or a word for its error. -/
namespace Tw
open PySem PySem.Spec PyProof.Rows L2 SlX StX Rs Ma Sn Wb LmR
variable [Rs.Tabz]
section
variable {X : Cx} {Y : Wx}
open LamX in
end
section
variable {ε β : Type} {Z : Wsh ε} {ρ : List (Option VP)} {κ : List Ow} {Y : Wx} {n : Nat} {Rb : β → VP} {t : XK → TE} {mb : Wm Ex β} {P : Addr} {q : Str} {ms : List MetC}
end
end Tw

/-! Tq2: lists of two things of different kinds. -/
namespace Tw
open PySem PySem.Spec PyProof.Rows L2 SlX StX Rs Ma Sn Wb
variable [Rs.Tabz]
section
variable {ε α β : Type} {Z : Wsh ε} {ρ : List (Option VP)} {κ : List Ow} {ta tb : TE} {ma : Wm ε α} {mb : Wm ε β} {Ra : α → VP} {Rb : β → VP} {K : PySem.W.Frag}
/-- a list of two things -/
def fPL2 (Ra : α → VP) (Rb : β → VP) : α × β → VP := fun p => Ln [Ra p.1, Rb p.2]
instance [∀ a, Mono (Ra a)] [∀ b, Mono (Rb b)] {p : α × β} : Mono (fPL2 Ra Rb p) := inferInstanceAs (Mono (Ln [Ra p.1, Rb p.2]))
end
section
variable {ε α β γ δ S : Type} {Z : Wsh ε} {ρ : List (Option VP)} {κ : List Ow} {ta tb tc : TE} {u : TS} {ma : Wm ε α} {mb : Wm ε β} {mc : Wm ε γ} {Ra : α → VP} {Rb : β → VP} {Rc : γ → VP} {Rd : δ → VP} {ρ2 : S → List (Option VP)} {κ2 : S → List Ow}
end
end Tw

/-! Tq3: a thing of one of two kinds. -/
namespace Tw
open PySem PySem.Spec PyProof.Rows L2 SlX StX Rs Ma Sn Wb LmR
variable [Rs.Tabz]
section
variable {ε α β : Type} {Z : Wsh ε} {ρ : List (Option VP)} {κ : List Ow} {te : TE} {Ra : α → VP} {Rb : β → VP} {K : PySem.W.Frag}
/-- one of two kinds -/
def fEi (Ra : α → VP) (Rb : β → VP) : α ⊕ β → VP := fun x => match x with
  | .inl a => Ra a
  | .inr b => Rb b
instance [∀ a, Mono (Ra a)] [∀ b, Mono (Rb b)] {x : α ⊕ β} : Mono (fEi Ra Rb x) := by
  cases x
  · exact inferInstanceAs (Mono (Ra _))
  · exact inferInstanceAs (Mono (Rb _))
end
section
variable {ε β : Type} {Z : Wsh ε} {ρ : List (Option VP)} {κ : List Ow} {Y : Wx} {n : Nat} {Rb : β → VP} {t : XK → TE} {mb : Wm Ex β} {P : Addr} {q : Str} {ms : List MetC}
end
end Tw

/-! Tq4: a list of anything != []. -/
namespace Tw
open PySem PySem.Spec PyProof.Rows L2 SlX StX Rs Ma Sn Wb
variable [Rs.Tabz]
def rNeNil (K : PySem.W.Frag) : R2 := fun x y H Q => ∃ a b xs, x = .ref a ∧ y = .ref b ∧ SqL K H a xs ∧ SqL K H b [] ∧ Q (.bl (!decide (xs.length = 0))) H
theorem op_neNil {X : Cx} (hu : X.A.units < cLine) : OpR X (compareOp .NotEq) (rNeNil X.K) := by
  intro pins s σ H x y v u Q I rx ry h
  obtain ⟨a, b, xs, rfl, rfl, ha, hb, q⟩ := h
  cases rx
  cases ry
  obtain ⟨its, r, pl, z⟩ := I.list ha
  obtain ⟨its2, r2, pl2, z2⟩ := I.list hb
  have e2 : its2 = [] := by
    have := r2.length
    exact List.eq_nil_of_length_eq_zero (by rw [← this]; rfl)
  subst e2
  have hl := r.length
  have fin : EP X pins σ Q (.bool (!decide (xs.length = 0))) s := ⟨.bl _, H, I, rfl, q⟩
  show wpAny _ _ (richCompare .NotEq (.ref a) (.ref b)) _ _ _
  by_cases h0 : xs.length = 0
  · have e0 : its = [] := List.eq_nil_of_length_eq_zero (by rw [← hl]; exact h0)
    subst e0
    rw [decide_eq_true h0] at fin
    exact PySem.SeqAt.RcNeAt.lists (e := fun _ => true) pl.isList pl2.isList rfl hu (fun j h1 _ => absurd h1 (by simp)) _ _ _ _ fin
  · rw [decide_eq_false h0] at fin
    exact PySem.SeqAt.RcNeAt.lists_lengths pl.isList pl2.isList (by simp; intro z; exact h0 (by rw [hl, z]; rfl)) hu _ _ _ _ fin
section
variable {ε α β : Type} {K : PySem.W.Frag} {R : α → VP} {Rb : β → VP}
theorem o_neNil [∀ a, Mono (R a)] [∀ b, Mono (Rb b)] : Op2 ε (rNeNil K) (fLn R) (fLn Rb) (fun as bs Q _ => bs = [] ∧ Q (!decide (as.length = 0))) (fD K dB) :=
  ⟨fun as bs x y F L hx hy Q X ⟨e0, q⟩ => fun F2 N H e2 A Qk qk => by
    subst e0
    obtain ⟨a, xs, rfl, sa, ha⟩ := hx
    obtain ⟨b, ys, rfl, sb, hb⟩ := hy
    have e := e2.trans A.ex
    have l1 := each_length ha
    rw [List.length_map] at l1
    have l2 : ys = [] := List.eq_nil_of_length_eq_zero (each_length hb)
    subst l2
    exact ⟨a, b, xs, rfl, rfl, .inl (.inl (e _ _ sa)), .inl (.inl (e _ _ sb)), by rw [l1]; exact qk _ F2 H (Same.refl _) A ⟨_, q, .bl _⟩⟩⟩
end
end Tw

/-! Tq5: != of tuples whose items are alike, by their own ==. -/
namespace NeG
open PySem PySem.SeqAt GQ
open AutoSeq1 (wpAny_loadPart')
open MeetsSeq MeetsSeq2 MeetsSeq3 SeqRoads2
section
variable {prog : Program} {w : World} {A : Around} {R : Result → Shared → Prop}
end
section
variable {prog : Program} {w : World} {A : Around} {E : Value → Shared → Prop} {s : Shared}
end
end NeG
namespace Tw
open PySem PySem.Spec PyProof.Rows L2 SlX StX Rs Ma Sn
section
variable {X : Cx} {α : Type} {Ra : α → VP} {C : Addr} {k : Nat}
end
section
variable {ε α : Type} {K : PySem.W.Frag} {Ra : α → VP}
end
end Tw

/-! Tr1: == of tuples of own objects, whatever they are. -/
namespace EqB
open PySem PySem.SeqAt GQ
open AutoSeq1 (wpAny_loadPart')
open MeetsSeq MeetsSeq2 MeetsSeq3 SeqRoads2
section
variable {prog : Program} {w : World} {A : Around} {R : Result → Shared → Prop}
end
section
variable {prog : Program} {w : World} {A : Around} {E : Value → Shared → Prop} {s : Shared}
end
end EqB
namespace Tw
open PySem PySem.Spec PyProof.Rows L2 SlX StX Rs Ma Sn
theorem each_at {α : Type} {Ra : α → VP} {H : Hp} : ∀ {as : List α} {xs : List V} {i : Nat} {x : V}, Each (as.map Ra) xs H → xs[i]? = some x → ∃ a, as[i]? = some a ∧ Ra a x H
  | [], [], i, x, _, h => by simp at h
  | a :: as, y :: ys, 0, x, hv, h => by
    rw [List.getElem?_cons_zero] at h ⊢
    cases h
    exact ⟨a, rfl, hv.1⟩
  | a :: as, y :: ys, i + 1, x, hv, h => by
    rw [List.getElem?_cons_succ] at h ⊢
    exact each_at hv.2 h
  | [], _ :: _, _, _, hv, _ => hv.elim
  | _ :: _, [], _, _, hv, _ => hv.elim
section
variable {X : Cx} {α : Type} [DecidableEq α] {Ra : α → VP} {C : Addr} {k : Nat}
end
section
variable {ε α : Type} [DecidableEq α] {K : PySem.W.Frag} {Ra : α → VP}
end
end Tw

/-! Tr2: words with K told; isinstance(x, str) of a string or a tuple. -/
namespace Tw
open PySem PySem.Spec PyProof.Rows L2 SlX StX Rs Ma Sn
section
variable {X : Cx}
end
variable [Rs.Tabz]
section
variable {ε α : Type} {K : PySem.W.Frag} {d : α → PyData}
end
section
variable {ε α β γ δ S : Type} {Z : Wsh ε} {ρ : List (Option VP)} {κ : List Ow} {K : PySem.W.Frag} {ta tb tc : TE} {u : TS} {ma : Wm ε α} {mb : Wm ε β} {mc : Wm ε γ} {Ra : α → VP} {Rb : β → VP} {Rc : γ → VP} {Rd : δ → VP} {ρ2 : S → List (Option VP)} {κ2 : S → List Ow}
end
end Tw

/-! Tu0: a list comprehension whose element is told with the def's own state in hand. -/
namespace LmC
open PySem PySem.Spec PyProof.Rows L2 LamX
section
variable {X : Cx}
end
end LmC

/-! Tu1: lambdas as values: made, kept in a list, called one by one in a comprehension. -/
namespace LmC
open PySem PySem.Spec PyProof.Rows L2 LamX
/-- a lambda's object -/
def LamO (f : Addr) (q : Str) (params : Arguments) (body : Expr) (scope : Scope) (cl : List (Str × Addr)) (c' : Addr) : HO := .ext fun h => ∃ pm ctv : Value, h.get? f = some (PySem.W.kla_obj "<lambda>" q params body scope cl pm c' ctv)
section
variable {X : Cx} {pins : List (Addr × Obj)} {σ : L2.St} {H : Hp} {s : Shared}
/-- what is known of a lambda's body: its reading -/
structure LamRec where
  params : Arguments
  body : Expr
  scope : Scope
def BdOk (X : Cx) (k : Nat) (r : LamRec) (t : XK → TE) : Prop := LamS X.env.scope r.scope ∧ (∀ (q : Str) (cl : List (Str × Addr)) (pm cv ctv : Value), bindArgs (PySem.W.kla_fn "<lambda>" q r.params r.body r.scope cl pm cv ctv) ⟨[], []⟩ = pure []) ∧
  ∀ (A : Around) (outer : List Env) (s : Shared) (H : Hp) (E : XK) (f c' : Addr), Room k (A.deeper (lamEnv X r.scope s.heap.objs.size f c')) → PE (lamCx X A outer s H E r.scope f c') r.body (t E)
end
end LmC

/-! Tu2: lambdas as values, in plain terms. -/
namespace Tw
open PySem PySem.Spec PyProof.Rows L2 SlX StX Rs Ma Sn Wb LmR LmC LamX
variable [Rs.Tabz]
/-- a lambda made in the run of the def whose cells are these -/
def fLam (q : Str) (cl : List (Str × Addr)) : LamRec → VP := fun r v F => ∃ f c', v = .ref f ∧ F f = some (LamO f q r.params r.body r.scope (cloFrom cl r.scope.names []) c') ∧ F c' = some (CodeO c' q)
instance {q : Str} {cl : List (Str × Addr)} {r : LamRec} : Mono (fLam q cl r) := ⟨fun _ _ _ e ⟨f, c', h, h1, h2⟩ => ⟨f, c', h, e _ _ h1, e _ _ h2⟩⟩
section
variable {ε β : Type} {Z : Wsh ε} {ρ : List (Option VP)} {κ : List Ow} {Y : Wx} {n : Nat} {P : Addr} {q ret : Str} {cl : List (Str × Addr)} {ms : List MetC}
end
end Tw

/-! Tu3: lambdas of a def, known by their number. -/
namespace Tw
open PySem PySem.Spec PyProof.Rows L2 SlX StX Rs Ma Sn Wb LmR LmC LamX
variable [Rs.Tabz]
def fLamN (q : Str) (cl : List (Str × Addr)) (rs : List LamRec) : Nat → VP := fun j v F => ∃ r, rs[j]? = some r ∧ fLam q cl r v F
instance {q : Str} {cl : List (Str × Addr)} {rs : List LamRec} {j : Nat} : Mono (fLamN q cl rs j) := ⟨fun _ _ _ e ⟨r, h, x⟩ => ⟨r, h, Mono.mono (R := fLam q cl r) _ _ _ e x⟩⟩
abbrev WStr := (Str → Prop) → Prop
/-- each lambda's body is told -/
inductive LmsOk (X : Cx) (k n : Nat) (Y : Wx) (ms : List MetC) (ret : Str) (ρ : List (Option VP)) : List LamRec → List WStr → Prop
  | nil : LmsOk X k n Y ms ret ρ [] []
  | cons {r : LamRec} {rs : List LamRec} {ws : List WStr} {β : Type} {Rb : β → VP} {mb : Wm Ex β} {t : XK → TE} : BdOk X k r t → (∀ E : XK, TrE (Zy Y (fun cls d _ H => E cls d H) n) ρ [] (t E) mb Rb) → LmsOk X k n Y ms ret ρ rs ws → LmsOk X k n Y ms ret ρ (r :: rs) (lamW Y ms ret mb :: ws)
section
variable {ε : Type} {Z : Wsh ε} {ρ : List (Option VP)} {κ : List Ow} {Y : Wx} {k n : Nat} {P : Addr} {q ret : Str} {cl : List (Str × Addr)} {ms : List MetC} {X : Cx}
theorem LmsOk.get {r : LamRec} {w : WStr} : ∀ {rs : List LamRec} {ws : List WStr} {j : Nat}, LmsOk X k n Y ms ret ρ rs ws → rs[j]? = some r → ws[j]? = some w → ∃ (β : Type) (Rb : β → VP) (mb : Wm Ex β) (t : XK → TE), BdOk X k r t ∧ (∀ E : XK, TrE (Zy Y (fun cls d _ H => E cls d H) n) ρ [] (t E) mb Rb) ∧ w = lamW Y ms ret mb
  | _, _, 0, .cons b h _, hr, hw => by
    cases hr
    cases hw
    exact ⟨_, _, _, _, b, h, rfl⟩
  | _, _, j + 1, .cons _ _ l, hr, hw => LmsOk.get (j := j) l hr hw
end
section
variable {X : Cx} {k : Nat}
end
end Tw

/-! Tu4: a tuple of alike data, as a tuple of any data. -/
namespace Tw
open PySem PySem.Spec PyProof.Rows L2 SlX StX Rs Ma Sn Wb
variable [Rs.Tabz]
section
variable {ε α : Type} {Z : Wsh ε} {ρ : List (Option VP)} {κ : List Ow} {K : PySem.W.Frag} {te : TE} {d : α → PyData} {m : Wm ε (List α)}
end
end Tw

/-! Tu5: x[:-1] of a tuple. -/
namespace Tw
open PySem PySem.Spec PyProof.Rows L2 SlX StX Rs Ma Sn Wb
variable [Rs.Tabz]
section
variable {ε α : Type} {Z : Wsh ε} {ρ : List (Option VP)} {κ : List Ow} {K : PySem.W.Frag} {te tx : TE} {R : α → V → Hp → Prop} {ml : Wm ε (List α)} {mx : Wm ε Int}
end
end Tw

/-! Tv0: errors held as values: C(e), isinstance(x, c), x.f. -/
namespace L2
open PySem PySem.Spec PyProof.Rows
/-- an error of the class D at a, made and not raised -/
def exAt (H : Hp) (a D : Addr) : Prop := H a = some (ExO (.ref D) a) ∨ ∃ dd fs, H a = some (exo a D (some dd)) ∧ H dd = some (.xd fs)
end L2

/-! Tv1: errors held as values, in plain terms. -/
namespace Tw
open PySem PySem.Spec PyProof.Rows L2 SlX StX Rs Ma Sn Wb
variable [Rs.Tabz]
/-- an error: its class, and where its own __init__ keeps something, what -/
structure Exv where
  cls : Addr
  arg : Option (Str × PyData)
def exvAt (K : PySem.W.Frag) (e : Exv) (a : Addr) (F : Hp) : Prop := match e.arg with
  | none => F a = some (ExO (.ref e.cls) a)
  | some (f, d) => ∃ dd y, F a = some (exo a e.cls (some dd)) ∧ F dd = some (.xd [(f, y)]) ∧ Dt K d y F
def fX (K : PySem.W.Frag) (e : Exv) : VP := fun v F => ∃ a, v = .ref a ∧ exvAt K e a F
instance {K : PySem.W.Frag} {e : Exv} : Mono (fX K e) := ⟨fun v F F' s h => by
  obtain ⟨a, rfl, h⟩ := h
  obtain ⟨c, arg⟩ := e
  cases arg with
  | none => exact ⟨a, rfl, s _ _ h⟩
  | some p =>
    obtain ⟨f, d⟩ := p
    obtain ⟨dd, y, h1, h2, h3⟩ := h
    exact ⟨a, rfl, dd, y, s _ _ h1, s _ _ h2, dp_up s h3⟩⟩
theorem exvAt.at {K : PySem.W.Frag} {e : Exv} {a : Addr} {F H : Hp} (h : exvAt K e a F) (s : Same F H) : exAt H a e.cls := by
  obtain ⟨c, arg⟩ := e
  cases arg with
  | none => exact .inl (s _ _ h)
  | some p =>
    obtain ⟨f, d⟩ := p
    obtain ⟨dd, y, h1, h2, h3⟩ := h
    exact .inr ⟨dd, _, s _ _ h1, s _ _ h2⟩
section
variable {X : Cx} {x f : Str} {C : Addr} {k : Nat} {e : Expr} {es : List Expr} {te : TE} {ta : TA} {p pos : Pos}
end
section
variable {ε α : Type} {Z : Wsh ε} {ρ : List (Option VP)} {κ : List Ow} {K : PySem.W.Frag} {te : TE} {ta : TA} {R : α → VP} {m : Wm ε α}
end
section
variable {ε : Type} {Z : Wsh ε} {ρ : List (Option VP)} {κ : List Ow} {K : PySem.W.Frag} {te : TE}
end
/-! what the classes say -/
end Tw

/-! Tv2: f() where no repr is under way. -/
namespace Tw
open PySem PySem.Spec PyProof.Rows L2 SlX StX Rs Ma Sn Wb
variable [Rs.Tabz]
section
variable {X : Cx} {f : Str} {p pos : Pos}
end
end Tw

/-! Tv3: what an own error over KeyError asks of KeyError. -/
namespace Tw
open PySem PySem.Spec PyProof.Rows L2 PySem.W
end Tw

/-! Tv4: making an own error over KeyError: LookupError.__new__ makes it, KeyError.__init__ stands behind super(). -/
namespace PySem
namespace SuI
open PySem.W PySem.Calls PyProof.Rows PySem.Spec PySem.HandSPX Tw
section
variable {M : Model} {prog : Program} {w : World} {A : Around} {E : Value → Shared → Prop} {R : Result → Shared → Prop} {h : Heap} {g : Array GenState} {d : Drawn} {t : Nat} {os : OsState} {nm q : Str} {C N : Addr} {bs bm : List Value} {hdct : Bool} {sn : List Str} {sub : List Value} {ab : Bool} {col : Option Bool} {dd : Option Addr} {k0 k1 k2 k3 k5 : Option Value}
/-- what the class's bases say -/
structure TailKE (bm : List Value) : Prop where
  l : bm.contains (.type "LookupError") = true
  a : bm.contains (.type "AttributeError") = false
  n : bm.contains (.type "NameError") = false
theorem TailKE.cons {x : Value} {C : Addr} {b : Bool} (h : bm.contains x = b) (hx : (x == Value.ref C) = false) : (Value.ref C :: bm).contains x = b := by
  rw [List.contains_cons, h, hx, Bool.false_or]
end
end SuI
end PySem

/-! Tv5: an own error over KeyError, with `super().__init__('..'); self.f = f`, held as a value. -/
namespace PySem
namespace SuI
open PySem.W PySem.Calls PyProof.Rows PySem.Spec Tw
section
variable {prog : Program} {w : World} {A : Around} {E : Value → Shared → Prop} {h : Heap} {g : Array GenState} {d : Drawn} {t : Nat} {os : OsState} {K : Frag}
end
section
variable {prog : Program} {w : World} {A : Around} {R : Result → Shared → Prop} {s : Shared} {K : Frag} {mg mb : Str → Option Value}
end
end SuI
end PySem
namespace L2
open PySem PySem.Spec PyProof.Rows
end L2
namespace Tw
open PySem PySem.Spec PyProof.Rows L2 SlX StX Rs Ma Sn Wb
section
variable {X : Cx} {x f : Str} {C : Addr} {k : Nat} {e : Expr} {ta : TA} {p pos : Pos}
end
end Tw

/-! Tv6: isinstance of a value of any kind in laws without pools. -/
namespace Tw
open PySem PySem.Spec PyProof.Rows L2 SlX StX Rs Ma Sn Wb
variable [Rs.Tabz]
structure WxW (X : Wx) : Prop where
  scw : SCls X.K X.cw
  siw : SIsi X.K X.cw
  wt : ∀ T ∈ ["int", "bool", "tuple"], PySem.W.kitOne X.K (.ref X.cw) (.type T) = some false
  nw : ∀ T ∈ ["NoneType", "bool", "int", "str", "list", "tuple", "dict"], PySem.W.kitOne X.K (.type T) (.ref X.cw) = some false
def wxwB (K : PySem.W.Frag) (W : Addr) : Bool := (["int", "bool", "tuple"].all fun T => decide (PySem.W.kitOne K (.ref W) (.type T) = some false)) && (["NoneType", "bool", "int", "str", "list", "tuple", "dict"].all fun T => decide (PySem.W.kitOne K (.type T) (.ref W) = some false))
theorem wxwB_ok {K : PySem.W.Frag} {W C : Addr} {P : Program} {w : World} (h : wxwB K W = true) (scw : SCls K W) (siw : SIsi K W) : WxW (YY K W C P w) := by
  unfold wxwB at h
  rw [Bool.and_eq_true] at h
  exact ⟨scw, siw, fun T m => of_decide_eq_true (List.all_eq_true.mp h.1 T m), fun T m => of_decide_eq_true (List.all_eq_true.mp h.2 T m)⟩
section
variable {ε : Type} {X : Wx}
theorem c_isiAnyW (ok : WxW X) {c : V} {u : Value} (hc : ClsV c u) (hcu : RelV c u) (f : Wv → Bool) (hpl : ∀ w : Wv, w.plain = true → PySem.W.kitOne X.K (.type (bName w)) u = some (f w)) (hw : ∀ rs, PySem.W.kitOne X.K (.ref X.cw) u = some (f (.web rs))) :
    Cb ε (rIsiW X.K u) (fun p : Wv × Unit => [fW X p.1, Eqv c]) (fun p Q _ => p.1.isPool = false ∧ Q (f p.1)) (fD X.K dB) := .of fun g vs F L hv Q Z ⟨np, q1⟩ => by
  obtain ⟨v, c', rfl, h1, h2⟩ := each2 hv
  cases h2
  obtain ⟨w, _⟩ := g
  refine ⟨f w, q1, fun F2 N H e2 A Qk qk => ?_⟩
  have qe : Qk (.bl (f w)) H := qk _ F2 H (Same.refl _) A (.bl _)
  by_cases hpw : w.plain = true
  · exact .inl ⟨v, c, _, u, _, rfl, hc, ty_plain hpw (Mono.mono (R := fW X w) _ _ _ (e2.trans A.ex) h1), hpl w hpw, qe⟩
  · cases w with
    | web rs =>
      obtain ⟨a, dx, ws, rfl, p1, p2⟩ := webP.is h1
      exact .inr ⟨a, X.cw, dx, ws, c, _, rfl, hcu, fun z hz => hc.eq hz, at_slt A (e2 _ _ p1) (e2 _ _ p2), ok.scw, ok.siw, hw rs, qe⟩
    | pool rss => cases np
    | dat d => exact absurd rfl hpw
    | dct => exact absurd rfl hpw
    | opL => exact absurd rfl hpw
    | opT => exact absurd rfl hpw
    | tp ws => exact absurd rfl hpw
    | dk es => exact absurd rfl hpw
theorem c_isiTW (ok : WxW X) (T : String) (hT : T ∈ ["int", "bool", "tuple"] := by decide) : Cb ε (rIsiW X.K (.type T)) (fun p : Wv × Unit => [fW X p.1, Eqv (.ty T)]) (fun p Q _ => p.1.isPool = false ∧ Q (p.1.isT T)) (fD X.K dB) :=
  c_isiAnyW ok (.ty T) rfl (fun w => w.isT T) (fun w h => kit_ty (kit_plain hT h)) (fun rs => ok.wt T hT)
theorem c_isiWebW (ok : WxW X) : Cb ε (rIsiW X.K (.ref X.cw)) (fun p : Wv × Unit => [fW X p.1, Eqv (.ref X.cw)]) (fun p Q _ => p.1.isPool = false ∧ Q p.1.isWeb) (fD X.K dB) :=
  c_isiAnyW ok (.own _) rfl Wv.isWeb (fun w h => by rw [ok.nw _ (nm_plain h)]; cases w <;> first | rfl | cases h) (fun rs => kit_self)
end
end Tw

/-! Qh5: zip of two lists. -/
namespace Tw
open PySem PySem.Spec PyProof.Rows L2 SlX StX Rs Ma
variable [Rs.Tabz]
section
variable {ε α β : Type} {Z : Wsh ε} {ρ : List (Option VP)} {κ : List Ow} {K : PySem.W.Frag} {ta tb : TE} {R : α → VP} {Rb : β → VP}
end
end Tw

/-! Pd0: d.get(k, e) of a dict by nested keys. -/
namespace Sn
open PySem PySem.Spec PyProof.Rows L2 PySem.W
variable [Rs.Tabz]
end Sn

/-! Pd1: dicts by keys that are tuples of any nested data. -/
namespace Tw
open PySem PySem.Spec PyProof.Rows L2 SlX StX Rs Ma Sn
variable [Rs.Tabz]
/-- data that are tuples -/
class TupD {α : Type} (d : α → PyData) : Prop where
  tp : ∀ a, ∃ ds, d a = .tuple ds
instance {α : Type} {d : α → PyData} : TupD (dT d) := ⟨fun a => ⟨_, rfl⟩⟩
instance {α β : Type} {d : α → PyData} {e : β → PyData} : TupD (dP d e) := ⟨fun a => ⟨_, rfl⟩⟩
instance keydO : Keyd dO 0 := ⟨fun o => match o with | none => .none | some n => .num (n : Nat), fun o => by cases o <;> rfl, fun o => by cases o <;> rfl, fun o => by cases o <;> exact Nat.le_refl _, fun a b e => by
  cases a <;> cases b
  · rfl
  · cases e
  · cases e
  · injection e with e
    congr 1
    omega⟩
instance keydP {α β : Type} {d : α → PyData} {e : β → PyData} {n m : Nat} [c : Keyd d n] [c2 : Keyd e m] : Keyd (dP d e) (n + m + 1) := ⟨fun p => .tup [c.key p.1, c2.key p.2], fun p => by
  simp only [NestedKey.data, NestedKey.datas, c.ok, c2.ok]
  rfl, fun p => by simp only [calm, calmAll, c.quiet, c2.quiet]; rfl, fun p => by
  have h1 := c.dep p.1
  have h2 := c2.dep p.2
  simp only [NestedKey.depth, NestedKey.depthAll]
  omega, fun a b h => by
  obtain ⟨a1, a2⟩ := a
  obtain ⟨b1, b2⟩ := b
  injection h with h
  injection h with h1 h2
  injection h2 with h2 _
  rw [c.inj a1 b1 h1, c2.inj a2 b2 h2]⟩
section
variable {ε α β : Type} [DecidableEq α] {Z : Wsh ε} {ρ : List (Option VP)} {κ : List Ow} {K : PySem.W.Frag} {P : Program} {w : World} {d : α → PyData} {n : Nat} [c : Keyd d n] [t : TupD d] {Rb : β → VP} {td te : TE} {ta : TA}
end
end Tw

/-! Pd2: len of a dict by nested keys. -/
namespace Sn
open PySem PySem.Spec PyProof.Rows L2 PySem.W Rs
variable [Rs.Tabz]
end Sn
namespace Tw
open PySem PySem.Spec PyProof.Rows L2 SlX StX Rs Ma Sn
variable [Rs.Tabz]
end Tw

/-! Pd3: a dict by nested keys of one's own: {}, d[k] = v. -/
namespace Sn
open PySem PySem.Spec PyProof.Rows L2 PySem.W
variable [Rs.Tabz]
section
variable {X : Cx} {pins : List (Addr × Obj)} {σ : L2.St} {H : Hp} {s : Shared} {E : Value → Shared → Prop} {D a : Addr} {zs : List Ent} {k : NestedKey} {v : V} {u : Value}
end
end Sn

/-! Pd4: a dict by nested keys of one's own, in plain terms. -/
namespace Tw
open PySem PySem.Spec PyProof.Rows L2 SlX StX Rs Ma Sn
variable [Rs.Tabz]
/-- a dict of one's own by keys that are tuples -/
def ownDP (K : PySem.W.Frag) (P : Program) (w : World) {α β : Type} [DecidableEq α] (d : α → PyData) {n : Nat} [c : Keyd d n] (R : β → VP) (kvs : List (α × β)) : Addr → HO → Hp → Prop := fun D o F => ∃ zs, o = dictN P w zs D ∧ EntAll K d R zs kvs F ∧ (kvs.map (·.1)).Nodup
instance {K : PySem.W.Frag} {P : Program} {w : World} {α β : Type} [DecidableEq α] {d : α → PyData} {n : Nat} [Keyd d n] {R : β → VP} [∀ b, Mono (R b)] : Bor (fun kvs : List (α × β) => ownDP K P w d R kvs) (fDK K P w d R) := ⟨inferInstance, fun g a o F h q => by
  obtain ⟨zs, rfl, r, n⟩ := q F (Same.refl _)
  exact ⟨a, zs, rfl, .inl upd_same, entAll_up (same_new h) r, n⟩⟩
section
variable {ε α β δ S : Type} [DecidableEq α] {Z : Wsh ε} {ρ : List (Option VP)} {κ : List Ow} {K : PySem.W.Frag} {P : Program} {w : World} {d : α → PyData} {n : Nat} [c : Keyd d n] [t : TupD d] {R : β → VP} {Rd : δ → VP} {td ty tv : TE} {u : TS} {i : Nat} {kvs : List (α × β)} {ρ2 : S → List (Option VP)} {κ2 : S → List Ow} {mk : Wm ε α} {mv : Wm ε β}
theorem dictN_notTup {zs : List Ent} {D : Addr} : ∀ xs, dictN P w zs D ≠ .tup xs := fun _ z => nomatch z
theorem dictN_notTbl {zs : List Ent} {D : Addr} : ∀ ps, dictN P w zs D ≠ .tbl ps := fun _ z => nomatch z
end
end Tw

/-! Pe0: dicts by nested keys that are locked for good: walked by keys and by pairs. -/
namespace Sn
open PySem PySem.Spec PyProof.Rows L2 PySem.W
variable [Rs.Tabz]
section
variable {X : Cx} {pins : List (Addr × Obj)} {σ : L2.St} {H : Hp} {s : Shared} {d : Addr} {o : Obj} {zs : List Ent}
end
section
variable {P : Program} {w : World} {K : PySem.W.Frag} {tg : Expr} {d : Addr} {o : Obj} {es : Array DictEntry} {ep : Nat} {zs : List Ent}
end
section
variable {X : Cx} {tg e : Expr} {td : TE} {apos cpos : Pos}
end
end Sn

/-! Pe1: dicts that are locked for good, in plain terms; walks over them; d.get; comprehensions of one's own. -/
namespace Tw
open PySem PySem.Spec PyProof.Rows L2 SlX StX Rs Ma Sn
variable [Rs.Tabz]
/-- a dict by nested keys, locked for good -/
def fDKZ (K : PySem.W.Frag) (P : Program) (w : World) {α β : Type} [DecidableEq α] (d : α → PyData) {n : Nat} [c : Keyd d n] (R : β → VP) : List (α × β) → VP := fun kvs v F => ∃ D o zs, v = .ref D ∧ F D = some (.frz o (dictN P w zs D)) ∧ EntAll K d R zs kvs F ∧ (kvs.map (·.1)).Nodup
instance {K : PySem.W.Frag} {P : Program} {w : World} {α β : Type} [DecidableEq α] {d : α → PyData} {n : Nat} [Keyd d n] {R : β → VP} [∀ b, Mono (R b)] {kvs : List (α × β)} : Mono (fDKZ K P w d R kvs) := ⟨fun _ _ _ e ⟨D, o, zs, h, h1, r, n⟩ => ⟨D, o, zs, h, e _ _ h1, entAll_up e r, n⟩⟩
/-- a thing of one's own that can be locked for good -/
class LkZ {γ : Type} (ow : γ → Addr → HO → Hp → Prop) (fam : outParam (γ → VP)) : Prop where
  mono : ∀ g, Mono (fam g)
  mt : ∀ g a o F, ow g a o F → Mut (some o)
  lk : ∀ g a o F od, F a = none → (∀ F', Same F F' → ow g a o F') → fam g (.ref a) (upd F a (.frz od o))
instance {K : PySem.W.Frag} {P : Program} {w : World} {α β : Type} [DecidableEq α] {d : α → PyData} {n : Nat} [Keyd d n] {R : β → VP} [∀ b, Mono (R b)] : LkZ (fun kvs : List (α × β) => ownDP K P w d R kvs) (fDKZ K P w d R) := ⟨inferInstance, fun g a o F ⟨zs, h, _⟩ => by subst h; exact True.intro, fun g a o F od h q => by
  obtain ⟨zs, rfl, r, n⟩ := q F (Same.refl _)
  exact ⟨a, od, zs, rfl, upd_same, entAll_up (same_new h) r, n⟩⟩
instance {α β : Type} [DecidableEq α] {d : α → PyData} [NumK d] {R : β → VP} [∀ b, Mono (R b)] : LkZ (fun kvs : List (α × β) => ownDI d R kvs) (fDZ d R) := ⟨inferInstance, fun g a o F ⟨zs, h, _⟩ => by subst h; exact True.intro, fun g a o F od h q => by
  obtain ⟨zs, rfl, r, n⟩ := q F (Same.refl _)
  exact ⟨a, od, zs, rfl, upd_same, relD_up (same_new h) r, n⟩⟩
section
variable {ε γ δ S : Type} {Z : Wsh ε} {ρ : List (Option VP)} {κ : List Ow} {te : TE} {t u : TS} {i : Nat} {ow : γ → Addr → HO → Hp → Prop} {fam : γ → VP} {g : γ} {ρ2 : S → List (Option VP)} {κ2 : S → List Ow} {Rd : δ → VP} {m : Wm ε γ} {mm : Ws ε S δ}
end
section
variable {ε α β : Type} [DecidableEq α] {Z : Wsh ε} {ρ : List (Option VP)} {κ : List Ow} {K : PySem.W.Frag} {P : Program} {w : World} {d : α → PyData} {n : Nat} [c : Keyd d n] [t : TupD d] {R : β → VP} {te : TE} {md : Wm ε (List (α × β))}
end
section
variable {ε α β : Type} [DecidableEq α] {Z : Wsh ε} {ρ : List (Option VP)} {κ : List Ow} {K : PySem.W.Frag} {d : α → PyData} [c : NumK d] {R : β → VP} {te td ty tx : TE} {md : Wm ε (List (α × β))} {mk : Wm ε α} {mx : Wm ε β}
end
/-! ### comprehensions that are one's own -/
section
variable {ε α β γ δ : Type} {Z : Wsh ε} {ρ : List (Option VP)} {κ : List Ow} {K : PySem.W.Frag} {P : Program} {w : World} {tk tv : TE} {tt : TT} {wi : TI} {g : TG} {n : Nat} {d : α → PyData} [DecidableEq α] {Rb : β → VP}
end
end Tw

/-! Pe2: sorted(xs, key=f), f a def of the module. -/
namespace Sn
open PySem PySem.Spec PyProof.Rows L2 PySem.W
variable [Rs.Tabz]
section
variable {X : Cx} {k : Nat} {f : Addr} {fd : FuncData} {ps : List Str} {sp : Sp} {CX : CXT} {E : XK}
end
end Sn

/-! Pe3: sorted by a key, in plain terms. -/
namespace Tw
open PySem PySem.Spec PyProof.Rows L2 SlX StX Rs Ma Sn
variable [Rs.Tabz]
/-- places of moves, in their order -/
abbrev Plc := Nat × List Nat
section
variable {ε β : Type} {Z : Wsh ε} {ρ : List (Option VP)} {κ : List Ow} {K : PySem.W.Frag} {te : TE} {dv : β → PyData} {ml : Wm ε (List (Plc × β))}
end
end Tw

/-! Pe4: isinstance(x, dict); lists of unlike things; sorted by a key and d.get as rules over defs. -/
namespace Sn
open PySem PySem.Spec PyProof.Rows L2 PySem.W Rs
variable [Rs.Tabz]
section
variable {X : Cx}
end
end Sn
namespace Tw
open PySem PySem.Spec PyProof.Rows L2 SlX StX Rs Ma Sn
variable [Rs.Tabz]
section
variable {ε α β γ : Type} {Z : Wsh ε} {ρ : List (Option VP)} {κ : List Ow} {K : PySem.W.Frag} {P : Program} {w : World} {te : TE} {t : TA} {Rb : β → VP} {R : α → VP}
end
end Tw

/-! Pf0: what a program is. -/
namespace Wb
open PySem PySem.Spec PyProof.Rows L2 SlX StX Rs Ma Sn Tw
variable [Rs.Tabz]
abbrev Hrd := List (Option Nat)
abbrev Mvk := Nat × Hrd
structure Prg where
  size : Nat
  states : Nat
  starts : Rows
  moves : List (Mvk × Nat)
  decs : List (Nat × Nat)
def StartsOk (size states : Nat) (ss : Rows) : Prop := ss.length = size ∧ ∀ p ∈ ss, p.length = 2 ∧ ∀ x ∈ p, x < states
def HearOk (size states s : Nat) (h : Hrd) : Prop := h.length = size ∧ (∀ x, some x ∈ h → x < states) ∧ some s ∈ h
def DecsOk (states : Nat) (ds : List (Nat × Nat)) : Prop := (ds.map (·.1)).Nodup ∧ ds.length < 64 ∧ ∀ p ∈ ds, p.1 < states ∧ p.2 ≤ 1
def letB (ds : List (Nat × Nat)) (s t : Nat) : Bool := !(getA ds s).isSome || decide (getA ds t = getA ds s)
def MovesOk (size states : Nat) (ds : List (Nat × Nat)) (mv : List (Mvk × Nat)) : Prop := (mv.map (·.1)).Nodup ∧ mv.length ≤ 1000 ∧ ∀ x ∈ mv, x.1.1 < states ∧ HearOk size states x.1.1 x.1.2 ∧ x.2 < states ∧ letB ds x.1.1 x.2 = true
structure RawOk (g : Nat × Nat × Rows × List (Mvk × Nat) × List (Nat × Nat)) : Prop where
  sz : 1 ≤ g.1 ∧ g.1 ≤ 5
  st : 1 ≤ g.2.1 ∧ g.2.1 ≤ 400
  starts : StartsOk g.1 g.2.1 g.2.2.1
  moves : MovesOk g.1 g.2.1 g.2.2.2.2 g.2.2.2.1
  decs : DecsOk g.2.1 g.2.2.2.2
/-- what is always so of a program -/
def PrOk (p : Prg) : Prop := RawOk (p.size, p.states, p.starts, p.moves, p.decs)
noncomputable def progVs (K : PySem.W.Frag) (P : Program) (w : World) (p : Prg) : List VP := [fD K dN p.size, fD K dN p.states, fD K (dT (dT dN)) p.starts, fDKZ K P w (dP dN (dT dO)) (fD K dN) p.moves, fDZ dN (fD K dN) p.decs]
instance {K : PySem.W.Frag} {P : Program} {w : World} {p : Prg} : MonoL (progVs K P w p) := by unfold progVs; infer_instance
noncomputable def progP (C : Addr) (K : PySem.W.Frag) (P : Program) (w : World) (p : Prg) : VP := fun v F => PrOk p ∧ Ob C [2, 4, 3, 1, 0] (progVs K P w p) v F
instance {C : Addr} {K : PySem.W.Frag} {P : Program} {w : World} {p : Prg} : Mono (progP C K P w p) := ⟨fun _ _ _ e h => ⟨h.1, Mono.go h.2 e⟩⟩
section
variable {P : Program} {w : World} {K : PySem.W.Frag} {C_Program : Addr}
end
end Wb

/-! Pg0: objects that change: their cells. -/
namespace Tw
open PySem PySem.Spec PyProof.Rows L2 SlX StX Rs Ma Sn
variable [Rs.Tabz]
/-! ### cells laid into what stays, and taken out again -/
def OkC (o : HO) : Prop := (∀ xs, o ≠ .tup xs) ∧ (∀ ps, o ≠ .tbl ps) ∧ (∀ c q, o ≠ CodeT c q) ∧ ∀ o' u, o ≠ .frz o' u
section
variable {F F1 F2 H : Hp} {M N L : Cells} {a : Addr} {o : HO}
end
/-! ### fields -/
inductive FD where
  | v (R : VP)
  | l (Rs : List VP)
abbrev Fds := List (Str × FD)
def HoldD : FD → V → Cells → Hp → Prop
  | .v R, x, M, F => M = [] ∧ R x F ∧ Mono R
  | .l Rs, x, M, F => ∃ p xs, x = .ref p ∧ M = [(p, .lst xs)] ∧ Each Rs xs F ∧ MonoL Rs
def HoldF : Fds → List (Str × V) → Cells → Hp → Prop
  | [], [], M, _ => M = []
  | d :: ds, f :: fs, M, F => d.1 = f.1 ∧ ∃ M1 M2, M = M1 ++ M2 ∧ HoldD d.2 f.2 M1 F ∧ HoldF ds fs M2 F
  | _, _, _, _ => False
section
variable {F F1 F2 H : Hp} {M N L : Cells} {ds : Fds} {fs : List (Str × V)} {f : Str} {d d' : FD} {x y : V}
theorem holdD_up (e : Same F F1) (h : HoldD d x M F) : HoldD d x M F1 := by
  cases d with
  | v R => obtain ⟨h1, h2, h3⟩ := h; exact ⟨h1, h3.mono _ _ _ e h2, h3⟩
  | l Rs => obtain ⟨p, xs, h1, h2, h3, h4⟩ := h; exact ⟨p, xs, h1, h2, h4.mono _ _ _ e h3, h4⟩
theorem holdF_up (e : Same F F1) : ∀ {ds : Fds} {fs : List (Str × V)} {M : Cells}, HoldF ds fs M F → HoldF ds fs M F1
  | [], [], _, h => h
  | d :: ds, f :: fs, _, ⟨h1, M1, M2, h2, h3, h4⟩ => ⟨h1, M1, M2, h2, holdD_up e h3, holdF_up e h4⟩
  | [], _ :: _, _, h => h.elim
  | _ :: _, [], _, h => h.elim
theorem holdF_names : ∀ {ds : Fds} {fs : List (Str × V)} {M : Cells}, HoldF ds fs M F → fs.map (·.1) = ds.map (·.1)
  | [], [], _, _ => rfl
  | d :: ds, f :: fs, _, ⟨h1, M1, M2, h2, h3, h4⟩ => by rw [List.map_cons, List.map_cons, holdF_names h4, h1]
  | [], _ :: _, _, h => h.elim
  | _ :: _, [], _, h => h.elim
/-- one field by itself -/
theorem holdF_zoom : ∀ {ds : Fds} {fs : List (Str × V)} {M : Cells} {k : Nat}, ds[k]? = some (f, d) → HoldF ds fs M F → ∃ x M1 M2, fs[k]? = some (f, x) ∧ M.Perm (M1 ++ M2) ∧ HoldD d x M1 F ∧
    ∀ d' y Mn F', Same F F' → HoldD d' y Mn F' → ∃ M', M'.Perm (Mn ++ M2) ∧ HoldF (ds.set k (f, d')) (fs.set k (f, y)) M' F'
  | [], [], _, k, e, _ => by simp at e
  | dd :: ds, ff :: fs, _, 0, e, ⟨h1, M1, M2, h2, h3, h4⟩ => by
    cases (Option.some.inj e : dd = _)
    obtain ⟨fn, x⟩ := ff
    cases (h1 : f = fn)
    exact ⟨x, M1, M2, rfl, by rw [h2], h3, fun d' y Mn F' e' hy => ⟨Mn ++ M2, List.Perm.refl _, rfl, Mn, M2, rfl, hy, holdF_up e' h4⟩⟩
  | dd :: ds, ff :: fs, _, k + 1, e, ⟨h1, M1, M2, h2, h3, h4⟩ => by
    obtain ⟨x, N1, N2, g1, g2, g3, g4⟩ := holdF_zoom (k := k) (by simpa using e) h4
    refine ⟨x, N1, M1 ++ N2, by simpa using g1, ?_, g3, fun d' y Mn F' e' hy => ?_⟩
    · rw [h2]
      exact (g2.append_left M1).trans (by rw [← List.append_assoc, ← List.append_assoc]; exact List.perm_append_comm.append_right _)
    · obtain ⟨M', p1, p2⟩ := g4 d' y Mn F' e' hy
      refine ⟨M1 ++ M', ?_, h1, M1, M', rfl, holdD_up e' h3, p2⟩
      exact (p1.append_left M1).trans (by rw [← List.append_assoc, ← List.append_assoc]; exact List.perm_append_comm.append_right _)
  | [], _ :: _, _, _, _, h => h.elim
  | _ :: _, [], _, _, _, h => h.elim
theorem holdF_app : ∀ {ds : Fds} {fs : List (Str × V)} {M : Cells}, HoldF ds fs M F → HoldD d y N F → HoldF (ds ++ [(f, d)]) (fs ++ [(f, y)]) (M ++ N) F
  | [], [], _, h, hd => by
    rw [show _ = [] from h]
    exact ⟨rfl, N, [], (List.append_nil N).symm, hd, rfl⟩
  | dd :: ds, ff :: fs, _, ⟨h1, M1, M2, h2, h3, h4⟩, hd => by
    refine ⟨h1, M1, M2 ++ N, ?_, h3, holdF_app h4 hd⟩
    rw [h2, List.append_assoc]
  | [], _ :: _, _, h, _ => h.elim
  | _ :: _, [], _, h, _ => h.elim
theorem putF_at : ∀ {fs : List (Str × V)} {k : Nat}, fs[k]? = some (f, x) → (fs.map (·.1)).Nodup → putF f y fs = fs.set k (f, y)
  | [], k, e, _ => by simp at e
  | p :: fs, 0, e, n => by
    cases (Option.some.inj e : p = _)
    show (if f = f then _ else _) = _
    rw [if_pos rfl]; rfl
  | (g, z) :: fs, k + 1, e, n => by
    rw [List.map_cons, List.nodup_cons] at n
    have e' : fs[k]? = some (f, x) := by simpa using e
    have hne : g ≠ f := fun h => n.1 (List.mem_map.mpr ⟨(f, x), List.mem_iff_getElem?.mpr ⟨k, e'⟩, h.symm⟩)
    show (if g = f then _ else _) = _
    rw [if_neg hne, putF_at e' n.2]; rfl
theorem putF_no : ∀ {fs : List (Str × V)}, f ∉ fs.map (·.1) → putF f y fs = fs ++ [(f, y)]
  | [], _ => rfl
  | (g, z) :: fs, h => by
    rw [List.map_cons, List.mem_cons, not_or] at h
    show (if g = f then _ else _) = _
    rw [if_neg fun e => h.1 e.symm, putF_no h.2]; rfl
/-- a field is given a value, or made -/
inductive UpdD (f : Str) (d' : FD) (ds : Fds) : Fds → Prop
  | at_ (k : Nat) (d : FD) : ds[k]? = some (f, d) → UpdD f d' ds (ds.set k (f, d'))
  | new : f ∉ ds.map (·.1) → UpdD f d' ds (ds ++ [(f, d')])
theorem UpdD.put {ds' : Fds} (u : UpdD f d' ds ds') (n : (ds.map (·.1)).Nodup) (h : HoldF ds fs N F) (e : Same F F1) (hy : HoldD d' y M F1) : ∃ N' G, (M ++ N).Perm (G ++ N') ∧ HoldF ds' (putF f y fs) N' F1 ∧ (ds'.map (·.1)).Nodup ∧ ds'.length ≤ ds.length + 1 := by
  cases u with
  | at_ k d hk =>
    obtain ⟨x, M1, M2, g1, g2, g3, g4⟩ := holdF_zoom hk h
    obtain ⟨N', p1, p2⟩ := g4 d' y M F1 e hy
    refine ⟨N', M1, ?_, ?_, ?_, by rw [List.length_set]; omega⟩
    · refine (g2.append_left M).trans ?_
      rw [← List.append_assoc]
      refine (List.perm_append_comm.append_right M2).trans ?_
      rw [List.append_assoc]
      exact p1.symm.append_left M1
    · rw [putF_at g1 (by rw [holdF_names h]; exact n)]; exact p2
    · have hm : (ds.set k (f, d')).map (·.1) = ds.map (·.1) := by
        rw [List.map_set]
        apply List.ext_getElem?
        intro j
        by_cases hj : k = j
        · subst hj
          have hl := (List.getElem?_eq_some_iff.mp hk).1
          rw [List.getElem?_set_self (by rw [List.length_map]; exact hl), List.getElem?_map, hk]; rfl
        · rw [List.getElem?_set_ne hj]
      rw [hm]; exact n
  | new hf =>
    refine ⟨N ++ M, [], ?_, ?_, ?_, by rw [List.length_append]; exact Nat.le_refl _⟩
    · exact List.perm_append_comm
    · rw [putF_no (by rw [holdF_names h]; exact hf)]; exact holdF_app (holdF_up e h) hy
    · rw [List.map_append]
      exact List.nodup_append.mpr ⟨n, List.nodup_cons.mpr ⟨fun z => (nomatch z), List.nodup_nil⟩, fun a ha b hb z => hf (by have := List.mem_singleton.mp hb; rw [show f = b from this.symm, ← z]; exact ha)⟩
end
/-! ### the object -/
def objO (C : Addr) (ds : Fds) (a : Addr) (M : Cells) (F : Hp) : Prop := ∃ dx fs N, M = (a, .ins C dx fs) :: (dx, .own a) :: N ∧ HoldF ds fs N F ∧ (ds.map (·.1)).Nodup
def objB (B : Addr → Hp → Prop) (C : Addr) (ds : Fds) (a : Addr) (M : Cells) (F : Hp) : Prop := B a F ∧ objO C ds a M F
def atB (a0 : Addr) (F0 : Hp) : Addr → Hp → Prop := fun a F => a = a0 ∧ Same F0 F
/-- looked at as a value -/
def objV (C : Addr) (ds : Fds) : VP := fun v F => ∃ a M, v = .ref a ∧ objO C ds a M F ∧ ∀ p ∈ M, F p.1 = some p.2
section
variable {F F1 F2 H : Hp} {M N L : Cells} {ds : Fds} {C a : Addr} {B : Addr → Hp → Prop}
theorem objO_up (e : Same F F1) (h : objO C ds a M F) : objO C ds a M F1 :=
  let ⟨dx, fs, N, h1, h2, h3⟩ := h
  ⟨dx, fs, N, h1, holdF_up e h2, h3⟩
instance : Mono (objV C ds) := ⟨fun _ _ _ e ⟨a, M, h, h1, h2⟩ => ⟨a, M, h, objO_up e h1, fun p hp => e _ _ (h2 p hp)⟩⟩
end
end Tw

/-! Pg1: objects that change: looked at, written, called. -/
namespace Tw
open PySem PySem.Spec PyProof.Rows L2 SlX StX Rs Ma Sn
variable [Rs.Tabz]
section
variable {F F1 F2 H : Hp} {M N L : Cells} {ds : Fds} {C a : Addr} {B : Addr → Hp → Prop}
end
section
variable {ε α β γ δ S S0 S1 : Type} {Z : Wsh ε} {ρ : List (Option VP)} {κ : List Ow} {K : PySem.W.Frag} {te ta : TE} {t : TA} {u : TS} {i : Nat} {C : Addr} {f m : Str} {ds : Fds} {B : Addr → Hp → Prop} {R : α → VP} {Rb : β → VP} {Rd : δ → VP} {mm : Wm ε α} {ml : Wm ε (List α)} {mg : Wm ε γ} {Rs : γ → List VP} {ρ2 : S → List (Option VP)} {κ2 : S → List Ow}
/-! ### looked at -/
/-! ### written -/
end
end Tw

/-! Pg2: objects that change: their methods' promises. -/
namespace Tw
open PySem PySem.Spec PyProof.Rows L2 SlX StX Rs Ma Sn
variable [Rs.Tabz]
section
variable {ε α β γ δ S S0 S1 : Type} {Z : Wsh ε} {ρ : List (Option VP)} {κ : List Ow} {K : PySem.W.Frag} {te ta : TE} {t : TA} {u : TS} {i : Nat} {C : Addr} {f m : Str} {ds : Fds} {B : Addr → Hp → Prop} {R : α → VP} {Rb : β → VP} {Rd : δ → VP} {mm : Wm ε α} {ml : Wm ε (List α)} {mg : Wm ε γ} {Rs : γ → List VP} {ρ2 : S → List (Option VP)} {κ2 : S → List Ow}
end
section
variable {P : Program} {w : World} {K : PySem.W.Frag} {mg : Str → Option Value} {base : Heap} {γ δ S S0 S1 : Type} {C : Addr} {D0 : S0 → Fds} {D1 : S1 → Fds}
theorem satV_self {Rs : List VP} {vs : List V} {F : Hp} {n : Nat} {a : Addr} (hm : MonoAll Rs) (hv : Each Rs vs F) (hn : vs.length + 1 ≤ n) : SatV (none :: ofArgs Rs (n - 1)) ((V.ref a :: vs).map some ++ List.replicate (n - (V.ref a :: vs).length) none) F := by
  have h := sat_start (n := n - 1) hm hv
  rw [List.length_cons, show n - (vs.length + 1) = n - 1 - vs.length by omega]
  exact h
end
end Tw

/-! Pg3: methods and properties of classes without slots. -/
namespace Tw
open PySem PySem.Spec PyProof.Rows L2 SlX StX Rs Ma Sn
variable [Rs.Tabz]
section
variable {X : Cx} {e o : Expr} {es : List Expr} {t : TA} {ta : TE} {pos apos : Pos} {f m : Str}
end
section
variable {ε α β γ δ S : Type} {Z : Wsh ε} {ρ : List (Option VP)} {κ : List Ow} {K : PySem.W.Frag} {te ta tb : TE} {C : Addr} {ds : Fds} {R : α → VP} {Ra : α → VP} {Rb : β → VP} {Rd : δ → VP} {ma : Wm ε α} {mb : Wm ε β}
/-- a pair of what may be cut -/
instance {Ra : α → VP} {Rb : β → VP} [Cut Ra] [Cut Rb] : Cut (fP K Ra Rb) := ⟨fun p v F a o h1 h2 h3 ⟨b, vs, ev, hs, hr⟩ => by
  obtain ⟨x, y, rfl, r1, r2⟩ := each2 hr
  exact ⟨b, [x, y], ev, sqT_cut h1 h2 h3 hs, Cut.cut p.1 x F a o h1 h2 h3 r1, Cut.cut p.2 y F a o h1 h2 h3 r2, True.intro⟩⟩
end
end Tw

/-! Pg4: own len, str, bool of classes without slots. -/
namespace Sn
open PySem PySem.Spec PySem.Calls PyProof.Rows PySem.W
section
variable {prog : Program} {w : World} {A : Around} {E : Value → Shared → Prop} {s : Shared} {K : Frag} {x C f : Addr} {ox : Obj} {od : Option Obj}
end
end Sn
namespace Tw
open PySem PySem.Spec PyProof.Rows L2 SlX StX Rs Ma Sn
variable [Rs.Tabz]
section
variable {X : Cx} {CX : CXT} {C g : Addr} {n : Nat} {sp : Sp} {E : XK}
end
section
variable {X : Cx} {k j : Nat} {C : Addr} {sp : Sp} {e : Expr} {es : List Expr} {t : TA} {p pos : Pos}
end
section
variable {ε α β γ δ S : Type} {Z : Wsh ε} {ρ : List (Option VP)} {κ : List Ow} {K : PySem.W.Frag} {te ta tb : TE} {C : Addr}  {ma : Wm ε α} {D : α → Fds} {E : XK}
end
end Tw

/-! Ph0: expressions that change objects of one's own. -/
namespace Tw
open PySem PySem.Spec PyProof.Rows L2 SlX StX Rs Ma Sn
variable [Rs.Tabz]
/-- what a run with other cells behind it leaves -/
def RunX {α : Type} (Z : Wsh ε) (k : Hp → (α → Hp → Prop) → Prop) (F : Hp) (L : Cells) (R : α → Hp → Cells → Prop) (X : ε → Prop) : Prop :=
  ∀ F1 N H, Same F F1 → At F1 (L ++ N) H → WishOk Z F1 N X → ∀ Q : α → Hp → Prop, (∀ v F2 L2 H2, Same F1 F2 → At F2 (L2 ++ N) H2 → R v F2 L2 → Q v H2) → k H Q
section
variable {ε α β γ δ S S0 S1 S2 : Type}
variable {Z : Wsh ε} {ρ : List (Option VP)} {κ : List Ow} {K : PySem.W.Frag} {te ta tb : TE} {tt : TT} {t : TA} {t1 t2 u w' : TS} {i : Nat} {C : Addr} {f m : Str} {ds : Fds} {B : Addr → Hp → Prop} {R Ra : α → VP} {Rb : β → VP} {Rc : γ → VP} {Rd : δ → VP} {mg : Wm ε γ} {Rs : γ → List VP} {κs : S → List Ow} {ρ2 : S2 → List (Option VP)} {κ2 : S2 → List Ow}
end
end Tw

/-! Ph1: things of one's own in any order; several names given at once, some of them things of one's own. -/
namespace Tw
open PySem PySem.Spec PyProof.Rows L2 SlX StX Rs Ma Sn
variable [Rs.Tabz]
section
variable {κ κ' : List Ow} {σ : L2.St} {F : Hp}
end
section
variable {ε α β γ δ S S0 S1 S2 : Type} {Z : Wsh ε} {ρ : List (Option VP)} {κ κ' : List Ow} {K : PySem.W.Frag} {te ta tb : TE} {t : TA} {u : TS} {i j l : Nat} {C : Addr} {R Ra : α → VP} {Rb : β → VP} {Rd : δ → VP} {ma : Wm ε α} {mg : Wm ε γ} {ρ2 : S2 → List (Option VP)} {κ2 : S2 → List Ow}
/-! ### several names at once -/
inductive ItC where
  | v (R : VP)
  | o (p : Addr → HO → Hp → Prop)
  | m (P : Addr → Cells → Hp → Prop)
section
variable {F F1 : Hp} {M L N : Cells} {k : ItC} {x : V} {σ : L2.St}
end
section
variable {Is : γ → List ItC} {mk : γ → Ws ε S2 δ} {ρ' : γ → List (Option VP)} {κ' : γ → List Ow}
end
end
end Tw

/-! Ri0: keyword calls of methods that change objects; lists of what changes objects; l[::-1]; slices as lists of one's own; own str of classes without slots. -/
namespace Rs
open PySem PySem.Spec PyProof.Rows L2
end Rs
namespace Tw
open PySem PySem.Spec PyProof.Rows L2 SlX StX Rs Ma Sn
variable [Rs.Tabz]
/-! ### o.m(k = v, ..) -/
section
variable {X : Cx} {o : Expr} {kws : List Keyword} {ta : TE} {tk : TA} {pos apos : Pos} {m : Str} {ks : List Str}
end
/-! ### str of a class without slots -/
section
variable {ε α : Type} {Z : Wsh ε} {ρ : List (Option VP)} {κ : List Ow} {K : PySem.W.Frag} {ta : TE} {C : Addr} {ma : Wm ε α} {D : α → Fds} {E : XK}
end
/-! ### lists: turned round, cut, of one's own -/
section
variable {ε α β : Type} {Z : Wsh ε} {ρ : List (Option VP)} {κ : List Ow} {K : PySem.W.Frag} {te : TE} {R : α → VP} {ml : Wm ε (List α)}
end
/-! ### expressions that change an object: lists, tests -/
section
variable {ε α β γ δ S S0 : Type} {Z : Wsh ε} {ρ : List (Option VP)} {κ : List Ow} {K : PySem.W.Frag} {te : TE} {tt tu : TT} {t : TA} {i : Nat} {C : Addr} {m : Str} {ds : Fds} {B : Addr → Hp → Prop} {R : α → VP} {Rb : β → VP} {mg : Wm ε γ} {Rs : γ → List VP} {κs : S → List Ow}
end
end Tw

/-! Ri1: dict displays with several keys; two places of a dict by nested keys at once. -/
namespace Sn
open PySem PySem.Spec PyProof.Rows L2 PySem.W
variable [Rs.Tabz]
section
variable {X : Cx}
end
end Sn
namespace Tw
open PySem PySem.Spec PyProof.Rows L2 SlX StX Rs Ma Sn
variable [Rs.Tabz]
section
variable {ε α β δ S : Type} {Z : Wsh ε} {ρ : List (Option VP)} {κ : List Ow} {K : PySem.W.Frag} {P : Program} {w : World} {tk tv ta tb tx ty : TE} {trs : List (TE × TE)} {u : TS} {i : Nat} {Rk : α → VP} {R : β → VP} {Rd : δ → VP} {mk : Wm ε α} {mv : Wm ε β} {ρ2 : S → List (Option VP)} {κ2 : S → List Ow}
variable [DecidableEq α] {d : α → PyData}
section
variable {n : Nat} [c : Keyd d n] [t : TupD d]
end
end
end Tw

/-! Ri2: the head's facts on methods with a keyword-only parameter. -/
namespace Tw
open PySem PySem.Spec PyProof.Rows L2 SlX StX Rs Ma
variable [Rs.Tabz]
end Tw

/-! Ri3: a value is given a name: the goals behind it hold no copy of it. -/
namespace Tw
open PySem PySem.Spec PyProof.Rows L2 SlX StX Rs Ma
variable [Rs.Tabz]
variable {ε : Type} {α S : Type} {Z : Wsh ε} {ρ : List (Option VP)} {κ : List Ow} {te : TE} {R : α → VP}
end Tw

/-! Rj0: methods that change objects and may raise; such calls in a lambda handed to a def that tells errors by words. -/
namespace Tw
open PySem PySem.Spec PyProof.Rows L2 SlX StX Rs Ma Sn LmR
variable [Rs.Tabz]
/-- exceptions behind which what is one's own is as κ0 says -/
noncomputable def Zs (Y : Wx) (W : WX) (n : Nat) (κ0 : List Ow) : Wsh Ex where
  wi := W
  xr := xrE Y
  t := fun σ F L => σ.length = n ∧ ∃ L0 M, L.Perm (L0 ++ M) ∧ SatC κ0 σ F L0
  tl := fun σ F L M h => ⟨h.1, h.2.elim fun L0 h2 => h2.elim fun M0 h3 => ⟨L0, M0 ++ M, (h3.1.append_right M).trans (by rw [List.append_assoc]), h3.2⟩⟩
/-- a method's promise: from one state of the object to another, or an exception and the object as it was -/
noncomputable def SpMY {γ δ S0 S1 : Type} (Y : Wx) (C : Addr) (D0 : S0 → Fds) (D1 : S1 → Fds) (Rs : γ → List VP) (spec : S0 → γ → (S1 × δ → Prop) → (Ex → Prop) → Prop) (R : δ → VP) : Sp := fun vs H Q E =>
  ∃ s g F N a M ws P PX, vs = .ref a :: ws ∧ At F (M ++ N) H ∧ objO C (D0 s) a M F ∧ Each (Rs g) ws F ∧ spec s g P PX ∧
    (∀ s' d v F' M' H', Same F F' → At F' (M' ++ N) H' → objO C (D1 s') a M' F' → P (s', d) → R d v F' → Q v H') ∧
    (∀ e cls d F' M' H', Same F F' → At F' (M' ++ N) H' → objO C (D0 s) a M' F' → PX e → xrE Y e cls d F' → E cls d H')
section
variable {X : Cx} {e o : Expr} {es : List Expr} {t : TA} {ta : TE} {pos apos : Pos} {f m : Str} {E : XK}
end
section
variable {α β γ δ S S0 S1 : Type} {ρ : List (Option VP)} {κ κ' : List Ow} {K : PySem.W.Frag} {Y : Wx} {t : TA} {te : TE} {mg : Wm Ex γ} {Rs : γ → List VP} {Rb : β → VP} {Rd : δ → VP} {R : α → VP} {W : WX} {n i : Nat} {ρ2 : S → List (Option VP)} {κ2 : S → List Ow} {C : Addr} {m : Str} {ds : Fds} {B : Addr → Hp → Prop}
theorem t_zs {σ : L2.St} {F : Hp} {L : Cells} (sv : SatV ρ σ F) (hn : ρ.length = n) (c : SatC κ σ F L) : (Zs Y W n κ).t σ F L := ⟨by rw [← sat_len sv]; exact hn, L, [], by rw [List.append_nil], c⟩
theorem ts_raiseCs {C : Addr} {u : TS} (hn : ρ.length = n := by rfl) : TrS (Zs Y W n κ) ρ κ (tSeq (tRaise W C) u) (fun (_ : S → Prop) (_ : δ → Prop) E => E ⟨C, none⟩) ρ2 κ2 Rd :=
  ⟨fun σ F L sv sc Nx Rt E q F1 N H e A wsh D nx rt => wsh ⟨C, none⟩ _ none σ F1 L H (Same.refl _) A (t_zs (satV_up e sv) hn (satC_up e sc)) q ⟨rfl, fun f w z => by cases z⟩⟩
end
end Tw

/-! Rj1: heads: methods that may raise; a def with an object among its arguments; a method that gives a new object. -/
namespace Tw
open PySem PySem.Spec PyProof.Rows L2 SlX StX Rs Ma Sn LmR
variable [Rs.Tabz]
section
variable {P : Program} {w : World} {K : PySem.W.Frag} {mg : Str → Option Value} {base : Heap} {α γ δ S S0 S1 S2 : Type} {C : Addr} {D0 : S0 → Fds} {D1 : S1 → Fds} {Y : Wx}
/-! ### a def with an object as its second argument -/
section
variable {ε β : Type} {Z : Wsh ε} {ρ : List (Option VP)} {κ : List Ow} {t0 : TE} {t : TA} {ml : Wm ε α} {mr : Wm ε γ} {R0 : α → VP} {Rs : γ → List VP} {Rb : β → VP} {i : Nat} {B : Addr → Hp → Prop} {ds : Fds}
end
end
end Tw

/-! Rj2: calls by keyword and by default of methods that may raise; a choice between two expressions that change an object; a method that gives a new object. -/
namespace Tw
open PySem PySem.Spec PyProof.Rows L2 SlX StX Rs Ma Sn LmR
variable [Rs.Tabz]
section
variable {X : Cx} {o : Expr} {kws : List Keyword} {ta : TE} {tk : TA} {pos apos : Pos} {m : Str} {ks : List Str} {E : XK} {dv : V}
end
section
variable {ε α β γ δ S S0 S1 S2 : Type} {ρ : List (Option VP)} {κ : List Ow} {K : PySem.W.Frag} {Y : Wx} {t : TA} {te ta tb : TE} {tt : TT} {mg : Wm Ex γ} {Rs : γ → List VP} {Rb : β → VP} {n i : Nat} {C : Addr} {m : Str} {ds : Fds} {B : Addr → Hp → Prop}
variable {Z : Wsh ε} {κs : S → List Ow} {R : α → VP} {mm : Wm ε Bool} {m1 m2 : Wm ε (S × α)}
end
end Tw

/-! Rj3: a method that gives a new object. -/
namespace Tw
open PySem PySem.Spec PyProof.Rows L2 SlX StX Rs Ma Sn LmR
variable [Rs.Tabz]
section
variable {ε α β γ δ S S0 S1 S2 : Type} {Z : Wsh ε} {ρ : List (Option VP)} {κ : List Ow} {t : TA} {u : TS} {i j : Nat} {C : Addr} {m : Str} {ds ds2 : Fds} {B : Addr → Hp → Prop} {Rd : δ → VP} {mg : Wm ε γ} {Rs : γ → List VP} {ρ2 : S → List (Option VP)} {κ2 : S → List Ow}
end
section
variable {P : Program} {w : World} {K : PySem.W.Frag} {mg : Str → Option Value} {base : Heap} {γ S S0 S1 S2 : Type} {C : Addr} {D0 : S0 → Fds} {D1 : S1 → Fds} {D2 : S2 → Fds}
end
end Tw

/-! Rj4: data that are known to be numbers; what a call in a lambda gives, as any data. -/
namespace Tw
open PySem PySem.Spec PyProof.Rows L2 SlX StX Rs Ma Sn LmR
variable [Rs.Tabz]
section
variable {ε α β δ S S2 : Type} {Z : Wsh ε} {ρ : List (Option VP)} {κ : List Ow} {K : PySem.W.Frag} {te : TE} {n i : Nat} {ds : Fds} {C : Addr} {Y : Wx} {d : β → PyData} {κs : S → List Ow} {ρ2 : S2 → List (Option VP)} {κ2 : S2 → List Ow} {R : α → VP} {R' : β → VP}
end
end Tw

/-! Rj5: == of an object and data; [e] + xs[1:] of a list of unlike items. -/
namespace Tw
open PySem PySem.Spec PyProof.Rows L2 SlX StX Rs Ma Sn
variable [Rs.Tabz]
def notNames : List String := ["NoneType", "bool", "int", "str", "list", "tuple", "dict"]
/-- no data are of the class C -/
structure NoD (K : PySem.W.Frag) (C : Addr) : Prop where
  kit : ∀ T ∈ notNames, PySem.W.kitOne K (.type T) (.ref C) = some false
  nf : ∀ T ∈ notNames, PySem.W.notFirst K C (.type T) = true
def noDB (K : PySem.W.Frag) (C : Addr) : Bool := (notNames.all fun T => decide (PySem.W.kitOne K (.type T) (.ref C) = some false)) && notNames.all fun T => PySem.W.notFirst K C (.type T)
theorem noDB_ok {K : PySem.W.Frag} {C : Addr} (h : noDB K C = true) : NoD K C := by
  unfold noDB at h
  rw [Bool.and_eq_true] at h
  exact ⟨fun T m => of_decide_eq_true (List.all_eq_true.mp h.1 T m), fun T m => List.all_eq_true.mp h.2 T m⟩
section
variable {X : Cx} {k j : Nat} {C : Addr} {sp : Sp}
end
section
variable {ε α β γ : Type} {Z : Wsh ε} {ρ : List (Option VP)} {κ : List Ow} {K : PySem.W.Frag} {C : Addr} {E : XK} {D : α → Fds} {d : β → PyData} {ta tb : TE} {ma : Wm ε Bool}
/-- a and .., where a is false -/
theorem tr_andF (ha : TrE Z ρ κ ta ma (fD K dB)) : TrE Z ρ κ (tAndV ta tb) (fun Q X => ma (fun a => a = false ∧ Q false) X) (fD K dB) :=
  ⟨inferInstance, fun σ F L s c Q X q => rw_bind (k := ta σ) (ha.run σ F L s c _ X q) fun x F1 e1 ⟨a, ⟨q0, q1⟩, hx⟩ => by
    cases hx
    subst q0
    intro F4 N H e4 A wsh Qk qk
    exact ⟨false, rfl, iteF (qk _ F4 H (Same.refl _) A ⟨false, q1, .bl false⟩)⟩⟩
variable {Rs Rt : γ → List VP} {Rh : γ → VP} {R0 : α → VP} {mg : Wm ε γ} {mh : Wm ε α} {te tq : TE} {tl th : TO}
end
end Tw

/-! Rj6: x.f.pop() of an object of one's own; comprehensions whose items change an object. -/
namespace Tw
open PySem PySem.Spec PyProof.Rows L2 SlX StX Rs Ma Sn
variable [Rs.Tabz]
section
variable {ε α β γ δ S S2 : Type} {Z : Wsh ε} {ρ : List (Option VP)} {κ : List Ow} {K : PySem.W.Frag} {te : TE} {t u : TS} {i : Nat} {C : Addr} {f : Str} {ds : Fds} {B : Addr → Hp → Prop} {R : α → VP} {Rd : δ → VP} {κs : S → List Ow} {wi : TI} {g : TG}
end
end Tw

/-! Rj7: a method with one keyword-only parameter that has a default; `and` of expressions that change an object, return of one; an object made within an expression; an object's address told. -/
namespace Tw
open PySem PySem.Spec PyProof.Rows L2 SlX StX Rs Ma Sn LmR
variable [Rs.Tabz]
section
variable {ε α β γ δ S S1 S2 : Type} {Z : Wsh ε} {ρ : List (Option VP)} {κ : List Ow} {K : PySem.W.Frag} {te ta tb : TE} {t : TA} {u : TS} {i : Nat} {C : Addr} {f : Str} {ds : Fds} {B : Addr → Hp → Prop} {R : α → VP} {Rd : δ → VP} {κs : S → List Ow} {mg : Wm ε γ} {Rs : γ → List VP} {ρ2 : S2 → List (Option VP)} {κ2 : S2 → List Ow}
end
/-! ### objects of other classes under == -/
end Tw

/-! Rj8: == of an object with a dict and one with slots, of another class. -/
namespace Tw
open PySem PySem.Spec PyProof.Rows L2 SlX StX Rs Ma Sn LmR
variable [Rs.Tabz]
section
variable {X : Cx} {k j : Nat} {C : Addr} {sp : Sp}
end
section
variable {ε α β : Type} {K : PySem.W.Frag} {C C' : Addr} {E : XK} {D : α → Fds} {Rb : β → VP} [∀ b, Mono (Rb b)]
end
end Tw

/-! Sr0: a def with one keyword-only parameter that has a default, called by f(e, k = v) or by f(e). -/
namespace Tw
open PySem PySem.Spec PyProof.Rows L2 SlX StX Rs Ma Sn
variable [Rs.Tabz]
section
variable {X : Cx} {f : Str} {e : Expr} {es : List Expr} {kws : List Keyword} {t tk : TA} {p pos : Pos} {ks : List Str} {dv : V}
end
section
variable {ε α β δ : Type} {Z : Wsh ε} {ρ : List (Option VP)} {κ : List Ow} {K : PySem.W.Frag} {t tk : TA} {R1 : α → VP} {R2 : β → VP} {Rd : δ → VP} {ma : Wm ε α} {mb : Wm ε β} {spec : α × β → (δ → Prop) → Prop} {E : XK}
end
end Tw

/-! Sr2: f(e, k = v) that may raise; a promise with exceptions used where none can be. -/
namespace Tw
open PySem PySem.Spec PyProof.Rows L2 SlX StX Rs Ma Sn
variable [Rs.Tabz]
section
variable {X : Cx} {f : Str} {e : Expr} {es : List Expr} {kws : List Keyword} {t tk : TA} {p pos : Pos} {ks : List Str} {W : WX}
end
section
variable {α β γ δ : Type} {ρ : List (Option VP)} {κ : List Ow} {Y : Wx} {t tk : TA} {R1 : α → VP} {R2 : β → VP} {Rd : δ → VP} {ma : Wm Ex α} {mb : Wm Ex β} {W : WX} {n : Nat} {spec : α × β → (δ → Prop) → (Ex → Prop) → Prop}
end
section
variable {ε δ : Type} {Z : Wsh ε} {ρ : List (Option VP)} {κ : List Ow} {K : PySem.W.Frag} {te : TE} {R : δ → VP} [hR : ∀ d, Mono (R d)]
theorem tr_nOpt {m : Wm ε Unit} (h : TrE Z ρ κ te m (fD K dU)) : TrE Z ρ κ te (fun Q X => m (fun _ => Q none) X) (fOpt R) := h.conv (fun _ => none) fun _ v _ x => by
  have x : Dt K PyData.none v _ := x
  cases x
  exact rfl
theorem tr_sOpt {m : Wm ε δ} (h : TrE Z ρ κ te m R) : TrE Z ρ κ te (fun Q X => m (fun n => Q (some n)) X) (fOpt R) := h.conv some fun _ _ _ x => x
end
section
variable {ε α : Type} {Z : Wsh ε} {ρ : List (Option VP)} {κ : List Ow} {te : TE} {X : Wx} {m : Wm ε Wv}
/-- a value of any kind that is a datum of a known form -/
theorem tr_WdD {d : α → PyData} (h : TrE Z ρ κ te m (fW X)) : TrE Z ρ κ te (fun Q E => m (fun a => ∃ x : α, a = .dat (d x) ∧ Q x) E) (fD X.K d) := h.part (fun x => Wv.dat (d x)) fun b v F x => x
end
/-! any([..]) -/
theorem r_any {t : TA} {σ : L2.St} {F : Hp} {L : Cells} {K : PySem.W.Frag} {bs : List Bool} (h : Run (t σ) F L (Each [Ls K (bs.map fun b => Dt K (.bool b))])) : Run (tCB (rAny K) t σ) F L (Dt K (.bool (bs.any id))) := r_cb h fun vs F1 e1 hv => by
  obtain ⟨v, rfl, a, ws, rfl, hs, hr⟩ := each1 hv
  rw [each_bls hr] at hs
  exact fun F2 N H e A Q q => ⟨a, bs, rfl, sqL_up (e.trans A.ex) hs, q _ F2 H (Same.refl _) A (.bl _)⟩
/-! statements that are never reached -/
def tNeverF : TS := fun _ _ _ => False
theorem pss_neverF {X : Cx} {body : List Stmt} : PSs X body tNeverF := ⟨fun _ _ _ _ _ _ h => h.elim⟩
theorem ts_neverF {ε S δ : Type} {Z : Wsh ε} {ρ : List (Option VP)} {κ : List Ow} {ρ2 : S → List (Option VP)} {κ2 : S → List Ow} {R : δ → VP} : TrS Z ρ κ tNeverF (fun (_ : S → Prop) (_ : δ → Prop) (_ : ε → Prop) => False) ρ2 κ2 R := ⟨fun _ _ _ _ _ _ _ _ q => q.elim⟩
end Tw

/-! Pe5: d.setdefault(k, e) of a dict by nested keys of one's own, within an append; keys that are triples. -/
namespace Sn
open PySem PySem.Spec PyProof.Rows L2 PySem.W
variable [Rs.Tabz]
end Sn
namespace Tw
open PySem PySem.Spec PyProof.Rows L2 SlX StX Rs Ma Sn
variable [Rs.Tabz]
instance {α β γ : Type} {d : α → PyData} {e : β → PyData} {f : γ → PyData} : TupD (dP3 d e f) := ⟨fun a => ⟨_, rfl⟩⟩
instance keydP3 {α β γ : Type} {d : α → PyData} {e : β → PyData} {f : γ → PyData} {n m l : Nat} [c : Keyd d n] [c2 : Keyd e m] [c3 : Keyd f l] : Keyd (dP3 d e f) (n + m + l + 1) := ⟨fun p => .tup [c.key p.1, c2.key p.2.1, c3.key p.2.2], fun p => by
  simp only [NestedKey.data, NestedKey.datas, c.ok, c2.ok, c3.ok]
  rfl, fun p => by simp only [calm, calmAll, c.quiet, c2.quiet, c3.quiet]; rfl, fun p => by
  have h1 := c.dep p.1
  have h2 := c2.dep p.2.1
  have h3 := c3.dep p.2.2
  simp only [NestedKey.depth, NestedKey.depthAll]
  omega, fun a b h => by
  obtain ⟨a1, a2, a3⟩ := a
  obtain ⟨b1, b2, b3⟩ := b
  injection h with h
  injection h with h1 h2
  injection h2 with h2 h3
  injection h3 with h3 _
  rw [c.inj a1 b1 h1, c2.inj a2 b2 h2, c3.inj a3 b3 h3]⟩
section
variable {ε α β δ S : Type} [DecidableEq α] {Z : Wsh ε} {ρ : List (Option VP)} {κ : List Ow} {K : PySem.W.Frag} {P : Program} {w : World} {d : α → PyData} {n : Nat} [c : Keyd d n] [t : TupD d] {R : β → VP} {Rd : δ → VP} {u : TS} {i j : Nat} {kvs : List (α × β)} {ρ2 : S → List (Option VP)} {κ2 : S → List Ow} {ta : TA} {ma : Wm ε (α × β)}
end
end Tw

/-! Nb0: an object whose only slot is a list of dicts of one's own: what is seen is numbered (Numbering). -/
namespace Tw
open PySem PySem.Spec PyProof.Rows L2 SlX StX Rs Ma Sn
variable [Rs.Tabz]
section
variable {K : PySem.W.Frag} {P : Program} {w : World} {F F' : Hp} {C a : Addr} {M : Cells}
end
/-! ### made -/
def isR (r : Addr) : VP := fun v _ => v = .ref r
instance {r : Addr} : Mono (isR r) := ⟨fun _ _ _ _ h => h⟩
end Tw

/-! Mp: equal views behind many rounds of one web. -/
namespace Wb
open Rs Ma
variable [Rs.Tabz]
end Wb

/-! Mq: the first round in which views are unlike, with rounds of one web behind. -/
namespace Wb
open Rs Ma
variable [Rs.Tabz]
end Wb

/-! Mr: equal views by rounds; what is known; other numbers, other pools. -/
namespace Wb
open Rs Ma Tw
variable [Rs.Tabz]
/-! ### what is known -/
/-! ### rounds in front -/
/-! ### other pools -/
section
variable {n : Nat} {ns : List Nat} (inj : ∀ a b, a < n → b < n → pi ns a = pi ns b → a = b) (lt : ∀ a, a < n → pi ns a < n) (sur : ∀ z, z < n → ∃ a, a < n ∧ pi ns a = z)
include inj lt sur
end
end Wb

/-! Nc0: the numbers of words: equal where views are equal. -/
namespace Sn
open PySem PySem.Spec PyProof.Rows L2 SlX StX Rs Ma Tw Wb
variable [Rs.Tabz]
abbrev Nums := List (List Nat × List Nat)
def wordsL (m : Nat) : Nat → List (List Nat)
  | 0 => [[]]
  | r + 1 => (wordsL m r).flatMap fun u => (List.range m).map fun i => u ++ [i]
theorem foldl_at {α β : Type} {f : β → α → β} {xs : List α} {s : β} {i : Nat} {x : α} (h : xs[i]? = some x) : (xs.take (i + 1)).foldl f s = f ((xs.take i).foldl f s) x := by
  obtain ⟨hi, e⟩ := List.getElem?_eq_some_iff.mp h
  rw [List.take_succ_eq_append_getElem hi, List.foldl_append, e]
  rfl
theorem foldJ {α β : Type} {f : β → α → β} {xs : List α} {s : β} (J : Nat → β → Prop) (h0 : J 0 s) (hs : ∀ i x s, xs[i]? = some x → J i s → J (i + 1) (f s x)) : J xs.length (xs.foldl f s) := by
  have : ∀ i, i ≤ xs.length → J i ((xs.take i).foldl f s) := by
    intro i
    induction i with
    | zero => intro _; rw [List.take_zero]; exact h0
    | succ i ih =>
      intro hi
      have hx : xs[i]? = some xs[i] := List.getElem?_eq_getElem hi
      rw [foldl_at hx]
      exact hs i _ _ hx (ih (by omega))
  have h := this xs.length (Nat.le_refl _)
  rwa [List.take_length] at h
theorem enumL_len {α : Type} {xs : List α} : (enumL xs).length = xs.length := by unfold enumL; rw [List.length_map, List.length_zipIdx]
theorem enumL_at {α : Type} {xs : List α} {i : Nat} {x : Nat × α} (h : (enumL xs)[i]? = some x) : x.1 = i ∧ xs[i]? = some x.2 := by
  unfold enumL at h
  rw [List.getElem?_map, List.getElem?_zipIdx] at h
  cases e : xs[i]? with
  | none => rw [e] at h; cases h
  | some y => rw [e] at h; cases h; exact ⟨by simp, rfl⟩
/-! ### words -/
theorem words_len {m : Nat} : ∀ {r : Nat} {u : List Nat}, u ∈ wordsL m r → u.length = r ∧ ∀ x ∈ u, x < m
  | 0, u, h => by
    cases List.mem_singleton.mp h
    exact ⟨rfl, fun x hx => nomatch hx⟩
  | r + 1, u, h => by
    obtain ⟨v, hv, h⟩ := List.mem_flatMap.mp h
    obtain ⟨i, hi, rfl⟩ := List.mem_map.mp h
    obtain ⟨h1, h2⟩ := words_len hv
    refine ⟨by rw [List.length_append, h1]; rfl, fun x hx => ?_⟩
    rcases List.mem_append.mp hx with hx | hx
    · exact h2 x hx
    · rw [List.mem_singleton.mp hx]; exact List.mem_range.mp hi
/-! ### tables -/
/-! ### one round more -/
structure NumOk (p : List Rows) (r : Nat) (ns : Nums) : Prop where
  keys : ns.map (·.1) = wordsL p.length r
  rows : ∀ x ∈ ns, x.2.length = psize p
  eq : ∀ x ∈ ns, ∀ y ∈ ns, ∀ h, h < psize p → (x.2.getD h 0 = y.2.getD h 0 ↔ h ∈ eqInL p x.1 y.1)
theorem NumOk.word {p : List Rows} {r : Nat} {ns : Nums} (h : NumOk p r ns) {x : List Nat × List Nat} (hx : x ∈ ns) : x.1.length = r ∧ ∀ i ∈ x.1, i < p.length := words_len (by rw [← h.keys]; exact List.mem_map.mpr ⟨x, hx, rfl⟩)
end Sn

/-! Nd0: a crowd being made: words by what is seen. -/
namespace Tw
open PySem PySem.Spec PyProof.Rows L2 SlX StX Rs Ma Sn Wb
variable [Rs.Tabz]
abbrev PNk := Nat × Nat
abbrev dPN : PNk → PyData := dP dN dN
abbrev Grp := List (PNk × List (List Nat))
def addWord (kvs : Grp) (key : PNk) (word : List Nat) : Grp := putA kvs key ((getA kvs key).getD [] ++ [word])
def groupRow (kvs : Grp) (x : List Nat × List Nat) : Grp := (enumL x.2).foldl (fun kvs key => addWord kvs key x.1) kvs
def groupL (ns : Nums) : Grp := ns.foldl groupRow []
def isRef (r : Addr) : VP := fun v _ => v = .ref r
instance {r : Addr} : Mono (isRef r) := ⟨fun _ _ _ _ h => h⟩
section
variable {K : PySem.W.Frag} {P : Program} {w : World} {F F' : Hp} {C a0 dx d a : Addr} {M : Cells} {vn : V}
end
section
variable {α δ S : Type} {ρ : List (Option VP)} {K : PySem.W.Frag} {P : Program} {w : World} {u : TS} {C a0 dx d : Addr} {vn : V} {ns : Nums} {kvs : Grp} {Rd : δ → VP} {ρ2 : S → List (Option VP)} {κ2 : S → List Ow}
end
/-! ### the whole making -/
def crowdP (C : Addr) (K : PySem.W.Frag) (P : Program) (w : World) (ns : Nums) : VP := Ob C [0, 1] [fDKZ K P w (dT dN) (fD K (dT dN)) ns, fDK K P w dPN (fLn (fD K (dT dN))) (groupL ns)]
end Tw

/-! Nd1: Crowd.__init__. -/
namespace Tw
open PySem PySem.Spec PyProof.Rows L2 SlX StX Rs Ma Sn Wb
variable [Rs.Tabz]
end Tw
namespace Wb
open PySem PySem.Spec PyProof.Rows L2 SlX StX Rs Ma Sn Tw
variable [Rs.Tabz]
section
variable {K : PySem.W.Frag} {P : Program} {w : World} {C_Crowd : Addr}
instance {a : Nums} : Mono (crowdP C_Crowd K P w a) := inferInstanceAs (Mono (Ob C_Crowd [0, 1] [fDKZ K P w (dT dN) (fD K (dT dN)) a, fDK K P w dPN (fLn (fD K (dT dN))) (groupL a)]))
end
end Wb

/-! Nd2: several names at once by way of a tuple, things of one's own among them. -/
namespace Tw
open PySem PySem.Spec PyProof.Rows L2 SlX StX Rs Ma Sn
variable [Rs.Tabz]
instance {K : PySem.W.Frag} {P : Program} {w : World} {α β : Type} [DecidableEq α] {d : α → PyData} {n : Nat} [Keyd d n] {R : β → VP} : NotFrz (fun kvs : List (α × β) => ownDP K P w d R kvs) := ⟨fun g a o F ⟨zs, h, _⟩ o' u z => by rw [h] at z; nomatch z⟩
section
variable {ε γ δ S2 : Type} {Z : Wsh ε} {ρ : List (Option VP)} {κ : List Ow} {K : PySem.W.Frag} {t : TA} {u : TS} {i j l : Nat} {mg : Wm ε γ} {Rd : δ → VP} {ρ2 : S2 → List (Option VP)} {κ2 : S2 → List Ow} {Is : γ → List ItC} {mk : γ → Ws ε S2 δ} {ρ' : γ → List (Option VP)} {κ' : γ → List Ow}
end
end Tw

/-! Ni0: x *= e. -/
namespace Tw
open PySem PySem.Spec PyProof.Rows L2 SlX StX Rs Ma Sn
variable [Rs.Tabz]
end Tw

/-! Ss0: own dicts by comprehensions of two fors; x += e. -/
namespace Tw
open PySem PySem.Spec PyProof.Rows L2 SlX StX Rs Ma Sn
variable [Rs.Tabz]
section
variable {ε α β γ δ η : Type} {Z : Wsh ε} {ρ : List (Option VP)} {κ : List Ow} {K : PySem.W.Frag} {P : Program} {w : World} {tk tv : TE} {tt tt1 : TT} {wi wi1 : L2.TI} {g g1 : TG} {n : Nat} {d : α → PyData} [DecidableEq α] {Rb : β → VP}
end
instance {α β : Type} {K : PySem.W.Frag} {c : α → PyData} {d : β → PyData} : NoNon (fD K (dP c d)) := ⟨fun a v F h e => by
  have h : Dp K F v (dP c d a) := h
  subst e
  cases h⟩
end Tw

/-! Pe6: name = {k: v for ..}, the name a local. -/
namespace Sn
open PySem PySem.Spec PyProof.Rows L2 PySem.W
section
variable {X : Cx}
end
end Sn

/-! Ss1: x = {..: .. for .. for ..}, the dict locked. -/
namespace Sn
open PySem PySem.Spec PyProof.Rows L2 SlX StX Rs Ma Tw
variable [Rs.Tabz]
section
variable {X : Cx}
end
end Sn

/-! Ss2: ranges as values; numbers that are not in them. -/
namespace Tw
open PySem PySem.Spec PyProof.Rows L2 SlX StX Rs Ma Sn
variable [Rs.Tabz]
/-- the numbers below n, as a value -/
def fRg (n : Nat) : VP := fun v F => ∃ a, v = .ref a ∧ F a = some (.rng 0 (n : Int))
instance {n : Nat} : Mono (fRg n) := ⟨fun _ _ _ e ⟨a, h1, h2⟩ => ⟨a, h1, e _ _ h2⟩⟩
end Tw

/-! Ss3: dict(list(d.items())), keys that are tuples. -/
namespace Sn
open PySem PySem.Spec PyProof.Rows L2 SlX StX Rs Ma Tw
variable [Rs.Tabz]
end Sn
namespace Tw
open PySem PySem.Spec PyProof.Rows L2 SlX StX Rs Ma Sn
variable [Rs.Tabz]
end Tw

/-! Ng0: sorted of a dict by nested keys. -/
namespace Tw
open PySem PySem.Spec PyProof.Rows L2 SlX StX Rs Ma Sn
variable [Rs.Tabz]
section
variable {X : Cx}
variable {e : Expr} {es : List Expr} {t : TA} {p pos : Pos}
end
end Tw

/-! Ng1: sorted of a list of rows of rows. -/
namespace Tw
open PySem PySem.Spec PyProof.Rows L2 SlX StX Rs Ma Sn
variable [Rs.Tabz]
section
variable {α : Type} {K : PySem.W.Frag} {d : α → PyData}
end
theorem alike_row (x y : List Nat) : PySem.W.alike (dT dN x) (dT dN y) = true := by
  show PySem.W.alike (.tuple _) (.tuple _) = true
  rw [PySem.W.alike]
  have r1 : x.map dN = (cI x).map PyData.int := row_int
  have r2 : y.map dN = (cI y).map PyData.int := row_int
  rw [r1, r2]
  exact PySem.W.alike_ints _ _
theorem alike_rows : ∀ (x y : List (List Nat)), PySem.W.alikeAll (x.map (dT dN)) (y.map (dT dN)) = true
  | [], _ => by simp [PySem.W.alikeAll]
  | _ :: _, [] => by simp [PySem.W.alikeAll]
  | x :: xs, y :: ys => by
    rw [List.map_cons, List.map_cons, PySem.W.alikeAll, alike_row, alike_rows xs ys]; rfl
/-! the order is one of data: whatever order they come in, they are sorted alike -/
end Tw

/-! Su0: min of a list of numbers, min of alike data: of a list, of two. -/
namespace Tw
open PySem PySem.Spec PyProof.Rows L2 SlX StX Rs Ma PySem.SeqAt
section
variable {prog : Program} {w : World} {A : Around} {E : Value → Shared → Prop} {s : Shared}
end
end Tw

/-! Ph2: two sets of ints that hold the same are not told apart. -/
namespace Sn
open PySem PySem.Spec PySem.Calls PyProof.Rows PySem.W L2
section
variable {P : Program} {w : World} {A : Around} {E : Value → Shared → Prop} {s : Shared} {a b : Addr} {S S' : Int → Bool} {n m : Nat}
end
end Sn

/-! Qh3: != of two sets of ints that hold the same; lists of optional numbers that are all there. -/
namespace Tw
open PySem PySem.Spec PyProof.Rows L2 SlX StX Rs Ma Sn
variable [Rs.Tabz]
section
variable {X : Cx}
end
section
variable {ε α : Type} {Z : Wsh ε} {ρ : List (Option VP)} {κ : List Ow} {K : PySem.W.Frag} {w : World} {te : TE}
end
end Tw

/-! Su1: a set of ints less another; a set of ints beside the empty set. -/
namespace Sn
open PySem PySem.Spec PySem.Calls PyProof.Rows PySem.W L2
section
variable {P : Program} {w : World} {A : Around} {E : Value → Shared → Prop} {s : Shared} {a b : Addr} {S S' : Int → Bool} {n m : Nat}
end
end Sn

/-! Su2: min of numbers and of rows; a set less another, == set(); x, d[k] = a, b. -/
namespace Tw
open PySem PySem.Spec PyProof.Rows L2 SlX StX Rs Ma Sn
/-! ### min -/
section
variable {X : Cx}
variable {e : Expr} {es : List Expr} {t : TA} {p pos : Pos} {j : Nat}
end
section
variable {ε : Type} {K : PySem.W.Frag} {w : World} [Rs.Tabz]
/-! ### sets -/
def fSet0 (w : World) : Unit → VP := fun _ v F => ∃ b, v = .ref b ∧ F b = some (SetO w b (fun _ => false) 0)
instance {w : World} {u : Unit} : Mono (fSet0 w u) := ⟨fun _ _ _ e ⟨b, h, h1⟩ => ⟨b, h, e _ _ h1⟩⟩
end
section
variable {ε α β δ S : Type} [DecidableEq α] {Z : Wsh ε} {ρ : List (Option VP)} {κ : List Ow} {K : PySem.W.Frag} {P : Program} {w : World} {d : α → PyData} {n : Nat} [c : Keyd d n] [t : TupD d] {R : β → VP} {γ : Type} {Ra : γ → VP} {kvs : List (α × β)} {i j : Nat} {ta tb tk : TE} {u : TS} {ma : Wm ε γ} {mb : Wm ε β} {mk : γ → Wm ε α} {Rd : δ → VP} {ρ2 : S → List (Option VP)} {κ2 : S → List Ow}
end
end Tw

/-! Su3: dict(xs) of pairs whose keys are tuples; set(). -/
namespace Sn
open PySem PySem.Spec PyProof.Rows L2 SlX StX Rs Ma Tw
variable [Rs.Tabz]
section
variable {X : Cx}
variable {e : Expr} {es : List Expr} {t : TA} {p pos : Pos} {j : Nat}
end
end Sn
namespace Tw
open PySem PySem.Spec PyProof.Rows L2 SlX StX Rs Ma Sn
variable [Rs.Tabz]
section
variable {ε α β : Type} [DecidableEq α] {Z : Wsh ε} {ρ : List (Option VP)} {κ : List Ow} {K : PySem.W.Frag} {P : Program} {w : World} {te : TE} {d : α → PyData} {n : Nat} [c : Keyd d n] [t : TupD d] {R : β → VP}
end
end Tw

/-! Su4: any statement ahead of a break. -/
namespace Tw
open PySem PySem.Spec PyProof.Rows L2 SlX StX Rs Ma Sn
variable [Rs.Tabz]
section
variable {ε δ S S1 : Type} {Z : Wsh ε} {ρ : List (Option VP)} {κ : List Ow} {t u : TS} {Rd : δ → VP} {ρ2 : S → List (Option VP)} {κ2 : S → List Ow} {ρ1 : S1 → List (Option VP)} {κ1 : S1 → List Ow}
end
end Tw

/-! Sv0: xs.remove(x); sorted of lists of numbers; four names at once. -/
namespace Tw
open PySem PySem.Spec PyProof.Rows L2 SlX StX Rs Ma Sn
variable [Rs.Tabz]
section
variable {ε δ S2 : Type} {Z : Wsh ε} {ρ : List (Option VP)} {κ : List Ow} {K : PySem.W.Frag} {te : TE} {u : TS} {i : Nat} {Rd : δ → VP} {ρ2 : S2 → List (Option VP)} {κ2 : S2 → List Ow}
end
section
variable {ε γ δ S2 : Type} {Z : Wsh ε} {ρ : List (Option VP)} {κ : List Ow} {K : PySem.W.Frag} {t : TA} {u : TS} {i j l l2 : Nat} {mg : Wm ε γ} {Rd : δ → VP} {ρ2 : S2 → List (Option VP)} {κ2 : S2 → List Ow} {Is : γ → List ItC} {mk : γ → Ws ε S2 δ} {ρ' : γ → List (Option VP)} {κ' : γ → List Ow}
end
/-! ### sorted of lists of numbers -/
end Tw

/-! Sv1: list(d) of a dict whose keys are tuples; list(xs) of data. -/
namespace Sn
open PySem PySem.Spec PyProof.Rows L2 SlX StX Rs Ma Tw
variable [Rs.Tabz]
section
variable {X : Cx}
variable {e : Expr} {es : List Expr} {t : TA} {p pos : Pos} {j : Nat}
end
end Sn
namespace Tw
open PySem PySem.Spec PyProof.Rows L2 SlX StX Rs Ma Sn
variable [Rs.Tabz]
section
variable {ε α β : Type} [DecidableEq α] {Z : Wsh ε} {ρ : List (Option VP)} {κ : List Ow} {K : PySem.W.Frag} {P : Program} {w : World} {te : TE} {d : α → PyData} {n : Nat} [c : Keyd d n] {R : β → VP}
end
section
variable {ε α : Type} {Z : Wsh ε} {ρ : List (Option VP)} {κ : List Ow} {K : PySem.W.Frag} {te : TE} {d : α → PyData} {ml : Wm ε (List α)}
end
end Tw

/-! Sv2: lists read out of a dict of one's own; new lists made while things of one's own are looked at. -/
namespace Tw
open PySem PySem.Spec PyProof.Rows L2 SlX StX Rs Ma Sn
variable [Rs.Tabz]
section
variable {K : PySem.W.Frag} {F : Hp} {a : Addr} {o : HO}
theorem sqL_cutN (h1 : F a = some o) (h2 : ∀ xs, o ≠ .lst xs) (h3 : ∀ o' u, o ≠ .frz o' u) {b : Addr} {xs : List V} (h : SqL K F b xs) : SqL K (cutF F a) b xs := by
  rcases h with (h | ⟨u, h⟩) | h
  · refine .inl (.inl ?_)
    have : b ≠ a := fun z => by
      rw [z, h1] at h
      exact h2 _ (Option.some.inj h)
    show (if b = a then none else F b) = _
    rw [if_neg this, h]
  · refine .inl (.inr ⟨u, ?_⟩)
    have : b ≠ a := fun z => by
      rw [z, h1] at h
      exact h3 _ _ (Option.some.inj h)
    show (if b = a then none else F b) = _
    rw [if_neg this, h]
  · exact .inr h
mutual
theorem dp_cutN (h1 : F a = some o) (h2 : ∀ xs, o ≠ .tup xs) (hl : ∀ xs, o ≠ .lst xs) (h3 : ∀ o' u, o ≠ .frz o' u) : ∀ (d : PyData) (v : V), Dp K F v d → Dp K (cutF F a) v d
  | .none, _, h => by cases h; exact .non
  | .bool b, _, h => by cases h; exact .bl b
  | .int i, _, h => by cases h; exact .int i
  | .str x, _, h => by cases h; exact .str x
  | .list ds, _, h => by
    cases h with
    | lst hs ha => exact .lst (sqL_cutN h1 hl h3 hs) (dps_cutN h1 h2 hl h3 ds _ ha)
  | .dict _, _, h => by cases h
  | .tuple ds, _, h => by
    cases h with
    | tup hs ha => exact .tup (sqT_cut h1 h2 h3 hs) (dps_cutN h1 h2 hl h3 ds _ ha)
theorem dps_cutN (h1 : F a = some o) (h2 : ∀ xs, o ≠ .tup xs) (hl : ∀ xs, o ≠ .lst xs) (h3 : ∀ o' u, o ≠ .frz o' u) : ∀ (ds : List PyData) (vs : List V), DpAll K F vs ds → DpAll K (cutF F a) vs ds
  | [], _, h => by cases h; exact .nil
  | d :: ds, _, h => by
    cases h with
    | cons x1 x2 => exact .cons (dp_cutN h1 h2 hl h3 d _ x1) (dps_cutN h1 h2 hl h3 ds _ x2)
end
end
/-- what is told of such values does not lean on dicts -/
class CutN {δ : Type} (R : δ → VP) : Prop where
  cut : ∀ d v F a o, F a = some o → (∀ xs, o ≠ .tup xs) → (∀ xs, o ≠ .lst xs) → (∀ o' u, o ≠ .frz o' u) → R d v F → R d v (cutF F a)
instance {K : PySem.W.Frag} {α : Type} {d : α → PyData} : CutN (fD K d) := ⟨fun x v F a o h1 h2 hl h3 r => dp_cutN h1 h2 hl h3 (d x) v r⟩
theorem each_cutN {α : Type} {R : α → VP} [CutN R] {F : Hp} {a : Addr} {o : HO} (h1 : F a = some o) (h2 : ∀ xs, o ≠ .tup xs) (hl : ∀ xs, o ≠ .lst xs) (h3 : ∀ o' u, o ≠ .frz o' u) : ∀ {xs : List α} {vs : List V}, Each (xs.map R) vs F → Each (xs.map R) vs (cutF F a)
  | [], [], h => h
  | x :: xs, v :: vs, h => ⟨CutN.cut x v F a o h1 h2 hl h3 h.1, each_cutN h1 h2 hl h3 h.2⟩
  | [], _ :: _, h => h.elim
  | _ :: _, [], h => h.elim
instance {α : Type} {R : α → VP} [CutN R] : CutN (fLn R) := ⟨fun xs v F a o h1 h2 hl h3 ⟨b, vs, e, hb, r⟩ => by
  have : b ≠ a := fun z => by
    rw [z, h1] at hb
    exact hl _ (Option.some.inj hb)
  exact ⟨b, vs, e, by show (if b = a then none else F b) = _; rw [if_neg this, hb], each_cutN h1 h2 hl h3 r⟩⟩
class NotLst {γ : Type} (ow : γ → Addr → HO → Hp → Prop) : Prop where
  no : ∀ g a o F, ow g a o F → ∀ xs, o ≠ .lst xs
instance {α β : Type} [DecidableEq α] {d : α → PyData} [NumK d] {R : β → VP} : NotLst (ownDI d R) := ⟨fun g a o F ⟨zs, h, _⟩ u z => by rw [h] at z; cases z⟩
instance {K : PySem.W.Frag} {P : Program} {w : World} {α β : Type} [DecidableEq α] {d : α → PyData} {n : Nat} [Keyd d n] {R : β → VP} : NotLst (fun kvs : List (α × β) => ownDP K P w d R kvs) := ⟨fun g a o F ⟨zs, h, _⟩ u z => by rw [h] at z; nomatch z⟩
section
variable {ε β γ δ : Type} {Z : Wsh ε} {ρ : List (Option VP)} {κ : List Ow} {te : TE} {i : Nat} {Rd : δ → VP} {R2 : β → VP} {ow : γ → Addr → HO → Hp → Prop} {fam : γ → VP} {g : γ}
end
end Tw

/-! Nf0: words by what is seen; ways through words that share a view. -/
namespace Sn
open PySem PySem.Spec PyProof.Rows L2 SlX StX Rs Ma Tw Wb
variable [Rs.Tabz]
theorem getA_put {α β : Type} [DecidableEq α] {a c : α} {b : β} : ∀ {ps : List (α × β)}, getA (putA ps a b) c = if c = a then some b else getA ps c
  | [] => by
    show (if a = c then some b else none) = _
    by_cases h : c = a
    · rw [if_pos h, if_pos h.symm]
    · rw [if_neg h, if_neg fun z => h z.symm]; rfl
  | p :: ps => by
    unfold putA
    by_cases h1 : p.1 = a
    · rw [if_pos h1]
      show (if p.1 = c then some b else getA ps c) = if c = a then some b else (if p.1 = c then some p.2 else getA ps c)
      by_cases h : c = a
      · rw [if_pos h, if_pos (by rw [h1, h])]
      · rw [if_neg h, if_neg fun z => h (by rw [← z, h1]), if_neg fun z => h (by rw [← z, h1])]
    · rw [if_neg h1]
      show (if p.1 = c then some p.2 else getA (putA ps a b) c) = if c = a then some b else (if p.1 = c then some p.2 else getA ps c)
      by_cases h2 : p.1 = c
      · rw [if_pos h2, if_pos h2, if_neg fun z => h1 (by rw [h2, z])]
      · rw [if_neg h2, if_neg h2, getA_put]
/-! ### groups -/
def grp (ns : Nums) (k : PNk) : List (List Nat) := (getA (groupL ns) k).getD []
theorem add_get {kvs : Grp} {k k' : PNk} {u : List Nat} : (getA (addWord kvs k u) k').getD [] = if k' = k then (getA kvs k).getD [] ++ [u] else (getA kvs k').getD [] := by
  unfold addWord
  rw [getA_put]
  split <;> rfl
theorem row_get {x : List Nat × List Nat} {kvs : Grp} {k : PNk} : (getA (groupRow kvs x) k).getD [] = (getA kvs k).getD [] ++ (if x.2[k.1]? = some k.2 then [x.1] else []) := by
  have main := foldJ (f := fun kvs key => addWord kvs key x.1) (xs := enumL x.2) (s := kvs) (fun i s => (getA s k).getD [] = (getA kvs k).getD [] ++ (if k.1 < i ∧ x.2[k.1]? = some k.2 then [x.1] else [])) (by simp) fun i y s hy h => by
    obtain ⟨e1, e2⟩ := enumL_at hy
    rw [add_get]
    by_cases e : k = y
    · subst e
      have e1 : k.1 = i := e1
      rw [if_pos rfl, h, if_neg (by omega), List.append_nil, if_pos ⟨by omega, by rw [e1]; exact e2⟩]
    · rw [if_neg e, h]
      have : (k.1 < i ∧ x.2[k.1]? = some k.2) ↔ (k.1 < i + 1 ∧ x.2[k.1]? = some k.2) := by
        refine ⟨fun ⟨a, b⟩ => ⟨by omega, b⟩, fun ⟨a, b⟩ => ⟨?_, b⟩⟩
        rcases Nat.lt_or_ge k.1 i with q | q
        · exact q
        · exfalso
          have ek : k.1 = i := by omega
          rw [ek, e2] at b
          exact e (Prod.ext (by rw [ek, e1]) (Option.some.inj b).symm)
      by_cases c : k.1 < i ∧ x.2[k.1]? = some k.2
      · rw [if_pos c, if_pos (this.mp c)]
      · rw [if_neg c, if_neg fun z => c (this.mpr z)]
  rw [enumL_len] at main
  show (getA ((enumL x.2).foldl (fun kvs key => addWord kvs key x.1) kvs) k).getD [] = _
  rw [main]
  by_cases c : x.2[k.1]? = some k.2
  · rw [if_pos ⟨(List.getElem?_eq_some_iff.mp c).1, c⟩, if_pos c]
  · rw [if_neg fun z => c z.2, if_neg c]
/-! ### ways -/
def AdjN (ns : Nums) (u v : List Nat) : Prop := ∃ x ∈ ns, ∃ y ∈ ns, x.1 = u ∧ y.1 = v ∧ ∃ h, h < x.2.length ∧ h < y.2.length ∧ x.2.getD h 0 = y.2.getD h 0
inductive ChainN (ns : Nums) (u : List Nat) : List Nat → List (List Nat) → Prop
  | one : ChainN ns u u [u]
  | snoc {v w : List Nat} {c : List (List Nat)} (h : ChainN ns u v c) (a : AdjN ns v w) : ChainN ns u w (c ++ [w])
abbrev Ways := List (List Nat × List (List Nat))
abbrev Met := List (PNk × Bool)
structure WOk (ns : Nums) (u : List Nat) (W : Ways) : Prop where
  nd : (W.map (·.1)).Nodup
  st : u ∈ W.map (·.1)
  ch : ∀ e ∈ W, ChainN ns u e.1 e.2 ∧ e.2.length ≤ W.length
  wd : ∀ v ∈ W.map (·.1), v ∈ ns.map (·.1)
/-! ### a round of the search -/
def AllMet (ns : Nums) (met : Met) (v : List Nat) : Prop := ∀ x ∈ ns, x.1 = v → ∀ h, h < x.2.length → (h, x.2.getD h 0) ∈ met.map (·.1)
structure TI (ns : Nums) (u : List Nat) (W0 : Ways) (cnt : Nat) (todo : List (List Nat)) (s : Ways × Met × List (List Nat)) : Prop where
  ok : WOk ns u s.1
  sub : ∀ v ∈ W0.map (·.1), v ∈ s.1.map (·.1)
  lat : ∀ v ∈ s.2.2, v ∈ s.1.map (·.1)
  len : s.1.length = W0.length + s.2.2.length
  met : ∀ k ∈ s.2.1.map (·.1), ∀ v ∈ grp ns k, v ∈ s.1.map (·.1)
  cnt : s.2.1.length ≤ cnt
  done : ∀ v ∈ s.1.map (·.1), v ∈ s.2.2 ∨ v ∈ todo ∨ AllMet ns s.2.1 v
end Sn

/-! Nf1: the search for ways, whole. -/
namespace Sn
open PySem PySem.Spec PyProof.Rows L2 SlX StX Rs Ma Tw Wb
variable [Rs.Tabz]
end Sn

/-! Nh0: lots: words that lead to each other through words that share a view. -/
namespace Sn
open PySem PySem.Spec PyProof.Rows L2 SlX StX Rs Ma Tw Wb
variable [Rs.Tabz]
open Classical in
/-! ### all lots -/
end Sn

/-! Nj0: sorted of tuples of rows (of rows); d.get(k, None). -/
namespace Tw
open PySem PySem.Spec PyProof.Rows L2 SlX StX Rs Ma Sn
variable [Rs.Tabz]
section
variable {α : Type} {K : PySem.W.Frag} {d : α → PyData}
end
/-! d.get(k, None) -/
section
variable {ε α β : Type} [DecidableEq α] {Z : Wsh ε} {ρ : List (Option VP)} {κ : List Ow} {K : PySem.W.Frag} {P : Program} {w : World} {d : α → PyData} {n : Nat} [c : Keyd d n] [t : TupD d] {R : β → VP} {td te : TE}
/-- what is there, as a value -/
theorem tr_unopt {δ : Type} {R : δ → VP} [hR : ∀ d, Mono (R d)] {m : Wm ε (Option δ)} (h : TrE Z ρ κ te m (fOpt R)) : TrE Z ρ κ te (fun Q X => m (fun o => ∃ a, o = some a ∧ Q a) X) R :=
  ⟨inferInstance, fun σ F L s c Q X q => (h.run σ F L s c _ X q).weak fun v F2 e ⟨o, ⟨a, e1, q1⟩, r1⟩ => by subst e1; exact ⟨a, q1, r1⟩⟩
end
end Tw

/-! Sw0: sorted of lists as new lists (items of any kind that are data), of lists of one's own too. -/
namespace Tw
open PySem PySem.Spec PyProof.Rows L2 SlX StX Rs Ma Sn
variable [Rs.Tabz]
section
variable {ε α : Type} {K : PySem.W.Frag} {R : α → VP} {d : α → PyData}
end
section
variable {ε α : Type} {Z : Wsh ε} {ρ : List (Option VP)} {κ : List Ow} {K : PySem.W.Frag} {i : Nat} {xs : List (List Nat)} {ns : List Nat}
end
end Tw

/-! Sw1: new lists ahead of several things of one's own; keys in dicts within comprehensions. -/
namespace Tw
open PySem PySem.Spec PyProof.Rows L2 SlX StX Rs Ma Sn
variable [Rs.Tabz]
section
variable {ε α : Type} {Z : Wsh ε} {ρ : List (Option VP)} {κ κ' : List Ow} {te : TE} {ml : Wm ε (List α)} {R : α → VP}
end
end Tw
namespace Sn
open PySem PySem.Spec PyProof.Rows L2 SlX StX Rs Ma
variable [Rs.Tabz]
end Sn

/-! Sx0: a method that returns what another method of the same object answers, which changes it too; bool of a truth. -/
namespace Tw
open PySem PySem.Spec PyProof.Rows L2 SlX StX Rs Ma Sn
variable [Rs.Tabz]
section
variable {ε α S S1 : Type} {Z : Wsh ε} {ρ : List (Option VP)} {κ : List Ow} {te : TE} {i : Nat} {C : Addr} {ds : Fds} {R : α → VP} {ρ2 : S → List (Option VP)} {κ2 : S → List Ow}
end
section
variable {X : Cx} {e : Expr} {es : List Expr} {t : TA} {p pos : Pos}
end
end Tw

/-! Sx1: defs that change an object and a cell (a dict) that are handed to them, or such a cell alone. -/
namespace Tw
open PySem PySem.Spec PyProof.Rows L2 SlX StX Rs Ma Sn LmR
variable [Rs.Tabz]
instance {α : Type} {R : α → VP} : NoNon (fLn R) := ⟨fun a v F ⟨p, vs, e, _⟩ z => by subst e; cases z⟩
/-- it is just this address -/
def aR (a : Addr) : Unit → VP := fun _ v _ => v = .ref a
instance {a : Addr} {x : Unit} : Mono (aR a x) := ⟨fun _ _ _ _ h => h⟩
/-- a cell of one's own, at an address that is told -/
def pinD {T : Type} (B : Addr → Hp → Prop) (O : T → Addr → HO → Hp → Prop) : T → Addr → HO → Hp → Prop := fun t a o F => B a F ∧ O t a o F
class OkO {T : Type} (O : T → Addr → HO → Hp → Prop) : Prop where
  ok : ∀ t a o F, O t a o F → OkC o
instance {T : Type} {B : Addr → Hp → Prop} {O : T → Addr → HO → Hp → Prop} [c : OkO O] : OkO (pinD B O) := ⟨fun t a o F h => c.ok t a o F h.2⟩
instance {K : PySem.W.Frag} {P : Program} {w : World} {α β : Type} [DecidableEq α] {d : α → PyData} {n : Nat} [Keyd d n] {R : β → VP} : OkO (fun kvs : List (α × β) => ownDP K P w d R kvs) := ⟨fun t a o F ⟨zs, h, _⟩ => by
  subst h
  exact ⟨dictN_notTup, dictN_notTbl, dictN_ne, fun o' u z => nomatch z⟩⟩
instance {T : Type} {B : Addr → Hp → Prop} {O : T → Addr → HO → Hp → Prop} {fam : T → VP} [b : Bor O fam] : Bor (pinD B O) fam := ⟨b.mono, fun g a o F h q => b.bor g a o F h fun F' e => (q F' e).2⟩
instance {T : Type} {B : Addr → Hp → Prop} {O : T → Addr → HO → Hp → Prop} [c : NotFrz O] : NotFrz (pinD B O) := ⟨fun g a o F h => c.no g a o F h.2⟩
section
variable {ε α β γ δ S S2 T : Type} {Z : Wsh ε} {ρ : List (Option VP)} {κ κr : List Ow} {K : PySem.W.Frag} {te : TE} {t : TA} {u : TS} {i j : Nat} {C : Addr} {ds : Fds} {B Bo : Addr → Hp → Prop} {R : α → VP} {Rb : β → VP} {D : S → Fds} {O mk : T → Addr → HO → Hp → Prop} {κs : S → List Ow} {mg : Wm ε γ} {ρ2 : S2 → List (Option VP)} {κ2 : S2 → List Ow}
end
/-! ### heads -/
section
variable {P : Program} {w : World} {K : PySem.W.Frag} {mg : Str → Option Value} {base : Heap} {γ δ S T : Type} {C : Addr} {D : S → Fds} {O : T → Addr → HO → Hp → Prop}
end
end Tw

/-! Sx2: classes whose constructor may raise; errors of calls that would change an object, told by words; what changes an object, put behind a list. -/
namespace Tw
open PySem PySem.Spec PyProof.Rows L2 SlX StX Rs Ma Sn LmR
variable [Rs.Tabz]
structure MkFX (P : Program) (w : World) (K : PySem.W.Frag) (mg : Str → Option Value) (base : Heap) (k : Nat) (x : Str) (C : Addr) (sp : Sp) : Prop where
  ex : ∃ f fd ps, Mk K C f ∧ FnOk P w K mg base (L2.CX P w) k f fd ps sp ∧ mg x = some (.ref C) ∧ Binds K fd ps []
section
variable {X : Cx} {e : Expr} {es : List Expr} {t : TA} {p pos : Pos} {x : Str} {E : XK}
theorem p_mkX {k j : Nat} {C : Addr} {sp : Sp} (tk : Takes X (fun cls d _ H => E cls d H)) (c : MkFX X.prog X.w X.K X.mg X.base k x C sp) (hr : Room j X.A) (hk : k + 1 ≤ j) (ha : PA X (e :: es) t) (hg : Gl X x := by rfl)
    (hdb : (x == ("__debug__" : Str)) = false := by decide) (he : starEach (e :: es) X.env = (false, eval e X.env) :: starEach es X.env := by rfl) (hpl : (backTo pos (starEach es X.env)).any (·.1) = false := by rfl) :
    PE X (.Call (.Name x p) (e :: es) [] pos) (tMake C sp [] E t) := by
  obtain ⟨f, fd, ps, M, F, hm, b⟩ := c.ex
  exact pe_make M F (hr.mono hk) hg hm b .nil (passes_call tk fun _ _ _ _ h => h) ha hdb he hpl
end
section
variable {ε α β γ δ S S1 S2 : Type} {Z : Wsh ε} {ρ : List (Option VP)} {κ : List Ow} {K : PySem.W.Frag} {te : TE} {t : TA} {u : TS} {i j n : Nat} {C : Addr} {ds : Fds} {R : α → VP} {Rb : β → VP} {Rs : γ → List VP} {Y : Wx} {κs : S → List Ow} {ρ2 : S2 → List (Option VP)} {κ2 : S2 → List Ow}
end
section
variable {P : Program} {w : World} {K : PySem.W.Frag} {mg : Str → Option Value} {base : Heap} {γ S0 S1 : Type} {C : Addr} {D0 : S0 → Fds} {D1 : S1 → Fds} {Y : Wx}
/-- a constructor that may raise, else falls off its end -/
theorem gw_metOXN {x qual : Str} {stt : Stmt} {f : Addr} {fd : FuncData} {N ps : List Str} {k : Nat} {Rs : γ → List VP} {spec : S0 → γ → (S1 × Unit → Prop) → (Ex → Prop) → Prop} (F : Fun K x qual stt f fd) (Sc : FnScope N ps (defScope stt)) (len : ∀ g, (Rs g).length + 1 = ps.length) (hN : Nat.ble ps.length N.length = true) (hm : ∀ g, MonoAll (Rs g))
    (body : ∀ (cdv : Value) (A : Around) (outer : List Env) (s : Shared) (H : Hp) (E : XK) (s0 : S0) (g : γ) (a0 : Addr) (F0 : Hp), Room k (A.deeper (envOfC qual (defScope stt) s.heap.objs.size f cdv)) →
      Takes (cxOf (L2.CX P w) P w K mg base N qual (defScope stt) f cdv A outer s H E) (fun cls d _ H => E cls d H) → PassesOwn (model P w) (A.deeper (envOfC qual (defScope stt) s.heap.objs.size f cdv)) (envOfC qual (defScope stt) s.heap.objs.size f cdv) (cxOf (L2.CX P w) P w K mg base N qual (defScope stt) f cdv A outer s H E).xe →
      ∃ t, PSs (cxOf (L2.CX P w) P w K mg base N qual (defScope stt) f cdv A outer s H E) (defBody stt) t ∧ ∃ m : Ws Ex S1 Unit, TrS (Zs Y (fun cls d _ H => E cls d H) N.length [.many 0 (objB (atB a0 F0) C (D0 s0))]) (none :: ofArgs (Rs g) (N.length - 1)) [.many 0 (objB (atB a0 F0) C (D0 s0))] t m (fun _ => List.replicate N.length none) (fun s' => [.many 0 (objB (atB a0 F0) C (D1 s'))]) (fD K dU) ∧
        ∀ Q PX, (∃ vs F, Each (Rs g) vs F) → spec s0 g Q PX → m (fun s' => Q (s', ())) (fun _ => False) PX) :
    FnOk P w K mg base (L2.CX P w) (k + 1) f fd ps (SpMY Y C D0 D1 Rs spec (fD K dU)) := by
  obtain ⟨oc, od, kV, doc, pm, an, cdv, ct, osl, rfl, lk, hcd⟩ := F.ex
  refine fn_of lk hcd Sc (fun vs H Q E ⟨s, g, F0, N0, a, M, ws, P0, PX, hvs, A, ho, hv, hs, q⟩ => by subst hvs; rw [List.length_cons, each_length hv]; exact len g) fun A outer s H vs Q E hr ⟨s0, g, F0, N0, a, M, ws, P0, PX, hvs, A0, ho, hv, hs, q, qx⟩ => ?_
  subst hvs
  obtain ⟨t, h1, m, h2, h3⟩ := body cdv A outer s H E s0 g a F0 hr (takes_of rfl rfl rfl rfl) (passes_of rfl)
  refine ⟨t, h1, ?_⟩
  have hl : ws.length + 1 ≤ N.length := by
    have := len g
    have := Nat.le_of_ble_eq_true hN
    rw [each_length hv]; omega
  have hlen0 : 0 < N.length := by omega
  refine h2.run (start N (.ref a :: ws)) F0 M (satV_self (hm g) hv hl) ⟨a, M, [], (List.append_nil M).symm, rfl, fun F' e' => ⟨⟨rfl, e'⟩, objO_up e' ho⟩, True.intro⟩ (fun s' => P0 (s', ())) (fun _ => False) PX (h3 P0 PX ⟨ws, F0, hv⟩ hs) F0 N0 H (Same.refl _) A0 (fun x cls d σ F1 L1 H1 e1 A1 ⟨hl, L0, M0, hp, c0⟩ p he => ?_) _ (fun σ' F' L' H' e' A' ⟨s', n, _, sc⟩ => ?_) fun v F' H' e' A' ⟨d, pd, _⟩ => pd.elim
  · obtain ⟨a', M', L'', hL', g1', g2', g3'⟩ := c0
    subst hL'
    have ea' := (g2' F1 (Same.refl _)).1.1
    have ho' := (g2' F1 (Same.refl _)).2
    rw [ea'] at ho'
    have hp2 : L1.Perm ((L'' ++ M0) ++ M') := hp.trans (by rw [List.append_assoc]; exact List.perm_append_comm)
    have A5 := A1.perm (List.Perm.append_right N0 hp2)
    rw [List.append_assoc] at A5
    exact qx x cls d F1 M' H1 e1 A5.drop ho' p he
  · obtain ⟨a', M', L2, hL, h4, h5, _⟩ := sc
    subst hL
    obtain ⟨⟨ha, hF⟩, ho'⟩ := h5 F' (Same.refl _)
    subst ha
    rw [List.append_assoc] at A'
    have A1 := A'.perm (List.perm_append_comm.trans (by rw [List.append_assoc]))
    exact q s' () .non F' M' H' e' ((A1.drop (L := L2)).perm List.perm_append_comm) ho' n .non
end
end Tw

/-! Sx3: a list of one's own whose items change something. -/
namespace Tw
open PySem PySem.Spec PyProof.Rows L2 SlX StX Rs Ma Sn LmR
variable [Rs.Tabz]
section
variable {ε α β γ δ S S1 S2 : Type} {Z : Wsh ε} {ρ : List (Option VP)} {κ : List Ow} {K : PySem.W.Frag} {te : TE} {t : TA} {u : TS} {R : α → VP} {Rd : δ → VP} {κs : S → List Ow} {ρ2 : S2 → List (Option VP)} {κ2 : S2 → List Ow}
end
section
variable {ε β S : Type} {Z : Wsh ε} {ρ : List (Option VP)} {Rb : β → VP} {Y : Wx} {i n : Nat} {C : Addr} {ds : Fds}
end
end Tw

/-! Sx4: an expression with two meanings; constructors that raise. -/
namespace Tw
open PySem PySem.Spec PyProof.Rows L2 SlX StX Rs Ma Sn LmR
variable [Rs.Tabz]
def tOrE (a b : TE) : TE := fun σ H Q => a σ H Q ∨ b σ H Q
theorem p_orE {X : Cx} {e : Expr} {a b : TE} (h1 : PE X e a) (h2 : PE X e b) : PE X e (tOrE a b) := ⟨fun pins s σ H Q I hw => hw.elim (h1.run pins s σ H Q I) (h2.run pins s σ H Q I)⟩
section
variable {ε α β γ δ S S1 S2 : Type} {Z : Wsh ε} {ρ : List (Option VP)} {κ : List Ow} {K : PySem.W.Frag} {te te2 : TE} {t : TA} {u : TS} {R : α → VP} {C : Addr} {Y : Wx} {n : Nat} {Rs : γ → List VP}
theorem tr_orE {m1 m2 : Wm ε α} (h1 : TrE Z ρ κ te m1 R) (h2 : TrE Z ρ κ te2 m2 R) : TrE Z ρ κ (tOrE te te2) (fun Q X => m1 Q X ∨ m2 Q X) R :=
  ⟨h1.mono, fun σ F L sv sc Q X q => by
    rcases q with q | q
    · exact fun F1 N H e A w Qk qk => .inl (h1.run σ F L sv sc Q X q F1 N H e A w Qk qk)
    · exact fun F1 N H e A w Qk qk => .inr (h2.run σ F L sv sc Q X q F1 N H e A w Qk qk)⟩
end
end Tw

/-! Sx5: tuples of values of many kinds, told item by item (Wv.tp). -/
namespace Tw
open PySem PySem.Spec PyProof.Rows L2 SlX StX Rs Ma Sn LmR
variable [Rs.Tabz]
/-- the items of a tuple that is told -/
def Wv.items : Wv → Option (List Wv)
  | .dat (.tuple ds) => some (ds.map .dat)
  | .tp ws => some ws
  | _ => none
section
variable {ε α β γ δ S : Type} {Z : Wsh ε} {ρ : List (Option VP)} {κ : List Ow} {X : Wx} {te : TE}
/-- a value as a tuple of values -/
theorem tr_Wt2 {m : Wm ε Wv} (h : TrE Z ρ κ te m (fW X)) : TrE Z ρ κ te (fun Q E => m (fun a => ∃ ws, a.items = some ws ∧ Q ws) E) (fTp X.K (fW X)) :=
  ⟨inferInstance, fun σ F L s c Q E q => (h.run σ F L s c _ E q).weak fun v F2 e ⟨a, ⟨ws, ea, q1⟩, r1⟩ => by
    refine ⟨ws, q1, ?_⟩
    cases a with
    | dat d =>
      cases d with
      | tuple ds =>
        have ea : some (ds.map Wv.dat) = some ws := ea
        injection ea with ea
        subst ea
        show Tp X.K ((ds.map Wv.dat).map (fW X)) v F2
        rw [List.map_map]
        exact tp_dt.mpr r1
      | _ => cases ea
    | tp us =>
      have ea : some us = some ws := ea
      injection ea with ea
      subst ea
      obtain ⟨a, vs, e, h1, h2⟩ := r1
      exact ⟨a, vs, e, h1, fWs_each.mp h2⟩
    | _ => cases ea⟩
end
end Tw

/-! Sx6: sets of whole numbers that may be below 0, sorted. -/
namespace Tw
open PySem PySem.Spec PyProof.Rows L2 SlX StX Rs Ma Sn LmR
variable [Rs.Tabz]
def fSetI (w : World) : List Int → VP := fun xs => Rs.St w xs
instance {w : World} {xs : List Int} : Mono (fSetI w xs) := inferInstanceAs (Mono (Rs.St w xs))
section
variable {ε : Type} {K : PySem.W.Frag} {w : World}
theorem c_absI : Cb ε rAbs (fun i => [fD K dInt i]) (fun i => pur (if i < 0 then -i else i)) (fD K dInt) := .of fun i vs F L hv Q X q => by
  obtain ⟨v, rfl, h1⟩ := each1 hv
  cases h1
  exact ⟨_, q, run_ex i (run_and (fun _ _ _ _ _ => rfl) (run_ret fun F3 e3 => .int _))⟩
end
end Tw

/-! Sx7: l.count(x), the items data. -/
namespace Tw
open PySem PySem.Spec PyProof.Rows L2 SlX StX Rs Ma Sn LmR
section
variable {X : Cx}
end
variable [Rs.Tabz]
section
variable {ε α : Type} {Z : Wsh ε} {ρ : List (Option VP)} {κ : List Ow} {K : PySem.W.Frag} {te tx : TE}
end
end Tw

/-! Sx8: a tuple of any things, so many times. -/
namespace Tw
open PySem PySem.Spec PyProof.Rows L2 SlX StX Rs Ma Sn LmR
variable [Rs.Tabz]
section
variable {ε α : Type} {K : PySem.W.Frag} {R : α → VP}
end
end Tw

/-! Sx9: a constructor that raises, within try. -/
namespace Tw
open PySem PySem.Spec PyProof.Rows L2 SlX StX Rs Ma Sn LmR
variable [Rs.Tabz]
/-- an end by an exception, whatever the names hold then -/
def anyX (W : WX) (n : Nat) : XK := fun cls d H => ∀ σ : L2.St, σ.length = n → W cls d σ H
theorem takes_any {X : Cx} {W : WX} (t : Takes X W) : Takes X (fun cls d _ H => anyX W X.N.length cls d H) := fun u s' ⟨a, B, sI, pins, σ, H, cls, d, e, I, nb, up, sky, na, os, ag, w⟩ => t u s' ⟨a, B, sI, pins, σ, H, cls, d, e, I, nb, up, sky, na, os, ag, w σ I.len⟩
section
variable {X : Cx} {e : Expr} {es : List Expr} {t : TA} {p pos : Pos} {x : Str} {W : WX}
theorem p_mkXt {k j : Nat} {C : Addr} {sp : Sp} (tk : Takes X W) (c : MkFX X.prog X.w X.K X.mg X.base k x C sp) (hr : Room j X.A) (hk : k + 1 ≤ j) (ha : PA X (e :: es) t) (hg : Gl X x := by rfl)
    (hdb : (x == ("__debug__" : Str)) = false := by decide) (he : starEach (e :: es) X.env = (false, eval e X.env) :: starEach es X.env := by rfl) (hpl : (backTo pos (starEach es X.env)).any (·.1) = false := by rfl) {n : Nat} (hn : X.N.length = n := by rfl) :
    PE X (.Call (.Name x p) (e :: es) [] pos) (tMake C sp [] (anyX W n) t) := by
  subst hn
  exact p_mkX (takes_any tk) c hr hk ha hg hdb he hpl
end
section
variable {α γ S1 : Type} {ρ : List (Option VP)} {κ : List Ow} {K : PySem.W.Frag} {t : TA} {R : α → VP} {C : Addr} {Y : Wx} {n : Nat} {Rs : γ → List VP} {W : WX}
theorem tr_mkBt {D1 : S1 → Fds} {mg : Wm Value γ} {bad : γ → (Ex → Prop) → Prop} [∀ a, Mono (R a)] (h : TrA (Zx W n) ρ κ t mg Rs) :
    TrE (Zx W n) ρ κ (tMake C (SpMY Y C (fun _ : Unit => []) D1 Rs (fun _ g _ PX => bad g PX) (fD K dU)) [] (anyX W n) t) (fun (_ : α → Prop) PX => mg (fun g => bad g (fun e => PX (.ref e.cls))) PX) R :=
  ⟨inferInstance, fun σ F L sv sc Q X q F1 N H e A wsh Qk qk => h.run σ F L sv sc _ X q F1 N H e A wsh _ fun vs F2 H2 e2 A2 ⟨g, q1, r1⟩ => by
    intro x dx h1 h2 h3
    rw [List.append_nil]
    have A3 : At F2 ((x, .ins C dx []) :: (dx, .own x) :: (L ++ N)) (upd (upd H2 dx (.own x)) x (.ins C dx [])) := (A2.cell (o := .own x) h2).cell (o := .ins C dx []) (a := x) (by rw [upd_ne h3.symm]; exact h1)
    refine ⟨(), g, F2, L ++ N, x, [(x, .ins C dx []), (dx, .own x)], vs, fun _ => False, fun e => X (.ref e.cls), rfl, A3, ⟨dx, [], [], rfl, rfl, List.nodup_nil⟩, r1, q1, fun s' d v F3 M' H3 e3 A4 ho qk' rv => qk'.elim, fun y cls d F3 M' H3 e3 A4 ho p r => ?_⟩
    exact fun σ' hl => wsh (.ref y.cls) cls d σ' F3 L H3 (e2.trans e3) A4.drop hl p r.1⟩
end
end Tw

/-! Sx10: != of lists whose items are alike, by their own ==. -/
namespace NeG
open PySem PySem.SeqAt GQ
open AutoSeq1 (wpAny_loadPart')
open MeetsSeq MeetsSeq2 MeetsSeq3 SeqRoads2
section
variable {prog : Program} {w : World} {A : Around} {R : Result → Shared → Prop}
end
section
variable {prog : Program} {w : World} {A : Around} {E : Value → Shared → Prop} {s : Shared}
end
end NeG
namespace Tw
open PySem PySem.Spec PyProof.Rows L2 SlX StX Rs Ma Sn
section
variable {X : Cx} {α : Type} {Ra : α → VP} {C : Addr} {k : Nat}
end
section
variable {ε α : Type} {K : PySem.W.Frag} {Ra : α → VP}
end
end Tw

/-! Sx11: an object with slots != a value of many kinds. -/
namespace Tw
open PySem PySem.Spec PyProof.Rows L2 SlX StX Rs Ma Sn
variable [Rs.Tabz]
section
variable {X : Cx} {k j : Nat} {C : Addr} {sp : Sp}
end
section
variable {ε α : Type} {K : PySem.W.Frag} {C : Addr} {E : XK} {R : α → VP} {Y : Wx}
theorem names_not {w : Wv} (h : w.plain = true) : bName w ∈ notNames := nm_plain h
end
end Tw

/-! Sx12: a list of anything == []. -/
namespace Tw
open PySem PySem.Spec PyProof.Rows L2 SlX StX Rs Ma Sn Wb
variable [Rs.Tabz]
def rEqNil (K : PySem.W.Frag) : R2 := fun x y H Q => ∃ a b xs, x = .ref a ∧ y = .ref b ∧ SqL K H a xs ∧ SqL K H b [] ∧ Q (.bl (decide (xs.length = 0))) H
theorem op_eqNil {X : Cx} (hu : X.A.units < cLine) : OpR X (compareOp .Eq) (rEqNil X.K) := by
  intro pins s σ H x y v u Q I rx ry h
  obtain ⟨a, b, xs, rfl, rfl, ha, hb, q⟩ := h
  cases rx
  cases ry
  obtain ⟨its, r, pl, z⟩ := I.list ha
  obtain ⟨its2, r2, pl2, z2⟩ := I.list hb
  have e2 : its2 = [] := by
    have := r2.length
    exact List.eq_nil_of_length_eq_zero (by rw [← this]; rfl)
  subst e2
  have hl := r.length
  have fin : EP X pins σ Q (.bool (decide (xs.length = 0))) s := ⟨.bl _, H, I, rfl, q⟩
  show wpAny _ _ (richCompare .Eq (.ref a) (.ref b)) _ _ _
  by_cases h0 : xs.length = 0
  · have e0 : its = [] := List.eq_nil_of_length_eq_zero (by rw [← hl]; exact h0)
    subst e0
    rw [decide_eq_true h0] at fin
    exact PySem.SeqAt.RcAt.lists (e := fun _ => true) pl.isList pl2.isList rfl hu (fun j h1 _ => absurd h1 (by simp)) _ _ _ _ fin
  · rw [decide_eq_false h0] at fin
    exact PySem.SeqAt.RcAt.lists_lengths pl.isList pl2.isList (by simp; intro z; exact h0 (by rw [hl, z]; rfl)) hu _ _ _ _ fin
section
variable {ε α β : Type} {K : PySem.W.Frag} {R : α → VP} {Rb : β → VP}
theorem o_eqNil [∀ a, Mono (R a)] [∀ b, Mono (Rb b)] : Op2 ε (rEqNil K) (fLn R) (fLn Rb) (fun as bs Q _ => bs = [] ∧ Q (decide (as.length = 0))) (fD K dB) :=
  ⟨fun as bs x y F L hx hy Q X ⟨e0, q⟩ => fun F2 N H e2 A Qk qk => by
    subst e0
    obtain ⟨a, xs, rfl, sa, ha⟩ := hx
    obtain ⟨b, ys, rfl, sb, hb⟩ := hy
    have e := e2.trans A.ex
    have l1 := each_length ha
    rw [List.length_map] at l1
    have l2 : ys = [] := List.eq_nil_of_length_eq_zero (each_length hb)
    subst l2
    exact ⟨a, b, xs, rfl, rfl, .inl (.inl (e _ _ sa)), .inl (.inl (e _ _ sb)), by rw [l1]; exact qk _ F2 H (Same.refl _) A ⟨_, q, .bl _⟩⟩⟩
end
end Tw

/-! Sx13: x not in an object. -/
namespace Tw
open PySem PySem.Spec PyProof.Rows L2 SlX StX Rs Ma Sn
variable [Rs.Tabz]
section
variable {ε α β : Type} {K : PySem.W.Frag} {C : Addr} {E : XK} {Ra : α → VP} {Rb : β → VP}
end
end Tw

/-! Sy0: tuples of values of many kinds, as data where all their items are; dicts by numbers as such values; an object with slots == a value. -/
namespace Tw
open PySem PySem.Spec PyProof.Rows L2 SlX StX Rs Ma Sn
variable [Rs.Tabz]
def Wv.isDat : Wv → Bool
  | .dat _ => true
  | _ => false
def mkTp (ws : List Wv) : Wv := if ws.all Wv.isDat = true then .dat (.tuple (toDs ws)) else .tp ws
section
variable {ε α β γ δ S : Type} {Z : Wsh ε} {ρ : List (Option VP)} {κ : List Ow} {X : Wx} {te : TE}
theorem dat_all {F : Hp} : ∀ {ws : List Wv} {vs : List V}, ws.all Wv.isDat = true → Each (ws.map (fW X)) vs F → DpAll X.K F vs (toDs ws)
  | [], [], _, _ => by simpa only [toDs] using DpAll.nil
  | w :: ws, v :: vs, h, e => by
    rw [List.all_cons, Bool.and_eq_true] at h
    cases w with
    | dat d =>
      have e1 : Dp X.K F v d := e.1
      simpa only [toDs, Wv.toD] using DpAll.cons e1 (dat_all h.2 e.2)
    | _ => exact absurd h.1 (by simp [Wv.isDat])
  | [], _ :: _, _, e => e.elim
  | _ :: _, [], _, e => e.elim
theorem tr_tpN {m : Wm ε (List Wv)} (h : TrE Z ρ κ te m (fTp X.K (fW X))) : TrE Z ρ κ te (fun Q E => m (fun ws => Q (mkTp ws)) E) (fW X) := h.conv (R' := fW X) mkTp fun ws v F x => by
  obtain ⟨a, vs, e, h1, h2⟩ := x
  unfold mkTp
  by_cases c : ws.all Wv.isDat = true
  · rw [if_pos c, e]
    exact (Dp.tup h1 (dat_all c h2) : Dp X.K F (.ref a) (.tuple (toDs ws)))
  · rw [if_neg c]
    exact ⟨a, vs, e, h1, fWs_each.mpr h2⟩
theorem tr_tdW {d : α → PyData} {m : Wm ε (List α)} (h : TrE Z ρ κ te m (fD X.K (dT d))) : TrE Z ρ κ te (fun Q E => m (fun as => Q (as.map fun a => Wv.dat (d a))) E) (fTp X.K (fW X)) := h.conv (R' := fTp X.K (fW X)) (fun as => as.map fun a => Wv.dat (d a)) fun as v F x => by
  show Tp X.K ((as.map fun a => Wv.dat (d a)).map (fW X)) v F
  rw [List.map_map]
  have := tp_dt.mpr (show Dt X.K (.tuple (as.map d)) v F from x)
  rw [List.map_map] at this
  exact this
theorem tr_dkW {d : α → PyData} {m : Wm ε (List (Nat × α))} (h : TrE Z ρ κ te m (fDI dN (fD X.K d))) : TrE Z ρ κ te (fun Q E => m (fun es => Q (.dk (es.map fun p => (p.1, d p.2)))) E) (fW X) := h.conv (R' := fW X) (fun es => Wv.dk (es.map fun p => (p.1, d p.2))) fun es v F x => by
  obtain ⟨D, zs, e, h1, h2, h3⟩ := x
  refine ⟨D, zs, e, h1, ?_, by rw [List.map_map]; exact h3⟩
  clear h1 h3 e
  induction es generalizing zs with
  | nil => cases zs with
    | nil => exact True.intro
    | cons z zs => exact h2.elim
  | cons p es ih => cases zs with
    | nil => exact h2.elim
    | cons z zs => exact ⟨h2.1, ih zs h2.2⟩
end
def rEqSl (K : PySem.W.Frag) (C : Addr) (sp : Sp) (E : XK) : R2 := fun x y H Q => ∃ a dx vs tb, x = .ref a ∧ Slt H a C dx vs ∧ TyX K H y tb ∧ PySem.W.notFirst K C tb = true ∧ sp [x, y] H Q E
section
variable {X : Cx} {k j : Nat} {C : Addr} {sp : Sp}
theorem op_eqSl (c : EqS X.prog X.w X.K X.mg X.base k C sp) (hr : Room j X.A) (hk : k + 1 ≤ j) : OpR X (compareOp .Eq) (rEqSl X.K C sp E0) := by
  obtain ⟨g, h1, h2, hs, hf, F⟩ := c.ex
  intro pins s σ H x y v u Q I rx ry h
  obtain ⟨a, dx, vs, tb, rfl, ha, hty, hn, q⟩ := h
  cases (show v = Value.ref a from rx)
  obtain ⟨sl, od, _, J, _⟩ := slt_inst I ha
  obtain ⟨m, hF⟩ := I.fr
  obtain ⟨Pz, kx, hp, _⟩ := kit_of I ry hty
  show wpAny (model X.prog X.w) X.A (richCompare .Eq (.ref a) u) (EP X pins σ Q) X.xe s
  refine PySem.W.cmp_K (op := .Eq) (tb := tb) hr.units0 hF I.ok.mod.kin J (kx.ty _ _ I.kIn hp) hn hs hf ?_
  refine wpAny_mono (wpAny_call (run_fnR (us := [.ref a, u]) (vs := [.ref a, y]) F (hr.mono (by omega)) pass0 I (.cons rfl (.cons ry .nil)) q)) (fun w s' z => ?_) fun _ _ x => x
  obtain ⟨z', H', I', rz, qz⟩ := z
  exact cmpback rz ⟨z', H', I', rz, qz⟩
end
section
variable {ε α : Type} {K : PySem.W.Frag} {C : Addr} {E : XK} {R : α → VP} {Y : Wx}
theorem o_eqSlW [∀ a, Mono (R a)] {spec : α × Wv → (Bool → Prop) → Prop} (hn : NoD Y.K C) (h1 : ∀ a v F, R a v F → IsOb C v F) :
    Op2 ε (rEqSl Y.K C (SpN (fun p : α × Wv => [R p.1, fW Y p.2]) spec (fD Y.K dB)) E) R (fW Y) (fun a b Q _ => b.plain = true ∧ spec (a, b) Q) (fD Y.K dB) :=
  ⟨fun a b x y F L hx hy Q X ⟨hb, q⟩ => fun F2 N H e2 A Qk qk => by
    obtain ⟨p, dx, vs, rfl, q1, q2⟩ := h1 _ _ _ hx
    have hy2 : fW Y b y F2 := Mono.mono (R := fW Y b) _ _ _ e2 hy
    exact ⟨p, dx, vs, _, rfl, at_slt A (e2 _ _ q1) (e2 _ _ q2), ty_plain hb (Mono.mono (R := fW Y b) _ _ _ A.ex hy2), hn.nf _ (names_not hb), (a, b), F2, L ++ N, Q, A, ⟨Mono.go hx e2, hy2, True.intro⟩, q, fun c v F3 H3 e3 A3 pd r => qk v F3 H3 e3 A3 ⟨c, pd, r⟩⟩⟩
end
section
variable {X : Cx} {f : Str} {e : Expr} {es : List Expr} {kws : List Keyword} {t tk : TA} {p pos : Pos} {kw : Str} {dv : V}
end
end Tw

/-! Sy1: a tuple no times. -/
namespace L2
open PySem PySem.Spec PyProof.Rows
variable [Rs.Tabz]
theorem tuple_mul0 (l : Addr) (items : Array Value) (n : Nat) (dd : Option Addr) (sl : Array (Option Value)) (u : Tok) (h0 : items.isEmpty = false) :
    Meets (Builtin.«tuple.__mul__» ⟨[.ref l, .int 0 u], []⟩) (fun _ R s => s.heap.get? l = some { cls := .type "tuple", dict := dd, data := .seq items n, slots := sl } ∧
      R (.ok (.ret (Value.ref s.heap.objs.size))) { s with heap := s.heap.push { cls := Value.type "tuple", data := Data.seq #[] }, toks := s.toks }) :=
  .of_wp fun prog w A R s h => by
    obtain ⟨hp, g, d, tk, os⟩ := s
    obtain ⟨hl, h⟩ := h
    have f1 := AutoSeq1.idx_int
    wp_walk using wpAny_loadPart' hl
    repeat (first
      | exact ⟨_, rfl, h⟩
      | (refine wpAny_ite_false (by decide) ?_; wp_walk using wpAny_loadPart' hl)
      | (refine wpAny_ite_false (decide_eq_false (by rw [h0]; decide)) ?_; wp_walk using wpAny_loadPart' hl)
      | (refine wpAny_ite_true (by simp) ?_; wp_walk using wpAny_loadPart' hl))
def rRep0 (K : PySem.W.Frag) : R2 := fun x y H Q => ∃ l xs, x = .ref l ∧ y = .int 0 ∧ SqT K H l xs ∧ xs ≠ [] ∧ ∀ p, H p = none → Q (.ref p) (upd H p (.tup []))
section
variable {X : Cx}
theorem op_rep0 : OpR X (binaryOp .Mult) (rRep0 X.K) := by
  intro pins s σ H x y v u Q I rx ry h
  obtain ⟨l, xs, rfl, rfl, hT, hne, q⟩ := h
  cases rx
  obtain ⟨t, rfl⟩ := ry
  obtain ⟨its, r, ⟨⟨cls, dd, data, sl⟩, ho, hc, n, hd⟩, hs⟩ := I.tuple hT
  simp only at hc hd
  subst hc hd
  have hle : its.length = xs.length := r.length.symm
  have hi : its.toArray.isEmpty = false := by
    cases its with
    | nil => exact absurd (List.eq_nil_of_length_eq_zero hle.symm) hne
    | cons a b => rfl
  refine wpAny_binaryOp_repeat_ref (T := "tuple") (U := "int") (by decide) ⟨_, ho, rfl⟩ (fun s' => typeIs_int s' 0 t) noFill_tuple_mul F.fills_int_mul F.slot_int_rmul repeat_tuple F.slot_int_index.lookup
    (call_meets F.slot_int_rmul (typeIs_int s 0 t) F.entry_int_rmul (F.args_int_rmul_2 _ _) (int_rmul_tuple 0 t l its.toArray n dd sl)
      ⟨ho, rfl, ⟨_, ho, rfl⟩, call_meets F.slot_tuple_mul ⟨_, ho, rfl⟩ F.entry_tuple_mul (F.args_tuple_mul_2 _ _) (tuple_mul0 l its.toArray n dd sl t hi) ⟨ho, ?_⟩⟩)
  refine ⟨.ref s.heap.objs.size, _, I.laid (t' := s.toks) (o := .tup []) (fun b ob q => Heap.get?_push_of_some _ q) (Nat.le_refl _) ?_, rfl, q _ (I.hok.fresh (Nat.le_refl _))⟩
  exact ⟨by decide, [], .nil, IsTup.new _ _⟩
def rRepTB (K : PySem.W.Frag) : R2 := fun x y H Q => rRepTA K x y H Q ∨ rRep0 K x y H Q
theorem op_repTB : OpR X (binaryOp .Mult) (rRepTB X.K) := fun pins s σ H x y v u Q I rx ry h => h.elim (op_repTA pins s σ H x y v u Q I rx ry) (op_rep0 pins s σ H x y v u Q I rx ry)
end
end L2
namespace Tw
open PySem PySem.Spec PyProof.Rows L2 SlX StX Rs Ma Sn
variable [Rs.Tabz]
section
variable {ε α : Type} {K : PySem.W.Frag}
theorem o_rep1z {d : α → PyData} : Op2 ε (rRepTB K) (fD K (dT d)) (fD K dN) (fun xs n Q X => ∃ a, xs = [a] ∧ n ≤ 1000 ∧ Q (List.replicate n a)) (fD K (dT d)) :=
  ⟨fun xs n x y F L hx hy Q X ⟨a, e, hn, q⟩ => by
    by_cases h0 : n = 0
    · subst h0 e
      obtain ⟨p, vs, rfl, hs, hr⟩ := tp_dt.mpr (show Dt K (.tuple ([a].map d)) x F from hx)
      cases hy
      have hne : vs ≠ [] := fun z => by rw [z] at hr; exact hr
      exact fun F1 N H e A Qk qk => .inr ⟨p, vs, rfl, rfl, sqT_up (e.trans A.ex) hs, hne, fun p2 hp => qk _ (upd F1 p2 _) _ (same_new (A.free hp)) (A.new hp) ⟨_, q, (Dp.tup (.inl (.inl upd_same)) .nil : Dp K _ (.ref p2) (.tuple []))⟩⟩
    · have := (o_rep1 (ε := ε) (K := K) (d := d)).run xs n x y F L hx hy Q X ⟨a, e, ⟨by omega, hn⟩, q⟩
      exact fun F1 N H e A Qk qk => .inl (this F1 N H e A Qk qk)⟩
end
end Tw

/-! Tr0: tables of lambdas, so many of them. -/
namespace Tw
open PySem PySem.Spec PyProof.Rows L2 SlX StX Rs Ma Sn
end Tw

/-! Sr1: tables of lambdas and of generator expressions, so many of them. -/
namespace Tw
open PySem PySem.Spec PyProof.Rows L2 SlX StX Rs Ma Sn
end Tw

namespace Wb
open PySem PySem.Spec PyProof.Rows L2 SlX StX Rs
variable [Rs.Tabz]
local macro_rules | `(tactic| walk_at "rr") => `(tactic| (first
  | exact r_nil | exact r_int | exact r_bl | exact r_str
  | (refine r_var rfl ?_; assumption)
  | exact r_c rfl
  | (refine r_cons ?_ ?_ <;> walk_at "rr")))
def topS (i : Nat) : Stmt := PySem.Challenge.pw_rootshared_k00_webs_judged_and_told.main.body.getD i (.Pass ⟨0, 0, 0, 0⟩)
/-! ### numbers -/
def isInt : PyData → Bool
  | .int i => decide (-(10 ^ 60) < i) && decide (i < 10 ^ 60)
  | _ => false
def isBt (d : PyData) (lo hi : Int) : Bool := isInt d && match d with
  | .int i => decide (lo ≤ i) && decide (i ≤ hi)
  | _ => false
def toI : PyData → Int
  | .int i => i
  | _ => 0
def few : PyData → Prop
  | .tuple ds => ds.length ≤ 60
  | _ => True
def isRising (d : PyData) (lo hi : Int) : Bool := match d with
  | .tuple ds => ds.all (fun x => isBt x lo hi) && decide ((ds.map toI).Pairwise (· < ·))
  | _ => false
section
variable {P : Program} {w : World} {K : PySem.W.Frag} {mg : Str → Option Value} {base : Heap}
abbrev spIsInteger (K : PySem.W.Frag) : Sp := SpF (γ := PyData) (fun _ => True) (fun d => [Dt K d]) (fun d => Dt K (.bool (isInt d)))
-- is_integer: 0:value
abbrev s_is_integer : Stmt := topS 8
abbrev N_is_integer : List Str := ["value"]
theorem sc_is_integer : FnScope N_is_integer ["value"] (defScope s_is_integer) := ⟨rfl, rfl, rfl, by decide +kernel, rfl, by decide +kernel, by decide +kernel⟩
theorem ok_is_integer {f : Addr} {fd : FuncData} (B : Bf mg) (g_GREATEST : GInt mg "GREATEST" (10 ^ 60)) (F : Fun K "is_integer" "is_integer" s_is_integer f fd) (hm : mg "is_integer" = some (.ref f)) (b : Binds K fd ["value"] []) : Gf P w K mg base 1 "is_integer" (spIsInteger K) := by
  refine gf_mk F hm b sc_is_integer (fun _ => rfl) fun cdv A outer s H E d vs F0 hr hp hv => ?_
  obtain ⟨v, rfl, h1⟩ := each1 hv
  refine ⟨_, (pss_one (ps_ret (pe_and (p_isi B (pa_cons (pv 0) (pa_cons (p_ty (by rfl) B.int boot_int) pa_nil))) (pe_and (pe_not (p_isi B (pa_cons (pv 0) (pa_cons (p_ty (by rfl) B.bool boot_bool) pa_nil)))) (pe_one (pe_chain op_lt op_lt (pe_un un_neg (p_gint g_GREATEST)) (pv 0) (p_gint g_GREATEST))))))), ?_⟩
  refine s_ret ?_
  cases d with
  | int i => exact r_is (r_and (r_isiD (b := true) (by walk_at "rr") (by dsimp only [tyName]; decide +kernel)) fun _ => r_and (r_not (r_isiD (b := false) (by walk_at "rr") (by dsimp only [tyName]; decide +kernel))) fun _ => r_chain (r_U r_int) (by walk_at "rr") r_int) rfl
  | bool i => exact r_is (r_and (b := false) (r_isiD (b := true) (by walk_at "rr") (by dsimp only [tyName]; decide +kernel)) fun _ => r_is (r_and (b := false) (r_not (r_isiD (b := true) (by walk_at "rr") (by dsimp only [tyName]; decide +kernel))) fun h => nomatch h) rfl) rfl
  | none => exact r_is (r_and (b := false) (r_isiD (b := false) (by walk_at "rr") (by dsimp only [tyName]; decide +kernel)) fun h => nomatch h) rfl
  | str x => exact r_is (r_and (b := false) (r_isiD (b := false) (by walk_at "rr") (by dsimp only [tyName]; decide +kernel)) fun h => nomatch h) rfl
  | list x => exact r_is (r_and (b := false) (r_isiD (b := false) (by walk_at "rr") (by dsimp only [tyName]; decide +kernel)) fun h => nomatch h) rfl
  | tuple x => exact r_is (r_and (b := false) (r_isiD (b := false) (by walk_at "rr") (by dsimp only [tyName]; decide +kernel)) fun h => nomatch h) rfl
  | dict x => exact r_is (r_and (b := false) (r_isiD (b := false) (by walk_at "rr") (by dsimp only [tyName]; decide +kernel)) fun h => nomatch h) rfl
theorem isInt_shape {d : PyData} (h : isInt d = true) : ∃ i, d = .int i ∧ -(10 ^ 60) < i ∧ i < 10 ^ 60 := by
  cases d with
  | int i =>
    rw [isInt, Bool.and_eq_true] at h
    exact ⟨i, rfl, of_decide_eq_true h.1, of_decide_eq_true h.2⟩
  | _ => cases h
abbrev spIsBetween (K : PySem.W.Frag) : Sp := SpF (γ := PyData × Int × Int) (fun _ => True) (fun g => [Dt K g.1, Dt K (.int g.2.1), Dt K (.int g.2.2)]) (fun g => Dt K (.bool (isBt g.1 g.2.1 g.2.2)))
-- is_between: 0:value 1:low 2:high
abbrev s_is_between : Stmt := topS 9
abbrev N_is_between : List Str := ["value", "low", "high"]
theorem sc_is_between : FnScope N_is_between ["value", "low", "high"] (defScope s_is_between) := ⟨rfl, rfl, rfl, by decide +kernel, rfl, by decide +kernel, by decide +kernel⟩
theorem ok_is_between {f : Addr} {fd : FuncData} (c_is_integer : Gf P w K mg base 1 "is_integer" (spIsInteger K)) (F : Fun K "is_between" "is_between" s_is_between f fd) (hm : mg "is_between" = some (.ref f)) (b : Binds K fd ["value", "low", "high"] []) : Gf P w K mg base 2 "is_between" (spIsBetween K) := by
  refine gf_mk F hm b sc_is_between (fun _ => rfl) fun cdv A outer s H E ⟨d, lo, hi⟩ vs F0 hr hp hv => ?_
  obtain ⟨v, v1, v2, rfl, h1, h2, h3⟩ := each3 hv
  refine ⟨_, (pss_one (ps_ret (pe_and (p_call c_is_integer hr (by decide) (pa_cons (pv 0) pa_nil)) (pe_one (pe_chain op_le op_le (pv 1) (pv 0) (pv 2)))))), ?_⟩
  refine s_ret (r_and (r_call d True.intro (by walk_at "rr")) fun h => ?_)
  obtain ⟨i, rfl, _⟩ := isInt_shape h
  exact r_chain (by walk_at "rr") (by walk_at "rr") (by walk_at "rr")
abbrev spRequireNumber (K : PySem.W.Frag) : Sp := SpF (γ := PyData × Int × Int) (fun g => isBt g.1 g.2.1 g.2.2 = true) (fun g => [Dt K g.1, Dt K (.int g.2.1), Dt K (.int g.2.2)]) (fun g => Dt K .none)
-- require_number: 0:value 1:low 2:high
abbrev s_require_number : Stmt := topS 10
abbrev N_require_number : List Str := ["value", "low", "high"]
theorem sc_require_number : FnScope N_require_number ["value", "low", "high"] (defScope s_require_number) := ⟨rfl, rfl, rfl, by decide +kernel, rfl, by decide +kernel, by decide +kernel⟩
theorem ok_require_number {f : Addr} {fd : FuncData} (c_is_between : Gf P w K mg base 2 "is_between" (spIsBetween K)) (F : Fun K "require_number" "require_number" s_require_number f fd) (hm : mg "require_number" = some (.ref f)) (b : Binds K fd ["value", "low", "high"] []) : Gf P w K mg base 3 "require_number" (spRequireNumber K) := by
  refine gf_mk F hm b sc_require_number (fun _ => rfl) fun cdv A outer s H E ⟨d, lo, hi⟩ vs F0 hr hp hv => ?_
  obtain ⟨v, v1, v2, rfl, h1, h2, h3⟩ := each3 hv
  refine ⟨_, (pss_one (ps_if (pt_not (pt_val (p_call c_is_between hr (by decide) (pa_cons (pv 0) (pa_cons (pv 1) (pa_cons (pv 2) pa_nil))))))
        (pss_one ps_never)
        pss_nil)), ?_⟩
  refine s_if (t_not (t_B (r_call (d, lo, hi) True.intro (by walk_at "rr")))) (fun h => ?_) fun h => s_next fun F1 e => .non
  rw [show isBt (d, lo, hi).1 (d, lo, hi).2.1 (d, lo, hi).2.2 = true from hp] at h
  cases h
abbrev spIsRising (K : PySem.W.Frag) : Sp := SpF (γ := PyData × Int × Int) (fun g => few g.1) (fun g => [Dt K g.1, Dt K (.int g.2.1), Dt K (.int g.2.2)]) (fun g => Dt K (.bool (isRising g.1 g.2.1 g.2.2)))
theorem all_ints {ds : List PyData} {lo hi : Int} (h : ds.all (fun x => isBt x lo hi) = true) : ds = (ds.map toI).map .int := by
  induction ds with
  | nil => rfl
  | cons d ds ih =>
    rw [List.all_cons, Bool.and_eq_true] at h
    have h1 := h.1
    unfold isBt at h1
    rw [Bool.and_eq_true] at h1
    obtain ⟨i, rfl, _⟩ := isInt_shape h1.1
    rw [List.map_cons, List.map_cons, ← ih h.2]
    rfl
theorem insert_asc (n : Int) : ∀ os : List Int, os.Pairwise (· < ·) → ∃ qs : List Int, qs.Pairwise (· < ·) ∧ ∀ k, k ∈ qs ↔ k = n ∨ k ∈ os
  | [], _ => ⟨[n], List.pairwise_singleton _ _, by simp⟩
  | o :: os, h => by
    obtain ⟨h1, h2⟩ := List.pairwise_cons.mp h
    rcases Int.lt_trichotomy n o with c | c | c
    · exact ⟨n :: o :: os, List.pairwise_cons.mpr ⟨fun x hx => by
        rcases List.mem_cons.mp hx with z | z
        · exact z ▸ c
        · exact Int.lt_trans c (h1 x z), h⟩, by simp⟩
    · exact ⟨o :: os, h, by subst c; simp⟩
    · obtain ⟨qs, q1, q2⟩ := insert_asc n os h2
      refine ⟨o :: qs, List.pairwise_cons.mpr ⟨fun x hx => ?_, q1⟩, fun k => ?_⟩
      · rcases (q2 x).mp hx with z | z
        · exact z ▸ c
        · exact h1 x z
      · rw [List.mem_cons, q2, List.mem_cons]
        constructor
        · rintro (z | z | z)
          · exact .inr (.inl z)
          · exact .inl z
          · exact .inr (.inr z)
        · rintro (z | z | z)
          · exact .inr (.inl z)
          · exact .inl z
          · exact .inr (.inr z)
theorem asc_ex : ∀ ns : List Int, ∃ os : List Int, os.Pairwise (· < ·) ∧ ∀ k, k ∈ os ↔ k ∈ ns
  | [] => ⟨[], .nil, by simp⟩
  | n :: ns => by
    obtain ⟨os, h1, h2⟩ := asc_ex ns
    obtain ⟨qs, q1, q2⟩ := insert_asc n os h1
    exact ⟨qs, q1, fun k => by rw [q2, h2, List.mem_cons]⟩
theorem asc_one {os ps : List Int} (h1 : os.Pairwise (· < ·)) (h2 : ps.Pairwise (· < ·)) (h : ∀ k, k ∈ os ↔ k ∈ ps) : os = ps :=
  List.Perm.eq_of_pairwise (le := (· < ·)) (fun a b _ _ x y => absurd x (Int.lt_asymm y)) h1 h2 ((List.perm_ext_iff_of_nodup (h1.imp fun x => Int.ne_of_lt x) (h2.imp fun x => Int.ne_of_lt x)).mpr h)
-- is_rising: 0:value 1:low 2:high 3:number
abbrev s_is_rising : Stmt := topS 11
abbrev N_is_rising : List Str := ["value", "low", "high", "number"]
theorem sc_is_rising : FnScope N_is_rising ["value", "low", "high"] (defScope s_is_rising) := ⟨rfl, rfl, rfl, by decide +kernel, rfl, by decide +kernel, by decide +kernel⟩
theorem ok_is_rising {f : Addr} {fd : FuncData} (B : Bf mg) (c_is_between : Gf P w K mg base 2 "is_between" (spIsBetween K)) (F : Fun K "is_rising" "is_rising" s_is_rising f fd) (hm : mg "is_rising" = some (.ref f)) (b : Binds K fd ["value", "low", "high"] []) : Gf P w K mg base 3 "is_rising" (spIsRising K) := by
  refine gf_mk F hm b sc_is_rising (fun _ => rfl) fun cdv A outer s H E ⟨d, lo, hi⟩ vs F0 hr hp hv => ?_
  obtain ⟨v, v1, v2, rfl, h1, h2, h3⟩ := each3 hv
  refine ⟨_, (pss_cons (ps_if (PW.pt (pw_or (pt_not (pt_val (p_isi B (pa_cons (pv 0) (pa_cons (p_ty (by rfl) B.tuple boot_tuple) pa_nil))))) (pw_or1 (pt_not (pt_val (p_all rfl B (pa_cons (pe_lc (own := [("number", 3)]) (g := gName 3) (tt := tYes) rfl sc_is_rising.nd (pi_tup (pv 0)) (blkOk_by (N := N_is_rising) (sc := defScope s_is_rising) (by decide +kernel)) (fun _ _ _ _ _ => (pg_name (i := 3) sc_is_rising.nd rfl (by first | exact Or.inl rfl | exact Or.inr rfl))) (fun _ _ _ _ _ => pts_nil) (fun _ _ _ _ _ => by exact (p_call c_is_between hr (by decide) (pa_cons (pv 3) (pa_cons (pv 1) (pa_cons (pv 2) pa_nil)))))) pa_nil)))))))
        (pss_one (ps_ret pe_bl))
        pss_nil)
      (pss_one (ps_ret (pe_cmpR (op_eqD hr.units) (p_list B (pa_cons (pv 0) pa_nil)) (p_sortedSet rfl B (pa_cons (p_set rfl B (pa_cons (pv 0) pa_nil)) pa_nil)) (nomark _))))), ?_⟩
  cases d with
  | tuple ds =>
    have hl : ds.length ≤ 60 := hp
    refine q_if (b := !(ds.all fun x => isBt x lo hi)) (t_is (t_or (b := !(ds.all fun x => isBt x lo hi)) (t_not (t_B (r_isiD (b := true) (by walk_at "rr") (by dsimp only [tyName]; decide +kernel)))) fun _ => ?_) (by simp)) (fun hb => ?_) fun hb => ?_
    · refine t_is (t_not (t_B (r_all (bs := ds.map fun x => isBt x lo hi) (r_cons (r_ls (Run.weak (r_lcN (xs := ds) (Ri := Dt K) (Re := fun x => Dt K (.bool (isBt x lo hi))) (i_tup (Rs := ds.map (Dt K)) (r_var rfl (tp_dt.mpr h1))) (by omega) (fun _ => rfl) fun x u F1 e hx hu => ?_) fun v F1 e hv => ?_)) r_nil)))) ?_
      · have h2' := dp_up e h2
        have h3' := dp_up e h3
        exact r_call (x, lo, hi) True.intro (by walk_at "rr")
      · rw [List.map_map]; exact hv
      · rw [List.all_map]; rfl
    · refine q_ret (r_is r_bl ?_)
      show PyData.bool false = PyData.bool (isRising (.tuple ds) lo hi)
      rw [isRising]
      rw [Bool.not_eq_true'] at hb
      rw [hb]; rfl
    · rw [Bool.not_eq_false'] at hb
      have hd := all_ints hb
      have hs : isRising (.tuple ds) lo hi = decide ((ds.map toI).Pairwise (· < ·)) := by rw [isRising, hb, Bool.true_and]
      refine q_next (s_ret (r_is (d := .bool (decide ((ds.map toI).Pairwise (· < ·)))) ?_ (congrArg PyData.bool hs.symm)))
      obtain ⟨os, o1, o2⟩ := asc_ex (ds.map toI)
      have hn : (ds.map toI).length ≤ 60 := by rw [List.length_map]; exact hl
      have hv1 : Dt K (.tuple ((ds.map toI).map .int)) v F0 := hd ▸ h1
      refine r_is (r_eqD (d := .list ((ds.map toI).map .int)) (e := .list (os.map .int)) ?_ ?_ sh_listI sh_listI) ?_
      · exact (r_listT (r_cons (r_var rfl (tp_dt.mpr hv1)) r_nil)).weak fun v F1 e hv => ls_dt.mp (Ln.ls hv)
      · exact r_sortedSet (r_cons (r_set (R := Dt K (.tuple ((ds.map toI).map .int))) (r_cons (r_var rfl hv1) r_nil) (fun v F1 h => seqI_t h) (by omega)) r_nil) (by omega) os o1 o2
      · rw [eqv_listI]
        congr 1
        by_cases hp : (ds.map toI).Pairwise (· < ·)
        · rw [asc_one hp o1 fun k => (o2 k).symm, decide_eq_true rfl, decide_eq_true o1]
        · rw [decide_eq_false hp, decide_eq_false (fun z : ds.map toI = os => hp (by rw [z]; exact o1))]
  | _ =>
    refine q_if (b := true) (t_is (t_or (b := false) (t_not (t_B (r_isiD (b := false) (by walk_at "rr") (by dsimp only [tyName]; decide +kernel)))) fun h => nomatch h) rfl) (fun _ => ?_) fun h => nomatch h
    exact q_ret r_bl
end
end Wb

namespace Wb
open PySem PySem.Spec PyProof.Rows L2 SlX StX Rs Ma
variable [Rs.Tabz]
local macro_rules | `(tactic| walk_at "rr") => `(tactic| (first
  | exact r_nil | exact r_int | exact r_bl | exact r_str
  | (refine r_var rfl ?_; assumption)
  | exact r_c rfl
  | (refine r_cons ?_ ?_ <;> walk_at "rr")))
section
variable {P : Program} {w : World} {K : PySem.W.Frag} {mg : Str → Option Value} {base : Heap}
abbrev spHousesFrom (K : PySem.W.Frag) : Sp := SpF (γ := Rows × Nat) (fun g => Ok g.1 ∧ g.2 < g.1.length) (fun g => [Dt K (dRows g.1), Dt K (nI g.2)]) (fun g => Dt K (dRow (reachL g.1 g.2)))
-- houses_from: 0:heard 1:house 2:found 3:waiting 4:here 5:other 6:row
abbrev s_houses_from : Stmt := topS 14
abbrev N_houses_from : List Str := ["heard", "house", "found", "waiting", "here", "other", "row"]
theorem sc_houses_from : FnScope N_houses_from ["heard", "house"] (defScope s_houses_from) := ⟨rfl, rfl, rfl, by decide +kernel, rfl, by decide +kernel, by decide +kernel⟩
theorem ok_houses_from {f : Addr} {fd : FuncData} (B : Bf mg) (F : Fun K "houses_from" "houses_from" s_houses_from f fd) (hm : mg "houses_from" = some (.ref f)) (b : Binds K fd ["heard", "house"] []) : Gf P w K mg base 1 "houses_from" (spHousesFrom K) := by
  refine gf_mk F hm b sc_houses_from (fun _ => rfl) fun cdv A outer s H E ⟨rs, h⟩ vs F0 hr hp hv => ?_
  obtain ⟨v, v1, rfl, h1, h2⟩ := each2 hv
  obtain ⟨ok, hh⟩ : Ok rs ∧ h < rs.length := hp
  refine ⟨_, (pss_cons (ps_par (i := 2) (j := 3) rfl sc_houses_from.nd rfl rfl (by decide) rfl rfl (pa_cons (pe_disp (pps_cons (pv 1) pe_bl pps_nil) (by rfl) (by rfl) (by simp) (by decide)) (pa_cons (pe_lst (pa_cons (pv 1) pa_nil)) pa_nil)) (by rfl))
      (pss_cons (ps_while PassesOwn.never (pt_cmpR op_gt (p_len B (pa_cons (pv 3) pa_nil)) pe_int (nomark _))
        (pss_cons (ps_set (i := 4) sc_houses_from.nd rfl (by first | exact Or.inl rfl | exact Or.inr rfl) (pe_bm0 PySem.F.plainAttrs_list PySem.F.slot_list_pop PySem.F.type_list_pop mt_pop (pv 3)))
        (pss_one (ps_for PassesOwn.never rfl (pi_enumT (by rfl) B.enumerate (pa_cons (pv 0) pa_nil)) (pg_tup rfl (pgs_cons (pg_name (i := 5) sc_houses_from.nd rfl (by first | exact Or.inl rfl | exact Or.inr rfl)) (pgs_cons (pg_name (i := 6) sc_houses_from.nd rfl (by first | exact Or.inl rfl | exact Or.inr rfl)) pgs_nil)))
          (pss_one (ps_if (PW.pt (pw_and (pt_cmpR op_in_seq (pv 4) (pv 6) rfl) (pw_and1 (pt_cmp (pc_dnotin (hu_of hr) (pv 5) (pv 2))))))
            (pss_cons (ps_dput (hu_of hr) (pv 2) (pv 5) pe_bl rfl)
            (pss_one (ps_expr (pe_bm PySem.F.plainAttrs_list PySem.F.slot_list_append PySem.F.type_list_append mt_append (pv 3) (pa_cons (pv 5) pa_nil)))))
            pss_nil))))))
      (pss_one (ps_ret (p_tuple B (pa_cons (p_sortedDI rfl B (pa_cons (pv 2) pa_nil)) pa_nil)))))), ?_⟩
  have ev1 : v1 = .int (h : Int) := dt_int h2
  -- found, waiting = {house: True}, [house]
  refine q_par (S := fun x y F1 L1 => ∃ d l, x = .ref d ∧ y = .ref l ∧ L1 = [(l, .lst (vN [h])), (d, .dK (kvT [h]))]) ?_ ?_
  · refine x_cons (x_disp1 (n := (h : Int)) (v := .bl true) (r_var rfl h2) (r_c rfl)) ?_
    rintro x F1 L1 e1 ⟨d, rfl, rfl⟩
    refine x_cons (x_lst (Rs := [Dt K (nI h)]) (r_cons (r_var rfl (dp_up e1 h2)) r_nil) (by simp)) ?_
    rintro y F2 L2 e2 ⟨l, ws, rfl, hws, rfl⟩
    obtain ⟨z, rfl, hz⟩ := each1 hws
    cases hz
    exact x_ret fun F3 e3 => ⟨_, _, rfl, d, l, rfl, rfl, rfl⟩
  rintro x y F1 L1 e1 ⟨d, l, rfl, rfl, rfl⟩
  -- while len(waiting) > 0
  refine q_while (fun m σ' F' L' => ∃ f wt o4 o5 o6, σ' = [some v, some v1, some (.ref d), some (.ref l), o4, o5, o6] ∧ L' = [(l, .lst (vN wt)), (d, .dK (kvT f))] ∧ Dfs rs h f wt ∧ wt.length ≤ f.length ∧ m = 2 * (rs.length - f.length) + wt.length)
    (2 * (rs.length - 1) + 1) ⟨[h], [h], none, none, none, rfl, rfl, Dfs.start hh, Nat.le_refl _, rfl⟩ (fun _ _ _ _ _ _ z => z) ?_
  rintro m σ' F2 L2 e2 ⟨f, wt, o4, o5, o6, rfl, rfl, D, hwf, rfl⟩
  refine ⟨decide (0 < wt.length), ?_, fun hb => ?_, fun hb => ?_⟩
  · refine t_is (t_test (r_I0b (r_lnC (List.mem_cons_self) (r_cons (r_varE rfl) r_nil)) r_int)) ?_
    rw [List.length_map]
    exact decide_eq_decide.mpr (by omega)
  · obtain ⟨wt', here, rfl⟩ : ∃ wt' here, wt = wt' ++ [here] := by
      rcases List.eq_nil_or_concat wt with z | ⟨a, c, z⟩
      · subst z; simp at hb
      · exact ⟨a, c, by rw [z]; simp⟩
    have hl : here < rs.length := D.lt _ (D.sub _ (by simp))
    refine q_setX (Px := fun x F3 L3 => x = .int (here : Int) ∧ L3 = [(l, .lst (vN wt')), (d, .dK (kvT f))]) ?_ ?_
    · rw [show vN (wt' ++ [here]) = vN wt' ++ [V.int (here : Int)] from by simp [vN]]
      exact x_pop (r_varE rfl)
    rintro x F3 L3 e3 ⟨rfl, rfl⟩
    -- for other, row in enumerate(heard)
    refine s_for (fun i σ'' F' L' => ∃ o5 o6, σ'' = [some v, some v1, some (.ref d), some (.ref l), some (.int (here : Int)), o5, o6] ∧ L' = [(l, .lst (vN (wt' ++ newOf rs here f i))), (d, .dK (kvT (f ++ newOf rs here f i)))])
      (i_enumT (Rs := (rs.map dRow).map (Dt K)) (r_cons (r_var rfl (tp_dt.mpr (dp_up ((e1.trans e2).trans e3) h1))) r_nil)) (fun F' e' => ⟨_, _, rfl, by simp [newOf]⟩) (fun _ _ _ _ _ _ z => z) ?_ ?_
    · rintro i S x σ'' F4 L4 e4 hS hx ⟨o5', o6', rfl, rfl⟩
      obtain ⟨dr, hdr, rfl⟩ := pairs_get hS
      rw [List.getElem?_map] at hdr
      have hi : i < rs.length := by
        cases q : rs[i]? with
        | none => rw [q] at hdr; cases hdr
        | some r => exact (List.getElem?_eq_some_iff.mp q).1
      rw [get_row hi] at hdr
      cases hdr
      refine g_pair hx fun u1 u2 hu1 hu2 => ?_
      cases (show Dp K F4 u1 (nI i) from hu1)
      have hn : i ∉ newOf rs here f i := fun z => absurd (mem_new.mp z).1 (Nat.lt_irrefl _)
      refine s_if (b := decide (here ∈ row rs i) && !decide (i ∈ f ++ newOf rs here f i)) (t_and (t_test (r_inN (K := K) (r_var rfl (.int _)) (r_var rfl hu2))) fun _ => t_B (r_is (r_dnotin (K := K) (kvs := kvT (f ++ newOf rs here f i)) (List.mem_cons_of_mem _ List.mem_cons_self) (r_var rfl (.int _)) (r_varE rfl)) (by rw [kvT_val]))) (fun hb => ?_) fun hb => ?_
      · rw [Bool.and_eq_true, decide_eq_true_eq, Bool.not_eq_true', decide_eq_false_iff_not] at hb
        have hc : here ∈ row rs i ∧ i ∉ f := ⟨hb.1, fun z => hb.2 (List.mem_append_left _ z)⟩
        refine RunS.perm (L' := [(d, .dK (kvT (f ++ newOf rs here f i))), (l, .lst (vN (wt' ++ newOf rs here f i)))]) ?_ (List.Perm.swap _ _ _)
        have hlen : (f ++ newOf rs here f i).length ≤ rs.length := by
          have z := D.next.len
          have y : (newOf rs here f i).length ≤ (newOf rs here f rs.length).length := ((List.range_sublist.mpr (Nat.le_of_lt hi)).filter _).length_le
          rw [List.length_append] at z ⊢
          omega
        refine q_dput (n := (i : Int)) (v := .bl true) (r_c rfl) (r_varE rfl) (r_var (R := Dt K (nI i)) rfl (Dp.int (K := K) _)) (by rw [kvT_len]; have := ok.le; omega) fun F5 e5 => ?_
        refine RunS.perm (L' := [(l, .lst (vN (wt' ++ newOf rs here f i))), (d, .dK (putK (kvT (f ++ newOf rs here f i)) (Sum.inl (i : Int)) (.bl true)))]) ?_ (List.Perm.swap _ _ _)
        refine s_app (R := Eqv (.int (i : Int))) (r_varE rfl) (r_varE rfl) (by
          simp only [vN, List.length_map, List.length_append, List.length_cons, List.length_nil] at hwf hlen ⊢
          have := ok.le
          omega) fun u F6 e6 hu => ?_
        cases hu
        refine ⟨_, _, rfl, ?_⟩
        rw [kvT_put hb.2, new_yes hc, ← List.append_assoc, ← List.append_assoc]
        simp [vN]
      · refine s_next fun F5 e5 => ⟨_, _, rfl, ?_⟩
        rw [new_no (fun hc => ?_)]
        rw [decide_eq_true hc.1, Bool.true_and, Bool.not_eq_false', decide_eq_true_eq] at hb
        rcases List.mem_append.mp hb with z | z
        · exact hc.2 z
        · exact hn z
    · rintro σ'' F4 L4 e4 ⟨o5', o6', rfl, rfl⟩
      rw [Rs.pairs_len, List.length_map, List.length_map]
      refine ⟨_, ?_, _, _, _, _, _, rfl, rfl, D.next, by simp only [List.length_append, List.length_cons, List.length_nil] at hwf ⊢; omega, rfl⟩
      have := D.next.len
      rw [List.length_append] at this ⊢
      rw [List.length_append, List.length_append]
      simp only [List.length_cons, List.length_nil]
      omega
  · have hw : wt = [] := by
      cases wt with
      | nil => rfl
      | cons a t => simp at hb
    subst hw
    refine s_ret ?_
    have q := r_sortedDI (K := K) (σ := [some v, some v1, some (.ref d), some (.ref l), o4, o5, o6]) (F := F2) (L := [(l, HO.lst (vN [])), (d, .dK (kvT f))]) (d := d) (kvs := kvT f) (ks := cI f) (List.mem_cons_of_mem _ List.mem_cons_self) (r_cons (r_varE (i := 2) rfl) r_nil) (by simp [kvT, cI]) (by rw [List.length_map]; have := D.len; have := ok.le; omega) (cI (reachL rs h)) (D.perm.map _) ((asc_cI asc_reachL).imp fun x => Int.le_of_lt x)
    exact r_is (r_tupD (r_cons q r_nil)) (dRow_int).symm
end
end Wb

namespace Wb
open PySem PySem.Spec PyProof.Rows L2 SlX StX Rs Ma
variable [Rs.Tabz]
local macro_rules | `(tactic| walk_at "rr") => `(tactic| (first
  | exact r_nil | exact r_int | exact r_bl | exact r_str
  | (refine r_var rfl ?_; assumption)
  | exact r_c rfl
  | (refine r_cons ?_ ?_ <;> walk_at "rr")))
def inRow (d : PyData) (h : Nat) : Bool := match d with
  | .tuple ds => decide ((h : Int) ∈ ds.map toI)
  | _ => false
def isHeardRow (d : PyData) (h n : Nat) : Bool := isRising d 0 ((n : Int) - 1) && !inRow d h
def fewIn : PyData → Prop
  | .tuple ds => ∀ x ∈ ds, few x
  | _ => True
def isHeard (d : PyData) : Bool := match d with
  | .tuple ds => (decide ((1 : Int) ≤ (ds.length : Int)) && decide ((ds.length : Int) ≤ 5)) && ds.zipIdx.all fun p => isHeardRow p.1 p.2 ds.length
  | _ => false
theorem rising_shape {d : PyData} {lo hi : Int} (h : isRising d lo hi = true) : ∃ ds, d = .tuple ds ∧ ds = (ds.map toI).map .int := by
  cases d with
  | tuple ds =>
    rw [isRising, Bool.and_eq_true] at h
    exact ⟨ds, rfl, all_ints h.1⟩
  | _ => cases h
theorem toI_cI {r : List Nat} : (r.map nI).map toI = cI r := by rw [List.map_map]; rfl
theorem rising_row {r : List Nat} {n : Nat} (h1 : Asc r) (h2 : ∀ x ∈ r, x < n) (hn : n ≤ 100) : isRising (dRow r) 0 ((n : Int) - 1) = true := by
  rw [isRising, toI_cI, decide_eq_true (asc_cI h1), Bool.and_true, List.all_eq_true]
  intro x hx
  obtain ⟨y, hy, rfl⟩ := List.mem_map.mp hx
  have := h2 y hy
  have hb : (100 : Int) < 10 ^ 60 := by decide
  rw [isBt, isInt]
  simp only [Bool.and_eq_true, decide_eq_true_eq]
  omega
theorem isHeard_rows {rs : Rows} (ok : Ok rs) : isHeard (dRows rs) = true := by
  have h1 := ok.pos
  have h2 := ok.le
  rw [isHeard, List.length_map, Bool.and_eq_true, Bool.and_eq_true]
  refine ⟨⟨decide_eq_true (by omega), decide_eq_true (by omega)⟩, ?_⟩
  rw [List.all_eq_true]
  rintro ⟨d, i⟩ hp
  rw [List.zipIdx_map] at hp
  obtain ⟨⟨r, j⟩, hq, e⟩ := List.mem_map.mp hp
  cases e
  have hq' := List.mem_zipIdx_iff_getElem?.mp hq
  have hm : r ∈ rs := List.mem_of_getElem? hq'
  have hr := rising_row (n := rs.length) (ok.asc r hm) (ok.lt r hm) (by omega)
  have hn : ((j : Int) ∈ (r.map nI).map toI) = False := eq_false (by rw [toI_cI, mem_cI]; exact ok.ne j r hq')
  show isHeardRow (dRow r) j rs.length = true
  rw [isHeardRow, hr, inRow, Bool.true_and, Bool.not_eq_true', decide_eq_false_iff_not]
  rw [hn]; exact not_false
section
variable {P : Program} {w : World} {K : PySem.W.Frag} {mg : Str → Option Value} {base : Heap}
abbrev spIsHeardRow (K : PySem.W.Frag) : Sp := SpF (γ := PyData × Nat × Nat) (fun g => few g.1) (fun g => [Dt K g.1, Dt K (nI g.2.1), Dt K (nI g.2.2)]) (fun g => Dt K (.bool (isHeardRow g.1 g.2.1 g.2.2)))
-- is_heard_row: 0:value 1:house 2:size
abbrev s_is_heard_row : Stmt := topS 12
abbrev N_is_heard_row : List Str := ["value", "house", "size"]
theorem sc_is_heard_row : FnScope N_is_heard_row ["value", "house", "size"] (defScope s_is_heard_row) := ⟨rfl, rfl, rfl, by decide +kernel, rfl, by decide +kernel, by decide +kernel⟩
theorem ok_is_heard_row {f : Addr} {fd : FuncData} (c_is_rising : Gf P w K mg base 3 "is_rising" (spIsRising K)) (F : Fun K "is_heard_row" "is_heard_row" s_is_heard_row f fd) (hm : mg "is_heard_row" = some (.ref f)) (b : Binds K fd ["value", "house", "size"] []) : Gf P w K mg base 4 "is_heard_row" (spIsHeardRow K) := by
  refine gf_mk F hm b sc_is_heard_row (fun _ => rfl) fun cdv A outer s H E ⟨d, h, n⟩ vs F0 hr hp hv => ?_
  obtain ⟨v, v1, v2, rfl, h1, h2, h3⟩ := each3 hv
  refine ⟨_, (pss_one (ps_ret (pe_and (p_call c_is_rising hr (by decide) (pa_cons (pv 0) (pa_cons pe_int (pa_cons (pe_op op_sub (pv 2) pe_int) pa_nil)))) (pe_one (pe_cmpR op_notIn_seq (pv 1) (pv 0) rfl))))), ?_⟩
  refine s_ret (r_and (r_call (d, 0, (n : Int) - 1) hp (r_cons (by walk_at "rr") (r_cons r_int (r_cons (r_I0i (by walk_at "rr") r_int) r_nil)))) fun hh => ?_)
  obtain ⟨ds, rfl, hd⟩ := rising_shape hh
  rw [inRow]
  refine r_notIn (by walk_at "rr") (r_var (R := Dt K (.tuple ((ds.map toI).map .int))) rfl (hd ▸ h1)) fun v F1 hq => seqI_t hq
abbrev spIsHeard (K : PySem.W.Frag) : Sp := SpF (γ := PyData) fewIn (fun g => [Dt K g]) (fun g => Dt K (.bool (isHeard g)))
-- is_heard: 0:value 1:house 2:row
abbrev s_is_heard : Stmt := topS 13
abbrev N_is_heard : List Str := ["value", "house", "row"]
theorem sc_is_heard : FnScope N_is_heard ["value"] (defScope s_is_heard) := ⟨rfl, rfl, rfl, by decide +kernel, rfl, by decide +kernel, by decide +kernel⟩
theorem ok_is_heard {f : Addr} {fd : FuncData} (B : Bf mg) (g_MAX_SIZE : GInt mg "MAX_SIZE" 5) (c_is_heard_row : Gf P w K mg base 4 "is_heard_row" (spIsHeardRow K)) (F : Fun K "is_heard" "is_heard" s_is_heard f fd) (hm : mg "is_heard" = some (.ref f)) (b : Binds K fd ["value"] []) : Gf P w K mg base 5 "is_heard" (spIsHeard K) := by
  refine gf_mk F hm b sc_is_heard (fun _ => rfl) fun cdv A outer s H E d vs F0 hr hp hv => ?_
  obtain ⟨v, rfl, h1⟩ := each1 hv
  refine ⟨_, (pss_cons (ps_if (PW.pt (pw_or (pt_not (pt_val (p_isi B (pa_cons (pv 0) (pa_cons (p_ty (by rfl) B.tuple boot_tuple) pa_nil))))) (pw_or1 (pt_not (pt_chain op_le op_le pe_int (p_len B (pa_cons (pv 0) pa_nil)) (p_gint g_MAX_SIZE))))))
        (pss_one (ps_ret pe_bl))
        pss_nil)
      (pss_one (ps_ret (p_all rfl B (pa_cons (pe_lc (own := [("house", 1), ("row", 2)]) (g := gTup K 2 (gCons (gName 1) (gCons (gName 2) gNil))) (tt := tYes) rfl sc_is_heard.nd (pi_enumT (by rfl) B.enumerate (pa_cons (pv 0) pa_nil)) (blkOk_by (N := N_is_heard) (sc := defScope s_is_heard) (by decide +kernel)) (fun _ _ _ _ _ => (pg_tup rfl (pgs_cons (pg_name (i := 1) sc_is_heard.nd rfl (by first | exact Or.inl rfl | exact Or.inr rfl)) (pgs_cons (pg_name (i := 2) sc_is_heard.nd rfl (by first | exact Or.inl rfl | exact Or.inr rfl)) pgs_nil)))) (fun _ _ _ _ _ => pts_nil) (fun _ _ _ _ _ => by exact (p_call c_is_heard_row hr (by decide) (pa_cons (pv 2) (pa_cons (pv 1) (pa_cons (p_lenK K B (pa_cons (pv 0) pa_nil)) pa_nil)))))) pa_nil))))), ?_⟩
  cases d with
  | tuple ds =>
    have hp' : ∀ x ∈ ds, few x := hp
    refine q_if (b := !(decide ((1 : Int) ≤ (ds.length : Int)) && decide ((ds.length : Int) ≤ 5))) (t_is (t_or (b := !(decide ((1 : Int) ≤ (ds.length : Int)) && decide ((ds.length : Int) ≤ 5))) (t_not (t_B (r_isiD (b := true) (by walk_at "rr") (by dsimp only [tyName]; decide +kernel)))) fun _ => t_not (t_test (r_chain r_int (r_lnTD (by walk_at "rr")) (by walk_at "rr")))) (by simp)) (fun hb => ?_) fun hb => ?_
    · refine q_ret (r_is r_bl ?_)
      rw [Bool.not_eq_true'] at hb
      rw [isHeard, hb]; rfl
    · rw [Bool.not_eq_false'] at hb
      have hl : ds.length ≤ 5 := by
        rw [Bool.and_eq_true, decide_eq_true_eq, decide_eq_true_eq] at hb
        omega
      refine q_next (s_ret ?_)
      refine r_is (r_all (bs := ds.zipIdx.map fun p => isHeardRow p.1 p.2 ds.length) (r_cons (r_ls (Run.weak (r_lcP (xs := ds.zipIdx) (f := fun _ => true) (R1 := fun p => Dt K (nI p.2)) (R2 := fun p => Dt K p.1) (Re := fun p => Dt K (.bool (isHeardRow p.1 p.2 ds.length)))
        (i_enumRows (f := fun x => x) (xs := ds) (r_is (r_var rfl h1) (by rw [List.map_id']))) (by rw [List.length_zipIdx]; omega) (fun _ _ => rfl) (fun p v1 v2 F1 e hx q1 q2 => t_yes) fun p v1 v2 F1 e hx q1 q2 _ => ?_) fun v F1 e hv => ?_)) r_nil)) ?_
      · have h1' := dp_up e h1
        have hm : p.1 ∈ ds := by
          have := List.mem_zipIdx_iff_getElem?.mp hx
          exact List.mem_of_getElem? this
        refine r_call (p.1, p.2, ds.length) (hp' _ hm) (r_cons (by walk_at "rr") (r_cons (by walk_at "rr") (r_cons (r_lnTD (by walk_at "rr")) r_nil)))
      · rw [List.map_map]
        rwa [List.filter_eq_self.mpr fun _ _ => rfl] at hv
      · rw [isHeard, hb, Bool.true_and, List.all_map]; rfl
  | _ =>
    refine q_if (b := true) (t_is (t_or (b := false) (t_not (t_B (r_isiD (b := false) (by walk_at "rr") (by dsimp only [tyName]; decide +kernel)))) fun h => nomatch h) rfl) (fun _ => ?_) fun h => nomatch h
    exact q_ret r_bl
/-! ### the class -/
noncomputable abbrev spWebInit (C : Addr) (K : PySem.W.Frag) : Sp := SpI C (γ := Rows) Ok (fun rs => [Dt K (dRows rs)]) (fun rs => webP C K rs)
theorem few_rows {rs : Rows} (ok : Ok rs) : fewIn (dRows rs) := by
  intro x hx
  obtain ⟨r, hr, rfl⟩ := List.mem_map.mp hx
  show (r.map nI).length ≤ 60
  rw [List.length_map]
  have := nodup_len _ _ (asc_nodup (ok.asc r hr)) (ok.lt r hr)
  have := ok.le
  omega
-- Web.__init__: 0:self 1:heard 2:house 3:row 4:other
abbrev s_Webu__initu_ : Stmt := inClass (topS 15) 1
abbrev N_Webu__initu_ : List Str := ["self", "heard", "house", "row", "other"]
theorem sc_Webu__initu_ : FnScope N_Webu__initu_ ["self", "heard"] (defScope s_Webu__initu_) := ⟨rfl, rfl, rfl, by decide +kernel, rfl, by decide +kernel, by decide +kernel⟩
theorem ok_web_init {f C_Web : Addr} {fd : FuncData} (B : Bf mg) (W : WebK K C_Web) (c_is_heard : Gf P w K mg base 5 "is_heard" (spIsHeard K)) (c_houses_from : Gf P w K mg base 1 "houses_from" (spHousesFrom K)) (F : Fun K "__init__" "Web.__init__" s_Webu__initu_ f fd) :
    FnOk P w K mg base CX0 6 f fd ["self", "heard"] (spWebInit C_Web K) := by
  refine init_ok F sc_Webu__initu_ (fun _ => rfl) fun cdv A outer s H E rs a dx vs F0 hr ok hv => ?_
  obtain ⟨v, rfl, h1⟩ := each1 hv
  refine ⟨_, (pss_cons (ps_if (pt_not (pt_val (p_call c_is_heard hr (by decide) (pa_cons (pv 1) pa_nil))))
        (pss_one ps_never)
        pss_nil)
      (pss_cons (ps_sl (pv 0) (pv 1))
      (pss_cons (ps_sl (pv 0) (p_len B (pa_cons (pv 1) pa_nil)))
      (pss_cons (ps_sl (pv 0) (p_tuple B (pa_cons (pe_lc (own := [("house", 2)]) (g := gName 2) (tt := tYes) rfl sc_Webu__initu_.nd (pi_range1 (by rfl) B.range (pa_cons (p_len B (pa_cons (pv 1) pa_nil)) pa_nil)) (blkOk_by (N := N_Webu__initu_) (sc := defScope s_Webu__initu_) (by decide +kernel)) (fun _ _ _ _ _ => (pg_name (i := 2) sc_Webu__initu_.nd rfl (by first | exact Or.inl rfl | exact Or.inr rfl))) (fun _ _ _ _ _ => pts_nil) (fun _ _ _ _ _ => by exact (p_call c_houses_from hr (by decide) (pa_cons (pv 1) (pa_cons (pv 2) pa_nil))))) pa_nil)))
      (pss_cons (ps_sl (pv 0) (p_tuple B (pa_cons (pe_lc (own := [("house", 2), ("row", 3)]) (g := gTup K 2 (gCons (gName 2) (gCons (gName 3) gNil))) rfl sc_Webu__initu_.nd (pi_enumT (by rfl) B.enumerate (pa_cons (pe_sl (pv 0)) pa_nil)) (blkOk_by (N := N_Webu__initu_) (sc := defScope s_Webu__initu_) (by decide +kernel)) (fun _ _ _ _ _ => (pg_tup rfl (pgs_cons (pg_name (i := 2) sc_Webu__initu_.nd rfl (by first | exact Or.inl rfl | exact Or.inr rfl)) (pgs_cons (pg_name (i := 3) sc_Webu__initu_.nd rfl (by first | exact Or.inl rfl | exact Or.inr rfl)) pgs_nil)))) (fun _ _ _ _ _ => (pts_one (pt_cmpR op_eq (p_lenK K B (pa_cons (pv 3) pa_nil)) (p_lenK K B (pa_cons (pv 1) pa_nil)) (nomark _)))) (fun _ _ _ _ _ => by exact (pv 2))) pa_nil)))
      (pss_one (ps_sl (pv 0) (p_tuple B (pa_cons (pe_lc2 (own := [("house", 2), ("row", 3), ("other", 4)]) (vs1 := [4]) (g := gTup K 2 (gCons (gName 2) (gCons (gName 3) gNil))) (g1 := gName 4) (tt := tYes) (tt1 := tYes) rfl sc_Webu__initu_.nd (pi_enumT (by rfl) B.enumerate (pa_cons (pv 1) pa_nil)) (blkOk_by (N := N_Webu__initu_) (sc := defScope s_Webu__initu_) (by decide +kernel)) (by decide) (fun _ _ _ _ _ => (pg_tup rfl (pgs_cons (pg_name (i := 2) sc_Webu__initu_.nd rfl (by first | exact Or.inl rfl | exact Or.inr rfl)) (pgs_cons (pg_name (i := 3) sc_Webu__initu_.nd rfl (by first | exact Or.inl rfl | exact Or.inr rfl)) pgs_nil)))) (fun _ _ _ _ _ => pts_nil) (fun _ _ _ _ _ => by exact (pi_tupK K (pv 3))) (fun _ _ _ _ _ => (pg_name (i := 4) sc_Webu__initu_.nd rfl (by first | exact Or.inl rfl | exact Or.inr rfl))) (fun _ _ _ _ _ => pts_nil) (fun _ _ _ _ _ => by exact (pe_tup (pa_cons (pv 2) (pa_cons (pv 4) pa_nil))))) pa_nil))))))))), ?_⟩
  have hl := ok.le
  refine q_if (t_not (t_B (r_call (dRows rs) (few_rows ok) (by walk_at "rr")))) (fun h => ?_) fun _ => q_next ?_
  · rw [isHeard_rows ok] at h; cases h
  refine q_slset (R := Dt K (dRows rs)) W.heard .new (r_varE rfl) (by walk_at "rr") fun x1 F1 e1 g1 => ?_
  refine q_slset W.size (.old _) (r_varE rfl) (r_lnN (r_cons (r_var rfl (dp_up e1 h1)) r_nil)) fun x2 F2 e2 g2 => ?_
  have a1 := e1.trans e2
  refine q_slset W.reached (.old _) (r_varE rfl) (R := Dt K (dRows (reachs rs))) (r_is (r_tupLn (xs := List.range rs.length) (f := fun i => dRow (reachL rs i)) (r_lcN (xs := List.range rs.length) (Ri := fun i => Dt K (nI i)) (Re := fun i => Dt K (dRow (reachL rs i))) (i_rangeN (r_lnN (r_cons (r_var rfl (dp_up a1 h1)) r_nil)) (by omega)) (by rw [List.length_range]; omega) (fun _ => rfl) fun i u G1 e hi hu => ?_)) reachs_data) fun x3 F3 e3 g3 => ?_
  · have h1' := dp_up (a1.trans e) h1
    exact r_call (rs, i) ⟨ok, List.mem_range.mp hi⟩ (by walk_at "rr")
  have a2 := a1.trans e3
  refine q_slset W.roots (.old _) (r_varE rfl) (R := Dt K (dRow (rootsN rs))) (r_is (r_tupLn (α := List Nat × Nat) (xs := (reachs rs).zipIdx.filter fun p => decide (p.1.length = rs.length)) (f := fun p => nI p.2) (r_lcP (ι := List Nat × Nat) (xs := (reachs rs).zipIdx) (f := fun p => decide (p.1.length = rs.length)) (R1 := fun p => Dt K (nI p.2)) (R2 := fun p => Dt K (dRow p.1)) (Re := fun p => Dt K (nI p.2))
    (i_enumRows (r_sown W.reached (r_varE rfl) List.mem_cons_self (List.mem_cons_of_mem _ List.mem_cons_self) (putS_get _ _ _) g3)) (by rw [List.length_zipIdx, reachs_len]; omega) (fun _ _ => rfl) (fun p v1 v2 G1 e hx q1 q2 => ?_) fun p v1 v2 G1 e hx q1 q2 _ => by walk_at "rr")) roots_data) fun x4 F4 e4 g4 => ?_
  · have h1' := dp_up (a2.trans e) h1
    exact t_test (r_eqN (r_lnN (by walk_at "rr")) (r_lnN (by walk_at "rr")))
  have a3 := a2.trans e4
  refine s_slset W.pairs (.old _) (r_varE rfl) (R := Dt K (.tuple ((pairsN rs).map dPair))) (r_is (r_tupLn (α := (List Nat × Nat) × Nat) (xs := flat (fun p : List Nat × Nat => p.1) rs.zipIdx) (f := fun q => dPair (q.1.2, q.2)) (r_lc2 (ι := List Nat × Nat) (κ := Nat) (xs := rs.zipIdx) (ys := fun p => p.1) (Ri := fun p => Tp K [Dt K (nI p.2), Dt K (dRow p.1)]) (Rj := fun p y => Dt K (nI y)) (Re := fun p y => Dt K (dPair (p.2, y)))
    (i_enumRows (r_var rfl (dp_up a3 h1))) (flat_len ok) fun p u G1 e hx hu => rg_pair hu fun v1 v2 G2 e2 q1 q2 => ⟨rfl, i_tupN (r_var rfl q2), fun y u2 G3 e3 hy q3 => rg_name fun G4 e4 => ⟨rfl, ?_⟩⟩)) (congrArg PyData.tuple pairs_flat)) fun x5 F5 e5 g5 => ?_
  · have q1' := dp_up (e3.trans e4) q1
    have q3' := dp_up e4 q3
    exact r_tpD (xs := [p.2, y]) (f := nI) (r_tup (Rs := [Dt K (nI p.2), Dt K (nI y)]) (by walk_at "rr") (by show 2 ≤ 100000; decide))
  · refine ⟨_, _, rfl, fun G e o1 o2 => ⟨ok, a, dx, _, [x1, x2, x3, x4, x5], rfl, o1, o2, ((((got_nil.put (by decide)).put (by decide)).put (by decide)).put (by decide)).put (by decide), ?_⟩⟩
    exact ⟨dp_up ((((e2.trans e3).trans e4).trans e5).trans e) g1, dp_up (((e3.trans e4).trans e5).trans e) g2, dp_up ((e4.trans e5).trans e) g3, dp_up (e5.trans e) g4, dp_up e g5, True.intro⟩
end
end Wb

namespace Rs
open PySem PySem.Spec PyProof.Rows L2 SlX StX Ma
variable [Rs.Tabz]
section
variable {K : PySem.W.Frag} {w : World} {σ : L2.St} {F : Hp} {L : Cells} {te ta tb : TE} {t : TA} {C : Addr} {rs qs : Rows}
theorem cI_data {ns : List Nat} : (ns.map nI) = (cI ns).map PyData.int := row_int
theorem r_sortedN {ns os : List Nat} (h : Run (te σ) F L (Dt K (.list (ns.map nI)))) (hl : ns.length < 64) (h1 : os.Perm ns) (h2 : Asc os) : Run (tCB (rSorted K) (tCons te tNil) σ) F L (Dt K (.list (os.map nI))) := by
  rw [cI_data] at h ⊢
  refine r_sortedI (r_cons h r_nil) (fun v F1 hv => ?_) (by rw [List.length_map]; exact hl) (cI os) (h1.map _) ((asc_cI h2).imp fun x => Int.le_of_lt x)
  obtain ⟨a, vs, rfl, hs, hr⟩ := ls_dt.mpr hv
  have := vs_ints (each_dt.mp hr)
  subst this
  exact ⟨a, rfl, hs⟩
theorem r_isiS {S : VP} (W : WebK K C) [Mono S] (hS : ∀ v F1, S v F1 → IsOb C v F1) (h : Run (t σ) F L (Each [S, Eqv (.ref C)])) : Run (tCB (fun xs H Q => rIsi K xs H Q ∨ rIsiSl K (.ref C) xs H Q) t σ) F L (Dt K (.bool true)) := r_cb h fun vs F1 e1 hv => by
  obtain ⟨v, u, rfl, h1, h2⟩ := each2 hv
  cases h2
  obtain ⟨a, dx, vs, rfl, q1, q2⟩ := hS _ _ h1
  exact fun F2 N H e2 A Q q => .inr ⟨a, C, dx, vs, .ref C, true, rfl, rfl, fun w hw => hw, at_slt A (e2 _ _ q1) (e2 _ _ q2), W.sc, W.si, W.kit, q _ F2 H (Same.refl _) A (.bl true)⟩
theorem eqv_row {a b : List Nat} : PyData.eqv (dRow a) (dRow b) = decide (a = b) := by
  rw [dRow_int, dRow_int, eqv_tupI]
  exact decide_eq_decide.mpr cI_inj
theorem eqv_rows : PyData.eqv (dRows rs) (dRows qs) = decide (rs = qs) := by
  rw [PyData.eqv]; exact eqvAll_of fun a b => eqv_row
theorem lay_row {a : List Nat} : (dRow a).canLay0 = true := by rw [dRow_int, PyData.canLay0]; exact lay_ints
theorem dep_row {a : List Nat} : (dRow a).depth ≤ 1 := by rw [dRow_int, PyData.depth, dep_ints]; decide
theorem sh_rows : SeqAt.shaped (dRows rs) = true := shaped_of (by rw [PyData.canLay0]; exact lay_all fun a => lay_row) (by rw [PyData.depth]; have := dep_all (f := dRow) (k := 1) (fun a => dep_row) (xs := rs); omega)
end
end Rs
namespace Wb
open PySem PySem.Spec PyProof.Rows L2 SlX StX Rs Ma
variable [Rs.Tabz]
local macro_rules | `(tactic| walk_at "rr") => `(tactic| (first
  | exact r_nil | exact r_int | exact r_bl | exact r_str
  | (refine r_var rfl ?_; assumption)
  | exact r_c rfl
  | (refine r_cons ?_ ?_ <;> walk_at "rr")))
section
variable {P : Program} {w : World} {K : PySem.W.Frag} {mg : Str → Option Value} {base : Heap} {C_Web : Addr}
noncomputable abbrev spHeardBy (C_Web : Addr) (K : PySem.W.Frag) : Sp := SpF (γ := Rows × Nat) (fun g => g.2 < g.1.length) (fun g => [webP C_Web K g.1, Dt K (nI g.2)]) (fun g => Dt K (dRow (hbL g.1 g.2)))
-- heard_by: 0:web 1:house
abbrev s_heard_by : Stmt := topS 16
abbrev N_heard_by : List Str := ["web", "house"]
theorem sc_heard_by : FnScope N_heard_by ["web", "house"] (defScope s_heard_by) := ⟨rfl, rfl, rfl, by decide +kernel, rfl, by decide +kernel, by decide +kernel⟩
theorem ok_heard_by {f : Addr} {fd : FuncData} (B : Bf mg) (W : WebK K C_Web) (F : Fun K "heard_by" "heard_by" s_heard_by f fd) (hm : mg "heard_by" = some (.ref f)) (b : Binds K fd ["web", "house"] []) : Gf P w K mg base 1 "heard_by" (spHeardBy C_Web K) := by
  refine gf_mk F hm b sc_heard_by (fun _ => rfl) fun cdv A outer s H E ⟨rs, h⟩ vs F0 hr hp hv => ?_
  obtain ⟨v, v1, rfl, h1, h2⟩ := each2 hv
  refine ⟨_, (pss_one (ps_ret (p_tuple B (pa_cons (p_sortedL B (pa_cons (pe_lst (pa_star (pe_ix ix_tup (pe_sl (pv 0)) (pv 1) (fun _ _ => rfl)) (pa_cons (pv 1) pa_nil))) pa_nil)) pa_nil)))), ?_⟩
  have hh : h < rs.length := hp
  have ok : Ok rs := h1.1
  have q := r_lst (Rs := (row rs h ++ [h]).map fun x => Dt K (nI x)) (F := F0) (L := []) (σ := start N_heard_by [v, v1]) (t := tStar K (tOp (rIxT K) (SlX.tSl K (tVar 0) "own_heard") (tVar 1)) (tCons (tVar 1) tNil)) (by
    have := r_star (K := K) (r_rowN (r_heard W (r_var (R := webP C_Web K rs) (σ := start N_heard_by [v, v1]) (i := 0) (F := F0) (L := []) rfl h1)) (r_var (i := 1) rfl h2) hh) (r_cons (r_var (i := 1) rfl h2) r_nil)
    rw [List.map_append]
    rwa [List.map_map] at this) (by
      rw [List.length_map, ← (hb_perm ok hh).length_eq]
      have := hb_len (rs := rs) (h := h)
      have := ok.le
      omega)
  refine s_ret (r_tupD (r_cons (r_sortedN (r_lnD q) ?_ (hb_perm ok hh) asc_hb) r_nil))
  rw [← (hb_perm ok hh).length_eq]
  have := hb_len (rs := rs) (h := h)
  have := ok.le
  omega
noncomputable abbrev spRequireHouse (C_Web : Addr) (K : PySem.W.Frag) : Sp := SpF (γ := Rows × Nat) (fun g => g.2 < g.1.length) (fun g => [webP C_Web K g.1, Dt K (nI g.2)]) (fun g => Dt K .none)
theorem bt_nat {h n : Nat} (hh : h < n) (hn : n ≤ 100) : isBt (nI h) 0 ((n : Int) - 1) = true := by
  have hb : (100 : Int) < 10 ^ 60 := by decide
  rw [isBt, isInt]
  simp only [Bool.and_eq_true, decide_eq_true_eq]
  omega
-- require_house: 0:web 1:house
abbrev s_require_house : Stmt := topS 17
abbrev N_require_house : List Str := ["web", "house"]
theorem sc_require_house : FnScope N_require_house ["web", "house"] (defScope s_require_house) := ⟨rfl, rfl, rfl, by decide +kernel, rfl, by decide +kernel, by decide +kernel⟩
theorem ok_require_house {f : Addr} {fd : FuncData} (W : WebK K C_Web) (c_require_number : Gf P w K mg base 3 "require_number" (spRequireNumber K)) (F : Fun K "require_house" "require_house" s_require_house f fd) (hm : mg "require_house" = some (.ref f)) (b : Binds K fd ["web", "house"] []) : Gf P w K mg base 4 "require_house" (spRequireHouse C_Web K) := by
  refine gf_mk F hm b sc_require_house (fun _ => rfl) fun cdv A outer s H E ⟨rs, h⟩ vs F0 hr hp hv => ?_
  obtain ⟨v, v1, rfl, h1, h2⟩ := each2 hv
  refine ⟨_, (pss_one (ps_expr (p_call c_require_number hr (by decide) (pa_cons (pv 1) (pa_cons pe_int (pa_cons (pe_op op_sub (pe_sl (pv 0)) pe_int) pa_nil)))))), ?_⟩
  have hh : h < rs.length := hp
  have ok : Ok rs := h1.1
  have hl := ok.le
  exact s_drop (r_call (nI h, 0, (rs.length : Int) - 1) (bt_nat hh (by omega)) (r_cons (by walk_at "rr") (r_cons r_int (r_cons (r_I0i (r_size W (by walk_at "rr")) r_int) r_nil)))) fun F1 e => .non
end
end Wb

namespace Wb
open PySem PySem.Spec PyProof.Rows L2 SlX StX Rs Ma
variable [Rs.Tabz]
local macro_rules | `(tactic| walk_at "rr") => `(tactic| (first
  | exact r_nil | exact r_int | exact r_bl | exact r_str
  | (refine r_var rfl ?_; assumption)
  | exact r_c rfl
  | (refine r_cons ?_ ?_ <;> walk_at "rr")))
section
variable {P : Program} {w : World} {K : PySem.W.Frag} {mg : Str → Option Value} {base : Heap} {C_Web : Addr}
noncomputable abbrev spProp (C_Web : Addr) (K : PySem.W.Frag) (R : Rows → VP) : Sp := SpF (γ := Rows) (fun _ => True) (fun g => [webP C_Web K g]) R
-- Web.heard: 0:self
abbrev s_Web_heard : Stmt := inClass (topS 15) 2
abbrev N_Web_heard : List Str := ["self"]
theorem sc_Web_heard : FnScope N_Web_heard ["self"] (defScope s_Web_heard) := ⟨rfl, rfl, rfl, by decide +kernel, rfl, by decide +kernel, by decide +kernel⟩
theorem ok_heard {f : Addr} {fd : FuncData} (W : WebK K C_Web) (F : Fun K "heard" "Web.heard" s_Web_heard f fd) : FnOk P w K mg base CX0 1 f fd ["self"] (spProp C_Web K fun rs => Dt K (dRows rs)) := by
  refine gf_ok F sc_Web_heard (fun _ => rfl) fun cdv A outer s H E rs vs F0 hr hp hv => ?_
  obtain ⟨v, rfl, h1⟩ := each1 hv
  exact ⟨_, (pss_one (ps_ret (pe_sl (pv 0)))), s_ret (r_heard W (by walk_at "rr"))⟩
-- Web.size: 0:self
abbrev s_Web_size : Stmt := inClass (topS 15) 3
abbrev N_Web_size : List Str := ["self"]
theorem sc_Web_size : FnScope N_Web_size ["self"] (defScope s_Web_size) := ⟨rfl, rfl, rfl, by decide +kernel, rfl, by decide +kernel, by decide +kernel⟩
theorem ok_size {f : Addr} {fd : FuncData} (W : WebK K C_Web) (F : Fun K "size" "Web.size" s_Web_size f fd) : FnOk P w K mg base CX0 1 f fd ["self"] (spProp C_Web K fun rs => Dt K (nI rs.length)) := by
  refine gf_ok F sc_Web_size (fun _ => rfl) fun cdv A outer s H E rs vs F0 hr hp hv => ?_
  obtain ⟨v, rfl, h1⟩ := each1 hv
  exact ⟨_, (pss_one (ps_ret (pe_sl (pv 0)))), s_ret (r_size W (by walk_at "rr"))⟩
-- Web.roots: 0:self
abbrev s_Web_roots : Stmt := inClass (topS 15) 4
abbrev N_Web_roots : List Str := ["self"]
theorem sc_Web_roots : FnScope N_Web_roots ["self"] (defScope s_Web_roots) := ⟨rfl, rfl, rfl, by decide +kernel, rfl, by decide +kernel, by decide +kernel⟩
theorem ok_roots {f : Addr} {fd : FuncData} (W : WebK K C_Web) (F : Fun K "roots" "Web.roots" s_Web_roots f fd) : FnOk P w K mg base CX0 1 f fd ["self"] (spProp C_Web K fun rs => Dt K (dRow (rootsN rs))) := by
  refine gf_ok F sc_Web_roots (fun _ => rfl) fun cdv A outer s H E rs vs F0 hr hp hv => ?_
  obtain ⟨v, rfl, h1⟩ := each1 hv
  exact ⟨_, (pss_one (ps_ret (pe_sl (pv 0)))), s_ret (r_roots W (by walk_at "rr"))⟩
-- Web.parts: 0:self 1:found 2:house 3:row 4:part 5:other
abbrev s_Web_parts : Stmt := inClass (topS 15) 5
abbrev N_Web_parts : List Str := ["self", "found", "house", "row", "part", "other"]
theorem sc_Web_parts : FnScope N_Web_parts ["self"] (defScope s_Web_parts) := ⟨rfl, rfl, rfl, by decide +kernel, rfl, by decide +kernel, by decide +kernel⟩
theorem ok_parts {f : Addr} {fd : FuncData} (B : Bf mg) (W : WebK K C_Web) (F : Fun K "parts" "Web.parts" s_Web_parts f fd) : FnOk P w K mg base CX0 1 f fd ["self"] (spProp C_Web K fun rs => Dt K (.tuple ((partsI (reachs rs)).map dI))) := by
  refine gf_ok F sc_Web_parts (fun _ => rfl) fun cdv A outer s H E rs vs F0 hr hp hv => ?_
  obtain ⟨v, rfl, h1⟩ := each1 hv
  refine ⟨_, (pss_cons (ps_set (i := 1) sc_Web_parts.nd rfl (by first | exact Or.inl rfl | exact Or.inr rfl) pe_dnewT)
      (pss_cons (ps_for PassesOwn.never rfl (pi_enumT (by rfl) B.enumerate (pa_cons (pe_sl (pv 0)) pa_nil)) (pg_tup rfl (pgs_cons (pg_name (i := 2) sc_Web_parts.nd rfl (by first | exact Or.inl rfl | exact Or.inr rfl)) (pgs_cons (pg_name (i := 3) sc_Web_parts.nd rfl (by first | exact Or.inl rfl | exact Or.inr rfl)) pgs_nil)))
        (pss_cons (ps_set (i := 4) sc_Web_parts.nd rfl (by first | exact Or.inl rfl | exact Or.inr rfl) (p_tuple B (pa_cons (pe_lc (own := [("other", 5)]) (g := gName 5) rfl sc_Web_parts.nd (pi_tup (pv 3)) (blkOk_by (N := N_Web_parts) (sc := defScope s_Web_parts) (by decide +kernel)) (fun _ _ _ _ _ => (pg_name (i := 5) sc_Web_parts.nd rfl (by first | exact Or.inl rfl | exact Or.inr rfl))) (fun _ _ _ _ _ => (pts_one (pt_cmpR (op_in_seqK K) (pv 2) (pe_ix (ix_tupK K) (pe_slK K (pv 0)) (pv 5) (fun _ _ => rfl)) rfl))) (fun _ _ _ _ _ => by exact (pv 5))) pa_nil)))
        (pss_one (ps_dput (hu_of hr) (pv 1) (pv 4) pe_bl rfl))))
      (pss_one (ps_ret (p_tuple B (pa_cons (p_sortedDT rfl hr.units B (pa_cons (pv 1) pa_nil)) pa_nil)))))), ?_⟩
  have ok : Ok rs := h1.1
  have hl := ok.le
  refine q_setX (Px := fun x F1 L1 => ∃ d, x = .ref d ∧ L1 = [(d, .dT [])]) (x_dnewT fun p F1 e => ⟨p, rfl, rfl⟩) ?_
  rintro x F1 L1 e1 ⟨d, rfl, rfl⟩
  refine q_for (fun i σ' F' L' => ∃ o2 o3 o4 o5, σ' = [some v, some (.ref d), o2, o3, o4, o5] ∧ L' = [(d, .dT (kvP (keysOf (reachs rs) i)))])
    (i_enumRows (xs := reachs rs) (f := dRow) (r_reached W (r_var rfl (Mono.go h1 e1)))) (fun F2 e2 => ⟨_, _, _, _, rfl, rfl⟩) (fun _ _ _ _ _ _ z => z) ?_ ?_
  · rintro i S x σ' F2 L2 e2 hS hx ⟨o2, o3, o4, o5, rfl, rfl⟩
    have hi : i < (reachs rs).length := by
      have := (List.getElem?_eq_some_iff.mp hS).1
      rwa [List.length_map, List.length_zipIdx] at this
    have hir : i < rs.length := by rwa [reachs_len] at hi
    rw [List.getElem?_map, List.getElem?_zipIdx, get_row hi] at hS
    cases hS
    have h1' := Mono.go h1 (e1.trans e2)
    refine g_pair hx fun u1 u2 hu1 hu2 => ?_
    have hq1 : Dt K (nI i) u1 F2 := by
      have z := hu1
      simp only [Nat.zero_add] at z
      exact z
    refine q_set (R := Tn ((partOf (reachs rs) i).map fun y => Dt K (nI y))) (r_tupTn (r_cons (r_ls (r_lcF (ι := Nat) (xs := row (reachs rs) i) (f := fun o => decide (i ∈ row (reachs rs) o)) (Ri := fun y => Dt K (nI y)) (Re := fun y => Dt K (nI y))
      (i_tupN (xs := row (reachs rs) i) (f := nI) (r_var rfl hu2)) ?_ (fun _ => rfl) (fun y u G1 e hy hu => ?_) fun y u G1 e hy hu _ => r_var rfl hu)) r_nil)) fun x3 F3 e3 h3 => ?_
    · rw [reachs_row hir]
      have := len_reachL (rs := rs) (h := i)
      omega
    · have hy' : y < (reachs rs).length := by
        rw [reachs_row hir] at hy
        rw [reachs_len]; exact (mem_reachL.mp hy).1
      exact t_test (r_inN (r_var rfl (dp_up e hq1)) (r_rowN (r_reached W (r_var rfl (Mono.go h1' e))) (r_var rfl hu) hy'))
    · refine s_dputT (k := cI (partOf (reachs rs) i)) (v := .bl true) (r_c rfl) (r_varE rfl) (r_var (R := Tn ((partOf (reachs rs) i).map fun y => Dt K (nI y))) rfl h3) (fun x F4 hx4 => ?_) ?_ fun F4 e4 => ⟨_, _, _, _, rfl, ?_⟩
      · obtain ⟨b, ws, rfl, hb, hw⟩ := hx4
        have hw2 := each_map_dt.mp hw
        rw [row_int] at hw2
        have := vs_ints (each_dt.mp hw2)
        rw [this] at hb
        exact ⟨b, rfl, hb⟩
      · unfold kvP
        rw [List.length_map]
        have := keys_len (re := reachs rs) i
        omega
      · rw [kvP_put]; rfl
  · rintro σ' F2 L2 e2 ⟨o2, o3, o4, o5, rfl, rfl⟩
    rw [List.length_map, List.length_zipIdx]
    refine s_ret (r_tupD (r_cons (r_sortedDT (d := d) (ks := (keysOf (reachs rs) (reachs rs).length).map cI) List.mem_cons_self (r_cons (r_varE (i := 1) rfl) r_nil) kvP_keys ?_ ?_ (partsI (reachs rs)) parts_perm parts_sorted) r_nil))
    · rw [List.length_map]
      have := keys_len (re := reachs rs) (reachs rs).length
      rw [reachs_len] at this ⊢
      omega
    · intro k hk
      obtain ⟨r, hr, rfl⟩ := List.mem_map.mp hk
      obtain ⟨h, hh, rfl⟩ := mem_keys.mp hr
      rw [reachs_len] at hh
      have := part_self hh
      intro z
      rw [List.map_eq_nil_iff] at z
      rw [z] at this; cases this
noncomputable abbrev spHears (C_Web : Addr) (K : PySem.W.Frag) : Sp := SpF (γ := Rows × Nat) (fun g => g.2 < g.1.length) (fun g => [webP C_Web K g.1, Dt K (nI g.2)]) (fun g => Dt K (dRow (hbL g.1 g.2)))
-- Web.hears: 0:self 1:house
abbrev s_Web_hears : Stmt := inClass (topS 15) 6
abbrev N_Web_hears : List Str := ["self", "house"]
theorem sc_Web_hears : FnScope N_Web_hears ["self", "house"] (defScope s_Web_hears) := ⟨rfl, rfl, rfl, by decide +kernel, rfl, by decide +kernel, by decide +kernel⟩
theorem ok_hears {f : Addr} {fd : FuncData} (c_require_house : Gf P w K mg base 4 "require_house" (spRequireHouse C_Web K)) (c_heard_by : Gf P w K mg base 1 "heard_by" (spHeardBy C_Web K)) (F : Fun K "hears" "Web.hears" s_Web_hears f fd) : FnOk P w K mg base CX0 5 f fd ["self", "house"] (spHears C_Web K) := by
  refine gf_ok F sc_Web_hears (fun _ => rfl) fun cdv A outer s H E ⟨rs, h⟩ vs F0 hr hp hv => ?_
  obtain ⟨v, v1, rfl, h1, h2⟩ := each2 hv
  refine ⟨_, (pss_cons (ps_expr (p_call c_require_house hr (by decide) (pa_cons (pv 0) (pa_cons (pv 1) pa_nil))))
      (pss_one (ps_ret (p_call c_heard_by hr (by decide) (pa_cons (pv 0) (pa_cons (pv 1) pa_nil)))))), ?_⟩
  refine q_drop (r_call (rs, h) hp (by walk_at "rr")) fun F1 e1 => ?_
  have h1' := Mono.go h1 e1
  have h2' := Mono.go h2 e1
  exact s_ret (r_call (rs, h) hp (by walk_at "rr"))
noncomputable abbrev spEq (C_Web : Addr) (K : PySem.W.Frag) : Sp := SpF (γ := Rows × Rows) (fun _ => True) (fun g => [webP C_Web K g.1, webP C_Web K g.2]) (fun g => Dt K (.bool (decide (g.1 = g.2))))
-- Web.__eq__: 0:self 1:other
abbrev s_Webu__equ_ : Stmt := inClass (topS 15) 17
abbrev N_Webu__equ_ : List Str := ["self", "other"]
theorem sc_Webu__equ_ : FnScope N_Webu__equ_ ["self", "other"] (defScope s_Webu__equ_) := ⟨rfl, rfl, rfl, by decide +kernel, rfl, by decide +kernel, by decide +kernel⟩
theorem ok_eq {f : Addr} {fd : FuncData} (B : Bf mg) (W : WebK K C_Web) (m_Web : mg "Web" = some (.ref C_Web)) (F : Fun K "__eq__" "Web.__eq__" s_Webu__equ_ f fd) : FnOk P w K mg base CX0 1 f fd ["self", "other"] (spEq C_Web K) := by
  refine gf_ok F sc_Webu__equ_ (fun _ => rfl) fun cdv A outer s H E ⟨rs, qs⟩ vs F0 hr hp hv => ?_
  obtain ⟨v, v1, rfl, h1, h2⟩ := each2 hv
  refine ⟨_, (pss_one (ps_ret (pe_and (p_isiS (.ref C_Web) B (pa_cons (pv 1) (pa_cons (p_cls (by rfl) m_Web) pa_nil))) (pe_one (pe_cmpR (op_eqD hr.units) (pe_sl (pv 0)) (pe_sl (pv 1)) (nomark _)))))), ?_⟩
  exact s_ret (r_and (a := true) (b := decide (rs = qs)) (r_isiS W (fun _ _ => webP.is) (r_cons (r_var rfl h2) (r_cons (r_c rfl) r_nil))) fun _ => r_is (r_eqD (r_heard W (by walk_at "rr")) (r_heard W (by walk_at "rr")) sh_rows sh_rows) (by rw [eqv_rows]))
end
end Wb

namespace Wb
open PySem PySem.Spec PyProof.Rows L2 SlX StX Rs Ma
variable [Rs.Tabz]
local macro_rules | `(tactic| walk_at "rr") => `(tactic| (first
  | exact r_nil | exact r_int | exact r_bl | exact r_str
  | (refine r_var rfl ?_; assumption)
  | exact r_c rfl
  | (refine r_cons ?_ ?_ <;> walk_at "rr")))
section
variable {P : Program} {w : World} {K : PySem.W.Frag} {mg : Str → Option Value} {base : Heap} {C_Web : Addr}
/-! ### the cask -/
abbrev spCask (K : PySem.W.Frag) : Sp := SpF (γ := List Int × Nat) (fun g => g.1.length ≤ 63) (fun g => [Dt K (.list (g.1.map .int)), Dt K (nI g.2)]) (fun _ => Ck 3)
-- _law_cask: 0:_law_script 1:_law_at 2:_law_cell 3:_law_great 4:_law_seed
abbrev s__law_cask : Stmt := topS 19
abbrev N__law_cask : List Str := ["_law_script", "_law_at", "_law_cell", "_law_great", "_law_seed"]
theorem sc__law_cask : FnScope N__law_cask ["_law_script", "_law_at"] (defScope s__law_cask) := ⟨rfl, rfl, rfl, by decide +kernel, rfl, by decide +kernel, by decide +kernel⟩
theorem ok_cask {f : Addr} {fd : FuncData} (B : Bf mg) (F : Fun K "_law_cask" "_law_cask" s__law_cask f fd) (hm : mg "_law_cask" = some (.ref f)) (b : Binds K fd ["_law_script", "_law_at"] []) : Gf P w K mg base 1 "_law_cask" (spCask K) := by
  refine ⟨f, fd, _, ck_new F sc__law_cask (fun _ => rfl) fun cdv A outer s H E ⟨ns, at_⟩ vs F0 hr hp hv => ?_, hm, F.kp, b⟩
  obtain ⟨v, v1, rfl, h1, h2⟩ := each2 hv
  have h1 : Dt K (.list (ns.map .int)) v F0 := h1
  refine ⟨_, (pss_cons (ps_set (i := 2) sc__law_cask.nd rfl (by first | exact Or.inl rfl | exact Or.inr rfl) (pe_ifExp (pt_cmpR op_lt (pv 1) (p_len B (pa_cons (pv 0) pa_nil)) (nomark _)) (pe_ix ix_list (pv 0) (pv 1) (fun _ _ => rfl)) (pe_op op_add (pe_op op_mul pe_int (pv 1)) pe_int)))
      (pss_cons (ps_set (i := 3) sc__law_cask.nd rfl (by first | exact Or.inl rfl | exact Or.inr rfl) (pe_op op_mod (p_int B (pa_cons (p_abs B (pa_cons (pv 2) pa_nil)) pa_nil)) (pe_op Nq.op_powX (pe_op Nq.op_powX pe_int pe_int) pe_int)))
      (pss_cons (ps_set (i := 4) sc__law_cask.nd rfl (by first | exact Or.inl rfl | exact Or.inr rfl) (pe_op op_mod (p_int B (pa_cons (pe_op op_add (pe_op op_add (pe_op op_add (pv 3) (pe_op op_mul pe_int (pv 1))) (pe_op op_mul pe_int (p_int B (pa_cons (pe_cmpR op_lt (pv 2) pe_int (nomark _)) pa_nil)))) pe_int) pa_nil)) (pe_op op_add (pe_op Nq.op_powX pe_int pe_int) pe_int)))
      (pss_one (ps_ret (pe_lst (pa_cons (pe_ifExp (pt_cmpR op_gt (pv 3) (pe_op Nq.op_powX pe_int pe_int) (nomark _)) (pe_op op_sub (pv 3) (pe_op Nq.op_powX pe_int pe_int)) pe_int) (pa_cons (pv 4) (pa_cons pe_int pa_nil))))))))), ?_⟩
  refine q_set (R := IntV) (r_if (b := decide (at_ < ns.length)) (t_is (t_test (r_I0b (by walk_at "rr") (r_is (r_lnLD (r_var rfl h1)) (by rw [List.length_map])))) (decide_eq_decide.mpr (by omega))) (fun hb => ?_) fun _ => a_op0 (a_mulL (r_int (K := K)) (r_any (by walk_at "rr")) ⟨by decide, by decide⟩) r_anyI) fun x2 F2 e2 h3 => ?_
  · rw [decide_eq_true_eq] at hb
    exact r_any (r_ixL (d := .int ns[at_]) (by walk_at "rr") (by walk_at "rr") (by rw [List.getElem?_map, List.getElem?_eq_getElem hb]; rfl))
  refine q_set (R := IntV) (a_modI (m := (10 ^ 60) ^ 8) (a_int (r_cons (a_abs (r_cons (r_var rfl h3) r_nil)) r_nil)) (r_Ii (f := fun i j => i ^ j.toNat) (r_Ii (f := fun i j => i ^ j.toNat) (r_int (K := K)) (r_int (K := K)) ⟨by decide, by decide +kernel⟩) (r_int (K := K)) ⟨by decide, by decide +kernel⟩) (by decide +kernel)) fun x3 F3 e3 h4 => ?_
  have h3' := Mono.go h3 e3
  refine q_set (R := IntV) (a_modI (m := 10 ^ 18 + 9) (a_int (r_cons (a_op0 (a_op0 (a_op0 (r_var rfl h4) (a_mulL (r_int (K := K)) (r_any (r_var (R := Dt K (nI at_)) rfl (dp_up (e2.trans e3) h2))) ⟨by decide, by decide⟩)) (a_mulL (r_int (K := K)) (a_intB (r_cons (a_cmp (r_var rfl h3') r_anyI) r_nil)) ⟨by decide, by decide⟩)) r_anyI) r_nil)) (r_I0i (r_Ii (f := fun i j => i ^ j.toNat) (r_int (K := K)) (r_int (K := K)) ⟨by decide, by decide +kernel⟩) (r_int (K := K))) (by decide +kernel)) fun x4 F4 e4 h5 => ?_
  have h4' := Mono.go h4 e4
  refine s_ret ((r_lstN (Rs := [IntV, IntV, IntV]) (r_cons (a_if (a_test (a_cmp (r_var rfl h4') (r_any (r_Ii (f := fun i j => i ^ j.toNat) (r_int (K := K)) (r_int (K := K)) ⟨by decide, by decide +kernel⟩)))) (a_op0 (r_var rfl h4') (r_any (r_Ii (f := fun i j => i ^ j.toNat) (r_int (K := K)) (r_int (K := K)) ⟨by decide, by decide +kernel⟩))) r_anyI) (r_cons (r_var rfl h5) (r_cons r_anyI r_nil))) (by show 3 ≤ 100000; decide)).weak fun v F5 e5 ⟨a, vs, q1, q2, q3, q4⟩ => ?_)
  obtain ⟨y1, y2, y3, rfl, ⟨i1, rfl⟩, ⟨i2, rfl⟩, ⟨i3, rfl⟩⟩ := each3 q3
  exact ⟨a, [i1, i2, i3], q1, q2, rfl, ((e2.trans e3).trans e4).free q4⟩
-- _law_scoop: 0:_law_cask_here 1:_law_total 2:_law_found 3:_law_one 4:_law_two 5:_law_three
abbrev s__law_scoop : Stmt := topS 20
abbrev N__law_scoop : List Str := ["_law_cask_here", "_law_total", "_law_found", "_law_one", "_law_two", "_law_three"]
theorem sc__law_scoop : FnScope N__law_scoop ["_law_cask_here", "_law_total"] (defScope s__law_scoop) := ⟨rfl, rfl, rfl, by decide +kernel, rfl, by decide +kernel, by decide +kernel⟩
theorem ok_scoop {f : Addr} {fd : FuncData} (B : Bf mg) (F : Fun K "_law_scoop" "_law_scoop" s__law_scoop f fd) (hm : mg "_law_scoop" = some (.ref f)) (b : Binds K fd ["_law_cask_here", "_law_total"] []) : Gf P w K mg base 1 "_law_scoop" (SpF (γ := Nat) (fun t => 1 ≤ t ∧ t ≤ 1000) (fun t => [Ck 3, Dt K (nI t)]) Bd) := by
  refine ⟨f, fd, _, ck_fn (Rs := fun t => [Dt K (nI t)]) (by decide) (fun g v F F' h => h) (fun g vs F F' h => ?_) (cell_ok F sc__law_scoop (fun _ => rfl) fun cdv A outer s H E t a xs vs F0 hr ⟨hp1, hp2⟩ hx hv => ?_) (fun _ => rfl), hm, F.kp, b⟩
  · obtain ⟨v, rfl, hv⟩ := each1 h
    cases hv
    exact ⟨.int _, True.intro⟩
  obtain ⟨v1, rfl, h2⟩ := each1 hv
  cases h2
  have h2 : ∀ F, Dt K (nI t) (.int (t : Int)) F := fun F => .int _
  obtain ⟨x, y, z, rfl⟩ : ∃ x y z, xs = [x, y, z] := by
    match xs, hx with
    | [x, y, z], _ => exact ⟨x, y, z, rfl⟩
  refine ⟨_, (pss_cons (ps_if (pt_cmpR op_gt (pe_ix ix_list (pv 0) pe_int (fun _ _ => rfl)) pe_int (nomark _))
        (pss_cons (ps_set (i := 2) sc__law_scoop.nd rfl (by first | exact Or.inl rfl | exact Or.inr rfl) (pe_op op_mod (p_int B (pa_cons (pe_ix ix_list (pv 0) pe_int (fun _ _ => rfl)) pa_nil)) (pv 1)))
        (pss_cons (ps_asg (pe_op op_fdivW (pe_ix ix_list (pv 0) pe_int (fun _ _ => rfl)) (pv 1)) (pg_sub (pv 0) pe_int set_list))
        (pss_one (ps_ret (pv 2)))))
        pss_nil)
      (pss_cons (ps_asg (pe_op op_add (pe_ix ix_list (pv 0) pe_int (fun _ _ => rfl)) pe_int) (pg_sub (pv 0) pe_int set_list))
      (pss_cons (ps_set (i := 3) sc__law_scoop.nd rfl (by first | exact Or.inl rfl | exact Or.inr rfl) (pe_op op_mod (p_int B (pa_cons (pe_op op_add (pe_ix ix_list (pv 0) pe_int (fun _ _ => rfl)) (pe_op op_mul pe_int (pe_ix ix_list (pv 0) pe_int (fun _ _ => rfl)))) pa_nil)) pe_int))
      (pss_cons (ps_set (i := 4) sc__law_scoop.nd rfl (by first | exact Or.inl rfl | exact Or.inr rfl) (pe_op op_mod (p_int B (pa_cons (pe_op op_add (pe_op op_add (pe_op op_mul (pv 3) (pv 3)) (pe_op op_fdivW (pe_ix ix_list (pv 0) pe_int (fun _ _ => rfl)) pe_int)) (pe_op op_mul pe_int (pe_ix ix_list (pv 0) pe_int (fun _ _ => rfl)))) pa_nil)) pe_int))
      (pss_cons (ps_set (i := 5) sc__law_scoop.nd rfl (by first | exact Or.inl rfl | exact Or.inr rfl) (pe_op op_mod (p_int B (pa_cons (pe_op op_add (pe_op op_mul (pv 4) (pv 4)) (pv 3)) pa_nil)) pe_int))
      (pss_one (ps_ret (pe_op op_mod (p_int B (pa_cons (pe_op op_fdivW (pv 5) pe_int) pa_nil)) (pv 1))))))))), ?_⟩
  refine u_if (a_test (a_cmp (r_any (r_ixI (xs := [x, y, z]) (n := 0) List.mem_cons_self (r_varE rfl) (r_int (K := K)) rfl)) r_anyI)) ?_ ?_
  · refine u_assoc (u_set (R := Bd t) (a_mod (a_int (r_cons (r_any (r_ixI (xs := [x, y, z]) (n := 0) List.mem_cons_self (r_varE rfl) (r_int (K := K)) rfl)) r_nil)) (r_var rfl (h2 _)) hp1) fun x1 F1 e1 g1 => ?_)
    refine u_assoc (u_setC (R := IntV) (a_div (r_any (r_ixI (xs := [x, y, z]) (n := 0) List.mem_cons_self (r_varE rfl) (r_int (K := K)) rfl)) (r_var rfl (h2 _)) ⟨by omega, ?_⟩) (r_varE rfl) (n := 0) (r_int (K := K)) (by show 0 < 3; decide) fun x2 F2 e2 ⟨i, g2⟩ => ?_)
    · have := Nat.log2_le_self t
      show (t : Int).natAbs.log2 < 9000
      rw [Int.natAbs_natCast]
      omega
    subst g2
    exact u_retq (R := Bd t) (r_var rfl g1) fun v F3 e3 hv => ⟨hv, [i, y, z], rfl, rfl⟩
  · refine u_next ?_
    refine u_setC (R := IntV) (a_op0 (r_any (r_ixI (xs := [x, y, z]) (n := 2) List.mem_cons_self (r_varE rfl) (r_int (K := K)) rfl)) r_anyI) (r_varE rfl) (n := 2) (r_int (K := K)) (by show 2 < 3; decide) fun x1 F1 e1 ⟨i, g1⟩ => ?_
    subst g1
    refine u_set (R := Bd 2147483587) (a_mod (m := 2147483587) (a_int (r_cons (a_op0 (r_any (r_ixI (xs := [x, y, i]) (n := 1) List.mem_cons_self (r_varE rfl) (r_int (K := K)) rfl)) (a_mulL (r_int (K := K)) (r_any (r_ixI (xs := [x, y, i]) (n := 2) List.mem_cons_self (r_varE rfl) (r_int (K := K)) rfl)) ⟨by decide, by decide⟩)) r_nil)) (r_int (K := K)) (by decide)) fun x2 F2 e2 g2 => ?_
    refine u_set (R := Bd 1000000033) (a_mod (m := 1000000033) (a_int (r_cons (a_op0 (a_op0 (a_mulB (r_var rfl g2) (r_anyB (r_var rfl g2)) (by decide)) (a_div (r_any (r_ixI (xs := [x, y, i]) (n := 1) List.mem_cons_self (r_varE rfl) (r_int (K := K)) rfl)) (r_int (K := K)) ⟨by decide, by decide +kernel⟩)) (a_mulL (r_int (K := K)) (r_any (r_ixI (xs := [x, y, i]) (n := 2) List.mem_cons_self (r_varE rfl) (r_int (K := K)) rfl)) ⟨by decide, by decide⟩)) r_nil)) (r_int (K := K)) (by decide)) fun x3 F3 e3 g3 => ?_
    have g2' := Mono.go g2 e3
    refine u_set (R := Bd 999999929) (a_mod (m := 999999929) (a_int (r_cons (a_op0 (a_mulB (r_var rfl g3) (r_anyB (r_var rfl g3)) (by decide)) (r_anyB (r_var rfl g2'))) r_nil)) (r_int (K := K)) (by decide)) fun x4 F4 e4 g4 => ?_
    exact u_ret (R := Bd t) (a_mod (a_int (r_cons (a_div (r_anyB (r_var rfl g4)) (r_int (K := K)) ⟨by decide, by decide +kernel⟩) r_nil)) (r_var rfl (h2 _)) hp1) fun v F5 e5 hv => ⟨hv, [x, y, i], rfl, rfl⟩
end
end Wb

/-! webs that are often used: the walks -/
namespace Rs
open PySem PySem.Spec PyProof.Rows L2 SlX StX Ma
variable [Rs.Tabz]
section
variable {K : PySem.W.Frag} {σ : L2.St} {F : Hp} {L : Cells} {R : VP} {tc : TT} {ta tb : TE} {b : Bool}
end
end Rs
namespace Wb
open PySem PySem.Spec PyProof.Rows L2 SlX StX Rs Ma
variable [Rs.Tabz]
local macro_rules | `(tactic| walk_at "rr") => `(tactic| (first
  | exact r_nil | exact r_int | exact r_bl | exact r_str
  | (refine r_var rfl ?_; assumption)
  | exact r_c rfl
  | (refine r_cons ?_ ?_ <;> walk_at "rr")))
section
variable {P : Program} {w : World} {K : PySem.W.Frag} {mg : Str → Option Value} {base : Heap} {C_Web : Addr}
noncomputable abbrev spReached (C_Web : Addr) (K : PySem.W.Frag) : Sp := SpF (γ := Rows × Nat) (fun g => g.2 < g.1.length) (fun g => [webP C_Web K g.1, Dt K (nI g.2)]) (fun g => Dt K (dRow (reachL g.1 g.2)))
-- Web.reached: 0:self 1:house
abbrev s_Web_reached : Stmt := inClass (topS 15) 7
abbrev N_Web_reached : List Str := ["self", "house"]
theorem sc_Web_reached : FnScope N_Web_reached ["self", "house"] (defScope s_Web_reached) := ⟨rfl, rfl, rfl, by decide +kernel, rfl, by decide +kernel, by decide +kernel⟩
theorem ok_reached {f : Addr} {fd : FuncData} (W : WebK K C_Web) (c_require_house : Gf P w K mg base 4 "require_house" (spRequireHouse C_Web K)) (F : Fun K "reached" "Web.reached" s_Web_reached f fd) : FnOk P w K mg base CX0 5 f fd ["self", "house"] (spReached C_Web K) := by
  refine gf_ok F sc_Web_reached (fun _ => rfl) fun cdv A outer s H E ⟨rs, h⟩ vs F0 hr hp hv => ?_
  obtain ⟨v, v1, rfl, h1, h2⟩ := each2 hv
  refine ⟨_, (pss_cons (ps_expr (p_call c_require_house hr (by decide) (pa_cons (pv 0) (pa_cons (pv 1) pa_nil))))
      (pss_one (ps_ret (pe_ix ix_tup (pe_sl (pv 0)) (pv 1) (fun _ _ => rfl))))), ?_⟩
  refine q_drop (r_call (rs, h) hp (by walk_at "rr")) fun F1 e1 => ?_
  have h1' := Mono.go h1 e1
  have h2' := Mono.go h2 e1
  have hh : h < rs.length := hp
  refine s_ret (r_is (r_rowN (r_reached W (r_var rfl h1')) (r_var rfl h2') (by rw [reachs_len]; exact hh)) ?_)
  rw [reachs_row hh]
end
end Wb

/-! webs that are often used: the walks, 2 -/
namespace Wb
open PySem PySem.Spec PyProof.Rows L2 SlX StX Rs Ma
variable [Rs.Tabz]
local macro_rules | `(tactic| walk_at "rr") => `(tactic| (first
  | exact r_nil | exact r_int | exact r_bl | exact r_str
  | (refine r_var rfl ?_; assumption)
  | exact r_c rfl
  | (refine r_cons ?_ ?_ <;> walk_at "rr")))
section
variable {P : Program} {w : World} {K : PySem.W.Frag} {mg : Str → Option Value} {base : Heap} {C_Web : Addr}
noncomputable abbrev spLen (C_Web : Addr) (K : PySem.W.Frag) : Sp := SpF (γ := Rows) (fun _ => True) (fun g => [webP C_Web K g]) (fun rs => Dt K (nI (pairsN rs).length))
-- Web.__len__: 0:self
abbrev s_Webu__lenu_ : Stmt := inClass (topS 15) 16
abbrev N_Webu__lenu_ : List Str := ["self"]
theorem sc_Webu__lenu_ : FnScope N_Webu__lenu_ ["self"] (defScope s_Webu__lenu_) := ⟨rfl, rfl, rfl, by decide +kernel, rfl, by decide +kernel, by decide +kernel⟩
theorem ok_len {f : Addr} {fd : FuncData} (B : Bf mg) (W : WebK K C_Web) (F : Fun K "__len__" "Web.__len__" s_Webu__lenu_ f fd) : FnOk P w K mg base CX0 1 f fd ["self"] (spLen C_Web K) := by
  refine gf_ok F sc_Webu__lenu_ (fun _ => rfl) fun cdv A outer s H E rs vs F0 hr hp hv => ?_
  obtain ⟨v, rfl, h1⟩ := each1 hv
  exact ⟨_, (pss_one (ps_ret (p_len B (pa_cons (pe_sl (pv 0)) pa_nil)))), s_ret (r_lnN (xs := pairsN rs) (f := dPair) (r_cons (r_pairs W (by walk_at "rr")) r_nil))⟩
end
end Wb

/-! webs that are often used: the texts -/
namespace Ma
open PySem Rs L2
variable [Rs.Tabz]
theorem pairs_lt {rs : Rows} (o : Ok rs) {p : Nat × Nat} (h : p ∈ pairsN rs) : p.1 < rs.length ∧ p.2 < rs.length := by
  unfold pairsN flat at h
  obtain ⟨q, hq, rfl⟩ := List.mem_map.mp h
  obtain ⟨z, hz, hq⟩ := List.mem_flatMap.mp hq
  obtain ⟨x, hx, rfl⟩ := List.mem_map.mp hq
  obtain ⟨r, i⟩ := z
  have hi := List.mem_zipIdx' hz
  exact ⟨hi.1, o.lt r (hi.2 ▸ List.getElem_mem _) x hx⟩
theorem str_app_len (a b : PySem.Str) : (a ++ b).length = a.length + b.length := by
  show (a.cps ++ b.cps).size = _
  rw [Array.size_append]; rfl
theorem join_len (y : PySem.Str) : ∀ ps : List PySem.Str, (Str.join y ps).length ≤ (ps.map (·.length)).sum + ps.length * y.length
  | [] => by simp [Str.join]; decide
  | [p] => by show p.length ≤ _; simp
  | p :: q :: r => by
    show (p ++ y ++ Str.join y (q :: r)).length ≤ _
    have := join_len y (q :: r)
    rw [str_app_len, str_app_len]
    simp only [List.map_cons, List.sum_cons, List.length_cons, Nat.add_mul, Nat.one_mul] at this ⊢
    omega
end Ma

/-! numberings -/
namespace Wb
open PySem PySem.Spec PyProof.Rows L2 SlX StX Rs Ma
variable [Rs.Tabz]
local macro_rules | `(tactic| walk_at "rr") => `(tactic| (first
  | exact r_nil | exact r_int | exact r_bl | exact r_str
  | (refine r_var rfl ?_; assumption)
  | exact r_c rfl
  | (refine r_cons ?_ ?_ <;> walk_at "rr")))
section
variable {P : Program} {w : World} {K : PySem.W.Frag} {mg : Str → Option Value} {base : Heap} {C_Web : Addr}
end
end Wb

/-! what the laws draw -/
namespace Wb
open PySem PySem.Spec PyProof.Rows L2 SlX StX Rs Ma Tw
variable [Rs.Tabz]
def spFew {α : Type} : Unit × List α × Nat → (List α → Prop) → Prop := fun g Q => g.2.1.length ≤ 900 ∧ ∀ ys zs : List α, (ys ++ zs).Perm g.2.1 → ys.length = min g.2.2 g.2.1.length → Q ys
def spAny {α : Type} : Unit × List α → (α → Prop) → Prop := fun g Q => (g.2 ≠ [] ∧ g.2.length ≤ 1000) ∧ ∀ a ∈ g.2, Q a
section
variable {P : Program} {w : World} {K : PySem.W.Frag} {mg : Str → Option Value} {base : Heap} {α : Type} {RX : α → VP} [∀ a, Mono (RX a)]
abbrev s__law_any_of : Stmt := topS 21
abbrev N__law_any_of : List Str := ["_law_cask_here", "_law_items"]
theorem sc__law_any_of : FnScope N__law_any_of ["_law_cask_here", "_law_items"] (defScope s__law_any_of) := ⟨rfl, rfl, rfl, by decide +kernel, rfl, by decide +kernel, by decide +kernel⟩
theorem ok__law_any_of {f : Addr} {fd : FuncData} (B : Bf mg) (c_law_scoop : Gf P w K mg base 1 "_law_scoop" (SpN (fun g : Unit × Nat => [(fCk 3) g.1, (fD K dN) g.2]) (fun (g : Unit × Nat) (Q : Nat → Prop) => (1 ≤ g.2 ∧ g.2 ≤ 1000) ∧ ∀ n, n < g.2 → Q n) (fD K dN))) (F : Fun K "_law_any_of" "_law_any_of" s__law_any_of f fd) (hm : mg "_law_any_of" = some (.ref f)) (b : Binds K fd ["_law_cask_here", "_law_items"] []) : Gf P w K mg base 2 "_law_any_of" (SpN (fun g : Unit × (List α) => [(fCk 3) g.1, (fLn RX) g.2]) spAny RX) := by
  refine gw_mk F hm b sc__law_any_of (fun _ => rfl) (fun _ => inferInstance) fun cdv A outer s H E g hr => ?_
  obtain ⟨v__law_cask_here, v__law_items⟩ := g
  refine ⟨_, (pss_one (ps_ret (pe_ix ix_list (pv 1) (p_call c_law_scoop hr (by decide) (pa_cons (pv 0) (pa_cons (p_len B (pa_cons (pv 1) pa_nil)) pa_nil))) (fun _ _ => rfl)))), _,
    (ts_ret (tr_op o_ixLn (tr_var (R := (fLn RX)) (a := v__law_items) rfl) (tr_call (ta_cons (tr_var (R := (fCk 3)) (a := v__law_cask_here) rfl) (ta_one (tr_cb c_lenL (ta_one (tr_var (R := (fLn RX)) (a := v__law_items) rfl)))))))), ?_⟩
  rintro Q ⟨vs0, F0, hv⟩ hs
  try delta pur
  try dsimp only [spAny] at hs hv ⊢
  obtain ⟨⟨h1, h2⟩, q⟩ := hs
  have : 1 ≤ v__law_items.length := List.length_pos_iff.mpr h1
  exact ⟨⟨this, h2⟩, fun n hn => ⟨_, List.getElem?_eq_getElem hn, q _ (List.getElem_mem hn)⟩⟩
theorem er_perm2 {α : Type} : ∀ (l : List α) (n : Nat) (x : α), l[n]? = some x → (x :: l.eraseIdx n).Perm l
  | [], n, x, h => by simp at h
  | a :: l, 0, x, h => by cases h; exact List.Perm.refl _
  | a :: l, n + 1, x, h => (List.Perm.swap _ _ _).trans ((er_perm2 l n x (by simpa using h)).cons a)
abbrev s__law_few_of : Stmt := topS 22
abbrev N__law_few_of : List Str := ["_law_cask_here", "_law_items", "_law_count", "_law_left", "_law_found", "_law_turn"]
theorem sc__law_few_of : FnScope N__law_few_of ["_law_cask_here", "_law_items", "_law_count"] (defScope s__law_few_of) := ⟨rfl, rfl, rfl, by decide +kernel, rfl, by decide +kernel, by decide +kernel⟩
theorem ok__law_few_of {f : Addr} {fd : FuncData} (B : Bf mg) (c_law_scoop : Gf P w K mg base 1 "_law_scoop" (SpN (fun g : Unit × Nat => [(fCk 3) g.1, (fD K dN) g.2]) (fun (g : Unit × Nat) (Q : Nat → Prop) => (1 ≤ g.2 ∧ g.2 ≤ 1000) ∧ ∀ n, n < g.2 → Q n) (fD K dN))) (F : Fun K "_law_few_of" "_law_few_of" s__law_few_of f fd) (hm : mg "_law_few_of" = some (.ref f)) (b : Binds K fd ["_law_cask_here", "_law_items", "_law_count"] []) : Gf P w K mg base 2 "_law_few_of" (SpN (fun g : Unit × (List α) × Nat => [(fCk 3) g.1, (fLn RX) g.2.1, (fD K dN) g.2.2]) spFew (fLn RX)) := by
  refine gw_mk F hm b sc__law_few_of (fun _ => rfl) (fun _ => inferInstance) fun cdv A outer s H E g hr => ?_
  obtain ⟨v__law_cask_here, v__law_items, v__law_count⟩ := g
  refine ⟨_, (pss_cons (ps_par (i := 3) (j := 4) rfl sc__law_few_of.nd rfl rfl (by decide) rfl rfl (pa_cons (p_list B (pa_cons (pv 1) pa_nil)) (pa_cons (pe_lst pa_nil) pa_nil)) (by rfl))
    (pss_cons (ps_for PassesOwn.never rfl (pi_range1 (by rfl) B.range (pa_cons (p_min2 rfl B (pa_cons (pv 2) (pa_cons (p_len B (pa_cons (pv 1) pa_nil)) pa_nil))) pa_nil)) (pg_name (i := 5) sc__law_few_of.nd rfl (by first | exact Or.inl rfl | exact Or.inr rfl))
      (pss_one (ps_expr (pe_bm PySem.F.plainAttrs_list PySem.F.slot_list_append PySem.F.type_list_append mt_append (pv 4) (pa_cons (pe_bm PySem.F.plainAttrs_list PySem.F.slot_list_pop PySem.F.type_list_pop mt_popAt (pv 3) (pa_cons (p_call c_law_scoop hr (by decide) (pa_cons (pv 0) (pa_cons (p_len B (pa_cons (pv 3) pa_nil)) pa_nil))) pa_nil)) pa_nil)))))
    (pss_one (ps_ret (pv 4))))), _,
    (ts_parNN (tn_listL (R := RX) (tr_var (R := (fLn RX)) (a := v__law_items) rfl)) (tn_lst (R := RX) (ta_lnil (R := RX))) rfl rfl rfl rfl (fun l1 l2 => (ts_for (S1 := (List α) × (List α)) (ρ1 := fun s3 => [some ((fCk 3) v__law_cask_here), some ((fLn RX) v__law_items), some ((fD K dN) v__law_count), none, none, none]) (κ1s := fun s3 => [.one 4 (ownL ((s3.2).map RX)), .one 3 (ownL ((s3.1).map RX))]) (l1, l2) (leV_some (leV_some (leV_some (leV_none (leV_none (leV_none leV_nil)))))) (fun _ _ _ h => h) (ti_rangeN (tr_cb c_minN (ta_cons (tr_var (R := (fD K dN)) (a := v__law_count) rfl) (ta_one (tr_cb c_lenL (ta_one (tr_var (R := (fLn RX)) (a := v__law_items) rfl))))))) (tg_name (R := (fD K dN)) 5) (fun _ => rfl)
      (fun s3 x4 => (ts_one (ts_appPop (R := RX) (xs := s3.2) (ys := s3.1) (tr_call (ta_cons (tr_var (R := (fCk 3)) (a := v__law_cask_here) rfl) (ta_one (tr_perm2 (tr_bor (i := 3) (xs := s3.1) (R := RX) (tr_cb c_lenL (ta_one (tr_var (R := (fLn RX)) (a := s3.1) rfl))) rfl rfl (fun _ _ h => h)))))) (fun n5 y6 => (ts_next ((s3.1.eraseIdx n5), (s3.2 ++ [y6])) (leV_some (leV_some (leV_some (leV_none (leV_none (leV_none leV_nil)))))) (fun _ _ _ h => h))))))
      (fun s3 => (ts_retC (R := RX) (xs := s3.2)))))), ?_⟩
  rintro Q ⟨vs0, F0, hv⟩ hs
  try delta pur
  try dsimp only [spFew] at hs hv ⊢
  obtain ⟨hl, q⟩ := hs
  refine ⟨Nat.zero_le _, by omega, forW_inv (fun i s => (s.2 ++ s.1).Perm v__law_items ∧ s.2.length = i) ⟨List.Perm.refl _, rfl⟩ (fun i x s hx ⟨h1, h2⟩ => ?_) (fun s ⟨h1, h2⟩ => ?_) fun s x P Q h ⟨h1, h2⟩ => ⟨h1, fun n hn => ?_⟩⟩
  · have hi := (List.getElem?_eq_some_iff.mp hx).1
    rw [List.length_range] at hi
    have hl2 := h1.length_eq
    rw [List.length_append] at hl2
    refine ⟨by omega, fun n hn => ⟨_, List.getElem?_eq_getElem hn, ⟨by omega, by omega⟩, ?_, by rw [List.length_append, h2]; rfl⟩⟩
    refine List.Perm.trans ?_ h1
    rw [List.append_assoc]
    exact (er_perm2 _ n _ (List.getElem?_eq_getElem hn)).append_left _
  · rw [List.length_range] at h2
    exact q s.2 s.1 h1 h2
  · obtain ⟨a, h3, h4, h5⟩ := h2 n hn
    exact ⟨a, h3, h4, h _ h5⟩
end
end Wb

/-! drawn rows -/
namespace Wb
open PySem PySem.Spec PyProof.Rows L2 SlX StX Rs Ma Tw
variable [Rs.Tabz]
theorem few_way {n : Nat} (hn : n < 5) : ∃ a : List Nat, [[0, 1, 1, 2], [1], [0, 1], [1, 2, 3, 4], [4]][n]? = some a ∧ (a ≠ [] ∧ a.length ≤ 1000) := by
  match n, hn with
  | 0, _ => exact ⟨_, rfl, by decide, by decide⟩
  | 1, _ => exact ⟨_, rfl, by decide, by decide⟩
  | 2, _ => exact ⟨_, rfl, by decide, by decide⟩
  | 3, _ => exact ⟨_, rfl, by decide, by decide⟩
  | 4, _ => exact ⟨_, rfl, by decide, by decide⟩
theorem ok_drawn {rs : Rows} {n : Nat} (h1 : 1 ≤ n) (h5 : n ≤ 5) (hl : rs.length = n) (h : ∀ (j : Nat) r, rs[j]? = some r → Asc r ∧ ∀ x ∈ r, x < n ∧ x ≠ j) : Ok rs := by
  refine ⟨by omega, by omega, fun r hr => ?_, fun r hr x hx => ?_, fun j r hj hm => ((h j r hj).2 j hm).2 rfl⟩
  · obtain ⟨j, hj⟩ := List.mem_iff_getElem?.mp hr
    exact (h j r hj).1
  · obtain ⟨j, hj⟩ := List.mem_iff_getElem?.mp hr
    rw [hl]; exact ((h j r hj).2 x hx).1
theorem sortN_asc2 {ys : List Nat} (h : ys.Nodup) : Asc (sortN ys) := by
  have h1 := sortN_asc (xs := ys)
  have h2 : (sortN ys).Nodup := sortN_perm.nodup_iff.mpr h
  exact (h1.and h2).imp fun ⟨a, b⟩ => Nat.lt_of_le_of_ne a b
section
variable {P : Program} {w : World} {K : PySem.W.Frag} {mg : Str → Option Value} {base : Heap}
abbrev s__law_rows : Stmt := topS 23
abbrev N__law_rows : List Str := ["_law_cask_here", "_law_size", "_law_way", "_law_found", "_law_house", "_law_others", "_law_one", "_law_count"]
theorem sc__law_rows : FnScope N__law_rows ["_law_cask_here", "_law_size"] (defScope s__law_rows) := ⟨rfl, rfl, rfl, by decide +kernel, rfl, by decide +kernel, by decide +kernel⟩
theorem ok__law_rows {f : Addr} {fd : FuncData} (B : Bf mg) (c_law_scoop : Gf P w K mg base 1 "_law_scoop" (SpN (fun g : Unit × Nat => [(fCk 3) g.1, (fD K dN) g.2]) (fun (g : Unit × Nat) (Q : Nat → Prop) => (1 ≤ g.2 ∧ g.2 ≤ 1000) ∧ ∀ n, n < g.2 → Q n) (fD K dN))) (c_law_any_of : Gf P w K mg base 2 "_law_any_of" (SpN (fun g : Unit × (List Nat) => [(fCk 3) g.1, (fLn (fD K dN)) g.2]) spAny (fD K dN))) (c_law_few_of : Gf P w K mg base 2 "_law_few_of" (SpN (fun g : Unit × (List Nat) × Nat => [(fCk 3) g.1, (fLn (fD K dN)) g.2.1, (fD K dN) g.2.2]) spFew (fLn (fD K dN)))) (F : Fun K "_law_rows" "_law_rows" s__law_rows f fd) (hm : mg "_law_rows" = some (.ref f)) (b : Binds K fd ["_law_cask_here", "_law_size"] []) : Gf P w K mg base 3 "_law_rows" (SpN (fun g : Unit × Nat => [(fCk 3) g.1, (fD K dN) g.2]) (fun (g : Unit × Nat) (Q : Rows → Prop) => (1 ≤ g.2 ∧ g.2 ≤ 5) ∧ ∀ rs : Rows, Ok rs → rs.length = g.2 → Q rs) (fD K (dT (dT dN)))) := by
  refine gw_mk F hm b sc__law_rows (fun _ => rfl) (fun _ => inferInstance) fun cdv A outer s H E g hr => ?_
  obtain ⟨v__law_cask_here, v__law_size⟩ := g
  refine ⟨_, (pss_cons (ps_par (i := 2) (j := 3) rfl sc__law_rows.nd rfl rfl (by decide) rfl rfl (pa_cons (p_call c_law_scoop hr (by decide) (pa_cons (pv 0) (pa_cons pe_int pa_nil))) (pa_cons (pe_lst pa_nil) pa_nil)) (by rfl))
    (pss_cons (ps_for PassesOwn.never rfl (pi_range1 (by rfl) B.range (pa_cons (pv 1) pa_nil)) (pg_name (i := 4) sc__law_rows.nd rfl (by first | exact Or.inl rfl | exact Or.inr rfl))
      (pss_cons (ps_setLc (i := 5) (own := [("_law_one", 6)]) (g := gName 6)  rfl sc__law_rows.nd rfl rfl (sw_true rfl rfl rfl (by decide +kernel)) (pi_range1 (by rfl) B.range (pa_cons (pv 1) pa_nil)) (blkOk_by (N := N__law_rows) (sc := defScope s__law_rows) (by decide +kernel)) (fun _ _ _ _ _ => (pg_name (i := 6) sc__law_rows.nd rfl (by first | exact Or.inl rfl | exact Or.inr rfl))) (fun _ _ _ _ _ => (pts_one (pt_cmpR op_ne (pv 6) (pv 4) (nomark _)))) (fun _ _ _ _ _ => by exact (pv 6)))
      (pss_cons (ps_set (i := 7) sc__law_rows.nd rfl (by first | exact Or.inl rfl | exact Or.inr rfl) (p_min2 rfl B (pa_cons (p_len B (pa_cons (pv 5) pa_nil)) (pa_cons (p_call c_law_any_of hr (by decide) (pa_cons (pv 0) (pa_cons (pe_ix ix_list (pe_lst (pa_cons (pe_lst (pa_cons pe_int (pa_cons pe_int (pa_cons pe_int (pa_cons pe_int pa_nil))))) (pa_cons (pe_lst (pa_cons pe_int pa_nil)) (pa_cons (pe_lst (pa_cons pe_int (pa_cons pe_int pa_nil))) (pa_cons (pe_lst (pa_cons pe_int (pa_cons pe_int (pa_cons pe_int (pa_cons pe_int pa_nil))))) (pa_cons (pe_lst (pa_cons pe_int pa_nil)) pa_nil)))))) (pv 2) (fun _ _ => rfl)) pa_nil))) pa_nil))))
      (pss_one (ps_expr (pe_bm PySem.F.plainAttrs_list PySem.F.slot_list_append PySem.F.type_list_append mt_append (pv 3) (pa_cons (p_tuple B (pa_cons (p_sortedL B (pa_cons (p_call c_law_few_of hr (by decide) (pa_cons (pv 0) (pa_cons (pv 5) (pa_cons (pv 7) pa_nil)))) pa_nil)) pa_nil)) pa_nil)))))))
    (pss_one (ps_ret (p_tuple B (pa_cons (pv 3) pa_nil)))))), _,
    (ts_parN (tr_call (ta_cons (tr_var (R := (fCk 3)) (a := v__law_cask_here) rfl) (ta_one (tr_nat (K := K) 5)))) (tn_lst (R := (fD K (dT dN))) (ta_lnil (R := (fD K (dT dN))))) rfl rfl rfl (fun v_1 l2 => (ts_for (S1 := (List (List Nat))) (ρ1 := fun s3 => [some ((fCk 3) v__law_cask_here), some ((fD K dN) v__law_size), some ((fD K dN) v_1), none, none, none, none, none]) (κ1s := fun s3 => [.one 3 (ownL ((s3).map (fD K (dT dN))))]) l2 (leV_some (leV_some (leV_some (leV_none (leV_none (leV_none (leV_none (leV_none leV_nil)))))))) (fun _ _ _ h => h) (ti_rangeN (tr_var (R := (fD K dN)) (a := v__law_size) rfl)) (tg_name (R := (fD K dN)) 4) (fun _ => rfl)
      (fun s3 x4 => (ts_set (R := (fLn (fD K dN))) 5 (tr_lc (vs := [6]) (Rd := (fD K dN)) (ti_rangeN (tr_var (R := (fD K dN)) (a := v__law_size) rfl)) (tg_name (R := (fD K dN)) 6) rfl rfl rfl (fun _ => rfl) (fun x5 => (tt_test (tr_op o_neN (tr_var (R := (fD K dN)) (a := x5) rfl) (tr_var (R := (fD K dN)) (a := x4) rfl)))) (fun x5 => (tr_var (R := (fD K dN)) (a := x5) rfl))) rfl (fun v_law_others_6 => (ts_set (R := (fD K dN)) 7 (tr_cb c_minN (ta_cons (tr_cb c_lenL (ta_one (tr_var (R := (fLn (fD K dN))) (a := v_law_others_6) rfl))) (ta_one (tr_call (ta_cons (tr_var (R := (fCk 3)) (a := v__law_cask_here) rfl) (ta_one (tr_op o_ixLn (tr_lst (R := (fLn (fD K dN))) (ta_lcons (R := (fLn (fD K dN))) (tr_lst (R := (fD K dN)) (ta_lcons (R := (fD K dN)) (tr_nat (K := K) 0) (ta_lcons (R := (fD K dN)) (tr_nat (K := K) 1) (ta_lcons (R := (fD K dN)) (tr_nat (K := K) 1) (ta_lcons (R := (fD K dN)) (tr_nat (K := K) 2) (ta_lnil (R := (fD K dN)))))))) (ta_lcons (R := (fLn (fD K dN))) (tr_lst (R := (fD K dN)) (ta_lcons (R := (fD K dN)) (tr_nat (K := K) 1) (ta_lnil (R := (fD K dN))))) (ta_lcons (R := (fLn (fD K dN))) (tr_lst (R := (fD K dN)) (ta_lcons (R := (fD K dN)) (tr_nat (K := K) 0) (ta_lcons (R := (fD K dN)) (tr_nat (K := K) 1) (ta_lnil (R := (fD K dN)))))) (ta_lcons (R := (fLn (fD K dN))) (tr_lst (R := (fD K dN)) (ta_lcons (R := (fD K dN)) (tr_nat (K := K) 1) (ta_lcons (R := (fD K dN)) (tr_nat (K := K) 2) (ta_lcons (R := (fD K dN)) (tr_nat (K := K) 3) (ta_lcons (R := (fD K dN)) (tr_nat (K := K) 4) (ta_lnil (R := (fD K dN)))))))) (ta_lcons (R := (fLn (fD K dN))) (tr_lst (R := (fD K dN)) (ta_lcons (R := (fD K dN)) (tr_nat (K := K) 4) (ta_lnil (R := (fD K dN))))) (ta_lnil (R := (fLn (fD K dN)))))))))) (tr_var (R := (fD K dN)) (a := v_1) rfl)))))))) rfl (fun v_law_count_7 => (ts_one (ts_app (R := (fD K (dT dN))) (xs := s3) (tr_cb c_tupDL (ta_one (tr_lnD (tr_cb c_sortedLn (ta_one (tr_call (ta_cons (tr_var (R := (fCk 3)) (a := v__law_cask_here) rfl) (ta_cons (tr_var (R := (fLn (fD K dN))) (a := v_law_others_6) rfl) (ta_one (tr_var (R := (fD K dN)) (a := v_law_count_7) rfl)))))))))) (fun y8 => (ts_next (s3 ++ [y8]) (leV_some (leV_some (leV_some (leV_none (leV_none (leV_none (leV_none (leV_none leV_nil)))))))) (fun _ _ _ h => h))))))))))
      (fun s3 => (ts_ret (tr_tpD (tr_tupC (R := (fD K (dT dN))) (xs := s3)))))))), ?_⟩
  rintro Q ⟨vs0, F0, hv⟩ hs
  try delta pur
  try dsimp only [spAny, spFew] at hs hv ⊢
  obtain ⟨⟨h1, h5⟩, q⟩ := hs
  refine ⟨⟨by decide, by decide⟩, fun n hn => ⟨Nat.zero_le _, by omega, ?_⟩⟩
  simp only [lcW_p, List.map_id']
  refine forW_inv (fun i s => s.length = i ∧ ∀ (j : Nat) r, s[j]? = some r → Asc r ∧ ∀ x ∈ r, x < v__law_size ∧ x ≠ j) ⟨rfl, fun j r h => by simp at h⟩ (fun i x s hx ⟨g1, g2⟩ => ?_) (fun s ⟨g1, g2⟩ => ?_) fun s x P Q h ⟨c1, c2, c3, c4, c5, c6, c7, c8, a, c9, c10, c11⟩ => ⟨c1, c2, c3, c4, c5, c6, c7, c8, a, c9, c10, fun b hb => ⟨(c11 b hb).1, fun ys zs d1 d2 => ?_⟩⟩
  · have hi := (List.getElem?_eq_some_iff.mp hx).1
    rw [List.length_range] at hi
    rw [List.getElem?_range hi] at hx
    cases hx
    obtain ⟨a, e1, e2⟩ := few_way hn
    have hol : ((List.range v__law_size).filter fun y => !decide (y = i)).length ≤ 5 := Nat.le_trans (List.length_filter_le _ _) (by rw [List.length_range]; exact h5)
    refine ⟨by omega, by rw [List.length_range]; omega, by decide, by decide, by decide, by decide, by decide, by decide, a, e1, e2, fun b hb => ⟨by omega, fun ys zs hp hl => ⟨?_, by omega, by rw [List.length_append, g1]; rfl, fun j r hj => ?_⟩⟩⟩
    · have := hp.length_eq
      rw [List.length_append] at this
      omega
    · rcases Nat.lt_or_ge j s.length with hjs | hjs
      · rw [List.getElem?_append_left hjs] at hj
        exact g2 j r hj
      · rw [List.getElem?_append_right hjs] at hj
        have hj0 : j - s.length = 0 := by
          have := (List.getElem?_eq_some_iff.mp hj).1
          rw [List.length_singleton] at this
          omega
        rw [hj0] at hj
        cases hj
        have hji : j = i := by omega
        subst hji
        have nd : (ys ++ zs).Nodup := hp.nodup_iff.mpr (List.nodup_range.filter _)
        refine ⟨sortN_asc2 (List.nodup_append.mp nd).1, fun x hx => ?_⟩
        have hm : x ∈ (List.range v__law_size).filter fun y => !decide (y = j) := hp.mem_iff.mp (List.mem_append_left _ (sortN_perm.mem_iff.mp hx))
        rw [List.mem_filter, List.mem_range] at hm
        exact ⟨hm.1, by simpa using hm.2⟩
  · rw [List.length_range] at g1
    exact q s (ok_drawn h1 h5 g1 g2) g1
  · obtain ⟨f1, f2, f3⟩ := (c11 b hb).2 ys zs d1 d2
    exact ⟨f1, f2, h _ f3⟩
end
end Wb

namespace Wb
open PySem PySem.Spec PyProof.Rows L2 SlX StX Rs Ma Tw
variable [Rs.Tabz]
section
variable {P : Program} {w : World} {K : PySem.W.Frag} {mg : Str → Option Value} {base : Heap} {C_Web : Addr}
theorem is_web : ∀ (a : Rows) v F, webP C_Web K a v F → IsOb C_Web v F := fun _ _ _ h => webP.is h
theorem ok_web : ∀ (a : Rows) v F, webP C_Web K a v F → Ok a := fun _ _ _ h => h.1
theorem fl_web_own_heard (W : WebK K C_Web) : Fld K (webP C_Web K) "own_heard" (fun rs => rs) (fD K (dT (dT dN))) := ⟨fun a v F L h => r_heard W (r_c h)⟩
theorem fl_web_own_size (W : WebK K C_Web) : Fld K (webP C_Web K) "own_size" (fun rs => rs.length) (fD K dN) := ⟨fun a v F L h => r_size W (r_c h)⟩
theorem fl_web_own_pairs (W : WebK K C_Web) : Fld K (webP C_Web K) "own_pairs" (fun rs => pairsN rs) (fD K (dT (dP dN dN))) := ⟨fun a v F L h => r_pairs W (r_c h)⟩

theorem enum_len {α : Type} {xs : List α} : (enumL xs).length = xs.length := by unfold enumL; rw [List.length_map, List.length_zipIdx]
end
end Wb

/-! k00: rows of webs, judged at values of many kinds -/
namespace Wb
open PySem PySem.Spec PyProof.Rows L2 SlX StX Rs Ma Sn Tw
variable [Rs.Tabz]
def intW : Wv → Bool
  | .dat d => isInt d
  | _ => false
def btW (w : Wv) (lo hi : Int) : Bool := match w with
  | .dat d => isBt d lo hi
  | _ => false
def risW (w : Wv) (lo hi : Int) : Bool := match w with
  | .dat d => isRising d lo hi
  | _ => false
def hrowW (w : Wv) (h n : Nat) : Bool := match w with
  | .dat d => isHeardRow d h n
  | _ => false
def heardW : Wv → Bool
  | .dat d => isHeard d
  | _ => false
/-- a value whose parts are told: a tuple of not too many things, some of which is no datum, or a datum -/
def wf1 : Wv → Prop
  | .dat d => few d
  | .dct => True
  | .dk _ => True
  | .tp us => us.length ≤ 60 ∧ (∃ y ∈ us, y.isDat = false) ∧ ∀ y ∈ us, y.isPool = false
  | _ => False
def few2 (d : PyData) : Prop := few d ∧ fewIn d
def wfW : Wv → Prop
  | .dat d => few2 d
  | .dct => True
  | .dk _ => True
  | .tp us => us.length ≤ 60 ∧ (∃ y ∈ us, y.isDat = false) ∧ ∀ y ∈ us, wf1 y
  | _ => False
theorem wf1_np {w : Wv} (h : wf1 w) : w.isPool = false := by cases w <;> first | rfl | exact h.elim
theorem wfW_np {w : Wv} (h : wfW w) : w.isPool = false := by cases w <;> first | rfl | exact h.elim
theorem wf_1 {w : Wv} (h : wfW w) : wf1 w := by
  cases w with
  | dat d => exact h.1
  | tp us => exact ⟨h.1, h.2.1, fun y hy => wf1_np (h.2.2 y hy)⟩
  | _ => exact h
theorem isT_tup {ds : List PyData} : (Wv.dat (.tuple ds)).isT "tuple" = true := show (kitB "tuple" "tuple").getD false = true by decide +kernel
theorem isT_tuple {w : Wv} (h : w.isT "tuple" = true) (f : wf1 w) : (∃ ds, w = .dat (.tuple ds) ∧ ds.length ≤ 60) ∨ ∃ us, w = .tp us ∧ us.length ≤ 60 ∧ (∃ y ∈ us, y.isDat = false) ∧ ∀ y ∈ us, y.isPool = false := by
  cases w with
  | dat d =>
    cases d with
    | tuple ds => exact .inl ⟨ds, rfl, f⟩
    | none => exact absurd h (by decide +kernel)
    | bool b => exact absurd h (show ¬ (kitB "bool" "tuple").getD false = true by decide +kernel)
    | int i => exact absurd h (show ¬ (kitB "int" "tuple").getD false = true by decide +kernel)
    | str x => exact absurd h (show ¬ (kitB "str" "tuple").getD false = true by decide +kernel)
    | list x => exact absurd h (show ¬ (kitB "list" "tuple").getD false = true by decide +kernel)
    | dict x => exact absurd h (show ¬ (kitB "dict" "tuple").getD false = true by decide +kernel)
  | dct => exact absurd h (by decide)
  | dk es => exact absurd h (show ¬ ("tuple" == "dict") = true by decide)
  | tp us => exact .inr ⟨us, rfl, f⟩
  | opL => exact f.elim
  | opT => exact f.elim
  | web rs => cases h
  | pool rss => cases h
theorem isT_int {d : PyData} : (Wv.dat d).isT "int" = (match d with | .int _ => true | .bool _ => true | _ => false) := by
  cases d with
  | none => show (kitB "NoneType" "int").getD false = false; decide +kernel
  | bool b => show (kitB "bool" "int").getD false = true; decide +kernel
  | int i => show (kitB "int" "int").getD false = true; decide +kernel
  | str x => show (kitB "str" "int").getD false = false; decide +kernel
  | list xs => show (kitB "list" "int").getD false = false; decide +kernel
  | tuple xs => show (kitB "tuple" "int").getD false = false; decide +kernel
  | dict xs => show (kitB "dict" "int").getD false = false; decide +kernel
theorem isT_bool {d : PyData} : (Wv.dat d).isT "bool" = (match d with | .bool _ => true | _ => false) := by
  cases d with
  | none => show (kitB "NoneType" "bool").getD false = false; decide +kernel
  | bool b => show (kitB "bool" "bool").getD false = true; decide +kernel
  | int i => show (kitB "int" "bool").getD false = false; decide +kernel
  | str x => show (kitB "str" "bool").getD false = false; decide +kernel
  | list xs => show (kitB "list" "bool").getD false = false; decide +kernel
  | tuple xs => show (kitB "tuple" "bool").getD false = false; decide +kernel
  | dict xs => show (kitB "dict" "bool").getD false = false; decide +kernel
theorem risW_tuple {w : Wv} {lo hi : Int} (h : risW w lo hi = true) : ∃ ds, w = .dat (.tuple ds) := by
  cases w with
  | dat d => cases d <;> first | exact ⟨_, rfl⟩ | cases h
  | _ => cases h
theorem risW_isT {w : Wv} {lo hi : Int} (h : w.isT "tuple" = false) : risW w lo hi = false := by
  cases e : risW w lo hi with
  | false => rfl
  | true =>
    obtain ⟨ds, rfl⟩ := risW_tuple e
    rw [isT_tup] at h; cases h
theorem heardW_isT {w : Wv} (h : w.isT "tuple" = false) : heardW w = false := by
  cases w with
  | dat d =>
    cases d with
    | tuple ds => rw [isT_tup] at h; cases h
    | _ => rfl
  | _ => rfl
theorem intW_nd {w : Wv} (h : w.isDat = false) : intW w = false := by cases w <;> first | rfl | cases h
theorem btW_nd {w : Wv} {lo hi : Int} (h : w.isDat = false) : btW w lo hi = false := by cases w <;> first | rfl | cases h
theorem hrowW_nd {w : Wv} {a b : Nat} (h : w.isDat = false) : hrowW w a b = false := by cases w <;> first | rfl | cases h
theorem all_nd {us : List Wv} {f : Wv → Bool} (h : ∃ y ∈ us, y.isDat = false) (hf : ∀ y ∈ us, y.isDat = false → f y = false) : ((us.map f).all id) = false := by
  cases e : (us.map f).all id with
  | false => rfl
  | true =>
    obtain ⟨y, hy, hd⟩ := h
    have := List.all_eq_true.mp e (f y) (List.mem_map.mpr ⟨y, hy, rfl⟩)
    rw [hf y hy hd] at this; cases this
/-- whole numbers from some number on, none below 0 -/
theorem nat_ds {lo hi : Int} (h0 : 0 ≤ lo) : ∀ {ds : List PyData}, ds.all (fun x => isBt x lo hi) = true → ds = (ds.map fun d => (toI d).toNat).map dN ∧ ∀ x ∈ ds.map fun d => (toI d).toNat, lo ≤ (x : Int) ∧ (x : Int) ≤ hi
  | [], _ => ⟨rfl, fun x hx => by cases hx⟩
  | d :: ds, h => by
    rw [List.all_cons, Bool.and_eq_true] at h
    obtain ⟨e, q⟩ := nat_ds h0 h.2
    have h1 := h.1
    unfold isBt at h1
    rw [Bool.and_eq_true] at h1
    obtain ⟨i, rfl, _⟩ := isInt_shape h1.1
    have h2 := h1.2
    rw [Bool.and_eq_true] at h2
    have l1 := of_decide_eq_true h2.1
    have l2 := of_decide_eq_true h2.2
    have ei : ((i.toNat : Nat) : Int) = i := Int.toNat_of_nonneg (by omega)
    refine ⟨?_, fun x hx => ?_⟩
    · rw [List.map_cons, List.map_cons, ← e]
      show PyData.int i :: ds = PyData.int ((i.toNat : Nat) : Int) :: ds
      rw [ei]
    · rw [List.map_cons] at hx
      rcases List.mem_cons.mp hx with rfl | hx
      · show lo ≤ ((i.toNat : Nat) : Int) ∧ ((i.toNat : Nat) : Int) ≤ hi
        rw [ei]; exact ⟨l1, l2⟩
      · exact q x hx
theorem asc_ints {ns : List Nat} : ((ns.map dN).map toI).Pairwise (· < ·) ↔ Asc ns := by
  unfold Asc
  rw [List.map_map, List.pairwise_map]
  constructor <;> intro h <;> refine h.imp fun {a b} hab => ?_
  · have hab : ((a : Nat) : Int) < ((b : Nat) : Int) := hab
    omega
  · show ((a : Nat) : Int) < ((b : Nat) : Int)
    omega
theorem abs_lt {i : Int} : decide ((if i < 0 then -i else i) < 10 ^ Int.toNat 60) = (decide (-(10 ^ 60) < i) && decide (i < 10 ^ 60)) := by
  have e : (10 : Int) ^ Int.toNat 60 = 10 ^ 60 := rfl
  rw [e]
  generalize (10 : Int) ^ 60 = N
  rw [Bool.eq_iff_iff, Bool.and_eq_true, decide_eq_true_eq, decide_eq_true_eq, decide_eq_true_eq]
  by_cases h : i < 0
  · rw [if_pos h]; omega
  · rw [if_neg h]; omega
theorem ints_at : ∀ {ds : List PyData}, ds.all isInt = true → ∃ ns : List Int, ds = ns.map .int
  | [], _ => ⟨[], rfl⟩
  | d :: ds, h => by
    rw [List.all_cons, Bool.and_eq_true] at h
    obtain ⟨i, rfl, _⟩ := isInt_shape h.1
    obtain ⟨ns, rfl⟩ := ints_at h.2
    exact ⟨i :: ns, rfl⟩
theorem left_int {us : List Wv} : (decide ((us.filter (fun x => !intW x)).length = 0)) = us.all intW := by
  rw [Bool.eq_iff_iff, decide_eq_true_eq, List.length_eq_zero_iff, List.filter_eq_nil_iff, List.all_eq_true]
  refine forall_congr' fun x => forall_congr' fun _ => ?_
  cases intW x <;> simp
theorem row_ints {ns : List Int} {h n : Nat} (hi : (ns.map PyData.int).all isInt = true) (hn : n ≤ 5) : isHeardRow (.tuple (ns.map .int)) h n = (decide (ns.filter (fun x => decide (x < 0) || (decide ((n : Int) ≤ x) || decide (x = (h : Int)))) = []) && decide (ns.Pairwise (· < ·))) := by
  show ((((ns.map PyData.int).all (fun x => isBt x 0 ((n : Int) - 1)) && decide (((ns.map PyData.int).map toI).Pairwise (· < ·)))) && !decide ((h : Int) ∈ (ns.map PyData.int).map toI)) = _
  have e : (ns.map PyData.int).map toI = ns := by
    rw [List.map_map]
    exact List.map_id' _
  rw [e, Bool.eq_iff_iff]
  simp only [Bool.and_eq_true, decide_eq_true_eq, Bool.not_eq_true', decide_eq_false_iff_not, List.filter_eq_nil_iff]
  have key : (ns.map PyData.int).all (fun x => isBt x 0 ((n : Int) - 1)) = true ↔ ∀ x ∈ ns, 0 ≤ x ∧ x < (n : Int) := by
    rw [List.all_map, List.all_eq_true]
    rw [List.all_map, List.all_eq_true] at hi
    refine forall_congr' fun x => forall_congr' fun hx => ?_
    have hi : isInt (.int x) = true := hi x hx
    show (isInt (.int x) && (decide (0 ≤ x) && decide (x ≤ (n : Int) - 1))) = true ↔ _
    rw [hi, Bool.true_and, Bool.and_eq_true, decide_eq_true_eq, decide_eq_true_eq]
    omega
  rw [key]
  constructor
  · rintro ⟨⟨h1, h2⟩, h3⟩
    refine ⟨fun x hx => ?_, h2⟩
    have := h1 x hx
    have ne : x ≠ (h : Int) := fun z => h3 (z ▸ hx)
    simp only [Bool.or_eq_true, decide_eq_true_eq]
    omega
  · rintro ⟨h1, h2⟩
    refine ⟨⟨fun x hx => ?_, h2⟩, fun hx => ?_⟩
    · have := h1 x hx
      simp only [Bool.or_eq_true, decide_eq_true_eq] at this
      omega
    · exact h1 _ hx (by simp)
theorem row_not {w : Wv} {ws : List Wv} {h n : Nat} (hw : w.items = some ws) (hn : ws.all intW = false) : hrowW w h n = false := by
  cases w with
  | dat d =>
    cases d with
    | tuple ds =>
      cases e : hrowW (.dat (.tuple ds)) h n with
      | false => rfl
      | true =>
        have e : isHeardRow (.tuple ds) h n = true := e
        rw [isHeardRow, Bool.and_eq_true, isRising, Bool.and_eq_true] at e
        have hw : some (ds.map Wv.dat) = some ws := hw
        cases hw
        have : (ds.map Wv.dat).all intW = true := List.all_eq_true.mpr fun x hx => by
          obtain ⟨d, hd, rfl⟩ := List.mem_map.mp hx
          have := List.all_eq_true.mp e.1.1 d hd
          unfold isBt at this
          rw [Bool.and_eq_true] at this
          exact this.1
        rw [this] at hn; cases hn
    | _ => rfl
  | _ => rfl
section
variable {P : Program} {w : World} {K : PySem.W.Frag} {mg : Str → Option Value} {base : Heap} {C_Web C_Pool : Addr}
theorem ok_is_integer_v1 {f : Addr} {fd : FuncData} (B : Bf mg) (g_GREATEST : GInt mg "GREATEST" (10 ^ 60)) (okW : WxW (YY K C_Web C_Pool P w)) (F : Fun K "is_integer" "is_integer" s_is_integer f fd) (hm : mg "is_integer" = some (.ref f)) (b : Binds K fd ["value"] []) : Gf P w K mg base 1 "is_integer" (SpN (fun g : Wv => [(fW (YY K C_Web C_Pool P w)) g]) (fun (g : Wv) (Q : Bool → Prop) => g.isPool = false ∧ Q (intW g)) (fD K dB)) := by
  refine gw_mk F hm b sc_is_integer (fun _ => rfl) (fun _ => inferInstance) fun cdv A outer s H E g hr => ?_
  obtain ⟨v_value, hgen⟩ : ∃ x, x = g := ⟨g, rfl⟩
  subst hgen
  refine ⟨_, (pss_one (ps_ret (pe_and (p_isiS (.type "int") B (pa_cons (pv 0) (pa_cons (p_ty (by rfl) B.int boot_int) pa_nil))) (pe_and (pe_not (p_isiS (.type "bool") B (pa_cons (pv 0) (pa_cons (p_ty (by rfl) B.bool boot_bool) pa_nil)))) (pe_one (pe_chain op_lt op_lt (pe_un un_neg (p_gint g_GREATEST)) (pv 0) (p_gint g_GREATEST))))))), _,
    (ts_ret (tr_and (tr_cb (c_isiTW okW "int") (ta_cons (tr_var (R := (fW (YY K C_Web C_Pool P w))) (a := v_value) rfl) (ta_one tr_ty))) (tr_and (tr_not (tr_cb (c_isiTW okW "bool") (ta_cons (tr_var (R := (fW (YY K C_Web C_Pool P w))) (a := v_value) rfl) (ta_one tr_ty)))) (tr_chain (tr_un (tr_int (K := K))) (tr_Wi (X := YY K C_Web C_Pool P w) (tr_var (R := (fW (YY K C_Web C_Pool P w))) (a := v_value) rfl)) (tr_int (K := K)))))), ?_⟩
  rintro Q ⟨vs0, F0, hv⟩ hs
  try delta pur
  try dsimp only at hs hv ⊢
  obtain ⟨np, hs⟩ := hs
  refine andW_of (v_value.isT "int") (!v_value.isT "bool" && intW v_value) (fun P hP => ⟨np, hP⟩) (fun h P hP => andW_of (!v_value.isT "bool") (intW v_value) (fun P hP => ⟨np, hP⟩) (fun h2 P hP => ?_) hP) ?_
  · cases v_value with
    | dat d =>
      rw [isT_int] at h
      rw [isT_bool] at h2
      cases d with
      | int i =>
        show chW (fun Q X => Q (-10 ^ 60)) (fun Q E => ∃ j, Wv.dat (PyData.int i) = Wv.dat (PyData.int j) ∧ Q j) (fun Q x => Q (10 ^ 60)) (fun i j => decide (i < j)) (fun i j => decide (i < j)) P X0
        refine ⟨i, rfl, ?_⟩
        have hP : P (decide (-(10 ^ 60) < i) && decide (i < 10 ^ 60)) := hP
        show (if decide ((-10 ^ 60 : Int) < i) = true then P (decide (i < 10 ^ 60)) else P false)
        have hP : P (decide ((-10 ^ 60 : Int) < i) && decide (i < 10 ^ 60)) := hP
        cases e : decide ((-10 ^ 60 : Int) < i) with
        | true => rw [e] at hP; exact hP
        | false => rw [e] at hP; exact hP
      | bool b => cases h2
      | _ => cases h
    | dk es => exact absurd h (show ¬ ("int" == "dict") = true by decide)
    | _ => cases h
  · have e : (v_value.isT "int" && (!v_value.isT "bool" && intW v_value)) = intW v_value := by
      cases v_value with
      | dat d =>
        rw [isT_int, isT_bool]
        cases d <;> first | rfl | simp [intW, isInt]
      | _ => rfl
    rw [e]; exact hs
theorem ok_is_between_v1 {f : Addr} {fd : FuncData} (B : Bf mg) (c_is_integer_1 : Gf P w K mg base 1 "is_integer" (SpN (fun g : Wv => [(fW (YY K C_Web C_Pool P w)) g]) (fun (g : Wv) (Q : Bool → Prop) => g.isPool = false ∧ Q (intW g)) (fD K dB))) (F : Fun K "is_between" "is_between" s_is_between f fd) (hm : mg "is_between" = some (.ref f)) (b : Binds K fd ["value", "low", "high"] []) : Gf P w K mg base 2 "is_between" (SpN (fun g : Wv × Int × Int => [(fW (YY K C_Web C_Pool P w)) g.1, (fD K dInt) g.2.1, (fD K dInt) g.2.2]) (fun (g : Wv × Int × Int) (Q : Bool → Prop) => g.1.isPool = false ∧ Q (btW g.1 g.2.1 g.2.2)) (fD K dB)) := by
  refine gw_mk F hm b sc_is_between (fun _ => rfl) (fun _ => inferInstance) fun cdv A outer s H E g hr => ?_
  obtain ⟨v_value, v_low, v_high⟩ := g
  refine ⟨_, (pss_one (ps_ret (pe_and (p_call c_is_integer_1 hr (by decide) (pa_cons (pv 0) pa_nil)) (pe_one (pe_chain op_le op_le (pv 1) (pv 0) (pv 2)))))), _,
    (ts_ret (tr_and (tr_call (ta_one (tr_var (R := (fW (YY K C_Web C_Pool P w))) (a := v_value) rfl))) (tr_chain (tr_var (R := (fD K dInt)) (a := v_low) rfl) (tr_Wi (X := YY K C_Web C_Pool P w) (tr_var (R := (fW (YY K C_Web C_Pool P w))) (a := v_value) rfl)) (tr_var (R := (fD K dInt)) (a := v_high) rfl)))), ?_⟩
  rintro Q ⟨vs0, F0, hv⟩ hs
  try delta pur
  try dsimp only at hs hv ⊢
  obtain ⟨np, hs⟩ := hs
  refine andW_of (intW v_value) (btW v_value v_low v_high) (fun P hP => ⟨np, hP⟩) (fun h P hP => ?_) ?_
  · cases v_value with
    | dat d =>
      have h : isInt d = true := h
      obtain ⟨i, rfl, _⟩ := isInt_shape h
      refine ⟨i, rfl, ?_⟩
      have hP : P (isInt (.int i) && (decide (v_low ≤ i) && decide (i ≤ v_high))) := hP
      rw [h, Bool.true_and] at hP
      show (if decide (v_low ≤ i) = true then _ else _)
      by_cases e : v_low ≤ i
      · rw [decide_eq_true e] at hP ⊢
        exact hP
      · rw [decide_eq_false e] at hP ⊢
        exact hP
    | _ => cases h
  · have e : (intW v_value && btW v_value v_low v_high) = btW v_value v_low v_high := by
      cases v_value with
      | dat d =>
        show (isInt d && (isInt d && _)) = (isInt d && _)
        cases isInt d <;> rfl
      | _ => rfl
    rw [e]; exact hs
theorem ok_is_rising_v1 {f : Addr} {fd : FuncData} (B : Bf mg) (c_is_between_1 : Gf P w K mg base 2 "is_between" (SpN (fun g : Wv × Int × Int => [(fW (YY K C_Web C_Pool P w)) g.1, (fD K dInt) g.2.1, (fD K dInt) g.2.2]) (fun (g : Wv × Int × Int) (Q : Bool → Prop) => g.1.isPool = false ∧ Q (btW g.1 g.2.1 g.2.2)) (fD K dB))) (okW : WxW (YY K C_Web C_Pool P w)) (F : Fun K "is_rising" "is_rising" s_is_rising f fd) (hm : mg "is_rising" = some (.ref f)) (b : Binds K fd ["value", "low", "high"] []) : Gf P w K mg base 3 "is_rising" (SpN (fun g : Wv × Int × Int => [(fW (YY K C_Web C_Pool P w)) g.1, (fD K dInt) g.2.1, (fD K dInt) g.2.2]) (fun (g : Wv × Int × Int) (Q : Bool → Prop) => (wf1 g.1 ∧ 0 ≤ g.2.1) ∧ Q (risW g.1 g.2.1 g.2.2)) (fD K dB)) := by
  refine gw_mk F hm b sc_is_rising (fun _ => rfl) (fun _ => inferInstance) fun cdv A outer s H E g hr => ?_
  obtain ⟨v_value, v_low, v_high⟩ := g
  refine ⟨_, (pss_cons (ps_if (PW.pt (pw_or (pt_not (pt_val (p_isiS (.type "tuple") B (pa_cons (pv 0) (pa_cons (p_ty (by rfl) B.tuple boot_tuple) pa_nil))))) (pw_or1 (pt_not (pt_val (p_all rfl B (pa_cons (pe_lc (own := [("number", 3)]) (g := gName 3) (tt := tYes) rfl sc_is_rising.nd (pi_tup (pv 0)) (blkOk_by (N := N_is_rising) (sc := defScope s_is_rising) (by decide +kernel)) (fun _ _ _ _ _ => (pg_name (i := 3) sc_is_rising.nd rfl (by first | exact Or.inl rfl | exact Or.inr rfl))) (fun _ _ _ _ _ => pts_nil) (fun _ _ _ _ _ => by exact (p_call c_is_between_1 hr (by decide) (pa_cons (pv 3) (pa_cons (pv 1) (pa_cons (pv 2) pa_nil)))))) pa_nil)))))))
      (pss_one (ps_ret pe_bl))
      pss_nil)
    (pss_one (ps_ret (pe_cmpR (op_eqD hr.units) (p_list B (pa_cons (pv 0) pa_nil)) (p_sortedSet rfl B (pa_cons (p_set rfl B (pa_cons (pv 0) pa_nil)) pa_nil)) (nomark _))))), _,
    (ts_ifq (tt_or (tt_not (tt_B (tr_cb (c_isiTW okW "tuple") (ta_cons (tr_var (R := (fW (YY K C_Web C_Pool P w))) (a := v_value) rfl) (ta_one tr_ty))))) (tt_not (tt_B (tr_cb c_all (ta_one (tr_lc (vs := [3]) (Rd := (fD K dB)) (ti_tup (tr_Wt2 (X := YY K C_Web C_Pool P w) (tr_var (R := (fW (YY K C_Web C_Pool P w))) (a := v_value) rfl))) (tg_name (R := (fW (YY K C_Web C_Pool P w))) 3) rfl rfl rfl (fun _ => rfl) (fun x1 => tt_yes) (fun x1 => (tr_call (ta_cons (tr_var (R := (fW (YY K C_Web C_Pool P w))) (a := x1) rfl) (ta_cons (tr_var (R := (fD K dInt)) (a := v_low) rfl) (ta_one (tr_var (R := (fD K dInt)) (a := v_high) rfl))))))))))))
      (ts_retq (tr_bl (K := K)))
      (ts_nextq (ts_ret (tr_op (o_eqD (d := (dL dN))) (tr_lnD (tr_cb (c_listT (R := (fD K dN))) (ta_one (tr_dTp (tr_WtN (X := YY K C_Web C_Pool P w) (tr_var (R := (fW (YY K C_Web C_Pool P w))) (a := v_value) rfl)))))) (tr_cb c_sortedSet (ta_one (tr_cb c_setT (ta_one (tr_WtN (X := YY K C_Web C_Pool P w) (tr_var (R := (fW (YY K C_Web C_Pool P w))) (a := v_value) rfl)))))))))), ?_⟩
  rintro Q ⟨vs0, F0, hv⟩ hs
  try delta pur
  try dsimp only at hs hv ⊢
  obtain ⟨⟨hf, h0⟩, q⟩ := hs
  have np := wf1_np hf
  by_cases ht : v_value.isT "tuple" = true
  · rcases isT_tuple ht hf with ⟨ds, rfl, hl⟩ | ⟨us, rfl, hl, nd, npu⟩
    · have em : ((ds.map Wv.dat).map fun x => btW x v_low v_high).all id = ds.all fun x => isBt x v_low v_high := by
        rw [List.map_map, List.all_map]; rfl
      refine orW_of false (!ds.all fun x => isBt x v_low v_high) (fun P hP => ⟨np, by rw [ht]; exact hP⟩) (fun _ P hP => ⟨_, rfl, by rw [List.length_map]; omega, lcW_map (h := fun x => btW x v_low v_high) (fun x hx Q hQ => ⟨by obtain ⟨d, _, rfl⟩ := List.mem_map.mp hx; rfl, hQ⟩) (by rw [em]; exact hP)⟩) ?_
      rw [Bool.false_or]
      replace q : Q ((ds.all fun x => isBt x v_low v_high) && decide ((ds.map toI).Pairwise (· < ·))) := q
      cases ha : ds.all fun x => isBt x v_low v_high with
      | false =>
        rw [ha] at q
        exact q
      | true =>
        rw [ha, Bool.true_and] at q
        obtain ⟨e, _⟩ := nat_ds h0 ha
        generalize (ds.map fun d => (toI d).toNat) = ns at e
        subst e
        rw [List.length_map] at hl
        refine ⟨ns, rfl, ns, rfl, by omega, by omega, ?_⟩
        have eq : decide (((ns.map dN).map toI).Pairwise (· < ·)) = decide (ns = sset ns) := decide_eq_decide.mpr ⟨fun h => (sset_eq (asc_ints.mp h) fun _ => Iff.rfl).symm, fun h => asc_ints.mpr (by rw [h]; exact asc_sset)⟩
        rw [← eq]; exact q
    · refine orW_of false true (fun P hP => ⟨np, by rw [ht]; exact hP⟩) (fun _ P hP => ⟨us, rfl, by omega, lcW_map (h := fun x => btW x v_low v_high) (fun x hx Q hQ => ⟨npu x hx, hQ⟩) (by rw [all_nd nd fun y _ z => btW_nd z]; exact hP)⟩) ?_
      exact q
  · have ht : v_value.isT "tuple" = false := by simpa using ht
    refine orW_of true true (fun P hP => ⟨np, by rw [ht]; exact hP⟩) (fun z => by cases z) ?_
    rw [risW_isT ht] at q
    exact q
theorem ok_is_heard_row_v1 {f : Addr} {fd : FuncData} (B : Bf mg) (c_is_rising_1 : Gf P w K mg base 3 "is_rising" (SpN (fun g : Wv × Int × Int => [(fW (YY K C_Web C_Pool P w)) g.1, (fD K dInt) g.2.1, (fD K dInt) g.2.2]) (fun (g : Wv × Int × Int) (Q : Bool → Prop) => (wf1 g.1 ∧ 0 ≤ g.2.1) ∧ Q (risW g.1 g.2.1 g.2.2)) (fD K dB))) (F : Fun K "is_heard_row" "is_heard_row" s_is_heard_row f fd) (hm : mg "is_heard_row" = some (.ref f)) (b : Binds K fd ["value", "house", "size"] []) : Gf P w K mg base 4 "is_heard_row" (SpN (fun g : Wv × Nat × Nat => [(fW (YY K C_Web C_Pool P w)) g.1, (fD K dN) g.2.1, (fD K dN) g.2.2]) (fun (g : Wv × Nat × Nat) (Q : Bool → Prop) => wf1 g.1 ∧ Q (hrowW g.1 g.2.1 g.2.2)) (fD K dB)) := by
  refine gw_mk F hm b sc_is_heard_row (fun _ => rfl) (fun _ => inferInstance) fun cdv A outer s H E g hr => ?_
  obtain ⟨v_value, v_house, v_size⟩ := g
  refine ⟨_, (pss_one (ps_ret (pe_and (p_call c_is_rising_1 hr (by decide) (pa_cons (pv 0) (pa_cons pe_int (pa_cons (pe_op op_sub (pv 2) pe_int) pa_nil)))) (pe_one (pe_cmpR op_notIn_seq (pv 1) (pv 0) rfl))))), _,
    (ts_ret (tr_and (tr_call (ta_cons (tr_var (R := (fW (YY K C_Web C_Pool P w))) (a := v_value) rfl) (ta_cons (tr_int (K := K)) (ta_one (tr_op o_i0i (tr_ni (tr_var (R := (fD K dN)) (a := v_size) rfl)) (tr_int (K := K))))))) (tr_op o_notInT (tr_var (R := (fD K dN)) (a := v_house) rfl) (tr_WtN (X := YY K C_Web C_Pool P w) (tr_var (R := (fW (YY K C_Web C_Pool P w))) (a := v_value) rfl))))), ?_⟩
  rintro Q ⟨vs0, F0, hv⟩ hs
  try delta pur
  try dsimp only at hs hv ⊢
  obtain ⟨hf, q⟩ := hs
  refine andW_of (risW v_value 0 ((v_size : Int) - 1)) (hrowW v_value v_house v_size) (fun P hP => ⟨⟨hf, by decide⟩, hP⟩) (fun h P hP => ?_) ?_
  · obtain ⟨ds, rfl⟩ := risW_tuple h
    have h : isRising (.tuple ds) 0 ((v_size : Int) - 1) = true := h
    have hP : P (isHeardRow (.tuple ds) v_house v_size) := hP
    rw [isHeardRow, h, Bool.true_and] at hP
    rw [isRising, Bool.and_eq_true] at h
    obtain ⟨e, _⟩ := nat_ds (by decide) h.1
    generalize (ds.map fun d => (toI d).toNat) = ns at e
    subst e
    refine ⟨ns, rfl, ?_⟩
    rw [inRow, List.map_map] at hP
    have : decide ((v_house : Int) ∈ ns.map (toI ∘ dN)) = decide (v_house ∈ ns) := decide_eq_decide.mpr ⟨fun h => by
      obtain ⟨x, hx, e⟩ := List.mem_map.mp h
      have e : (x : Int) = v_house := e
      have : x = v_house := by omega
      rw [← this]; exact hx, fun h => List.mem_map.mpr ⟨_, h, rfl⟩⟩
    rw [this] at hP
    exact hP
  · have e : (risW v_value 0 ((v_size : Int) - 1) && hrowW v_value v_house v_size) = hrowW v_value v_house v_size := by
      cases v_value with
      | dat d =>
        show (isRising d 0 _ && (isRising d 0 _ && _)) = (isRising d 0 _ && _)
        rw [← Bool.and_assoc, Bool.and_self]
      | _ => rfl
    rw [e]; exact q
theorem zip_enum {α : Type} {xs : List α} {f : Nat → α → Bool} : ((enumL xs).map fun p => f p.1 p.2).all id = xs.zipIdx.all fun p => f p.2 p.1 := by
  unfold enumL
  rw [List.map_map, List.all_map]
  rfl
theorem enum_map2 {α β : Type} {g : α → β} {xs : List α} : enumL (xs.map g) = (enumL xs).map fun p => (p.1, g p.2) := by
  unfold enumL
  rw [List.zipIdx_map, List.map_map, List.map_map]
  rfl
theorem enum_in {α : Type} {xs : List α} {p : Nat × α} (h : p ∈ enumL xs) : p.2 ∈ xs := by
  unfold enumL at h
  obtain ⟨q, hq, rfl⟩ := List.mem_map.mp h
  exact List.mem_of_getElem? (List.mem_zipIdx_iff_getElem?.mp hq)
theorem rows_nd {us : List Wv} {n : Nat} (h : ∃ y ∈ us, y.isDat = false) : (((enumL us).map fun p => hrowW p.2 p.1 n).all id) = false := by
  cases e : ((enumL us).map fun p => hrowW p.2 p.1 n).all id with
  | false => rfl
  | true =>
    obtain ⟨y, hy, hd⟩ := h
    obtain ⟨i, hi, ei⟩ := List.mem_iff_getElem.mp hy
    have hm : (i, y) ∈ enumL us := by
      unfold enumL
      exact List.mem_map.mpr ⟨(y, i), List.mem_zipIdx_iff_getElem?.mpr (by rw [List.getElem?_eq_getElem hi, ei]), rfl⟩
    have := List.all_eq_true.mp e (hrowW y i n) (List.mem_map.mpr ⟨(i, y), hm, rfl⟩)
    rw [hrowW_nd hd] at this; cases this
theorem ok_is_heard_v1 {f : Addr} {fd : FuncData} (B : Bf mg) (g_MAX_SIZE : GInt mg "MAX_SIZE" 5) (okW : WxW (YY K C_Web C_Pool P w)) (c_is_heard_row_1 : Gf P w K mg base 4 "is_heard_row" (SpN (fun g : Wv × Nat × Nat => [(fW (YY K C_Web C_Pool P w)) g.1, (fD K dN) g.2.1, (fD K dN) g.2.2]) (fun (g : Wv × Nat × Nat) (Q : Bool → Prop) => wf1 g.1 ∧ Q (hrowW g.1 g.2.1 g.2.2)) (fD K dB))) (F : Fun K "is_heard" "is_heard" s_is_heard f fd) (hm : mg "is_heard" = some (.ref f)) (b : Binds K fd ["value"] []) : Gf P w K mg base 5 "is_heard" (SpN (fun g : Wv => [(fW (YY K C_Web C_Pool P w)) g]) (fun (g : Wv) (Q : Bool → Prop) => wfW g ∧ Q (heardW g)) (fD K dB)) := by
  refine gw_mk F hm b sc_is_heard (fun _ => rfl) (fun _ => inferInstance) fun cdv A outer s H E g hr => ?_
  obtain ⟨v_value, hgen⟩ : ∃ x, x = g := ⟨g, rfl⟩
  subst hgen
  refine ⟨_, (pss_cons (ps_if (PW.pt (pw_or (pt_not (pt_val (p_isiS (.type "tuple") B (pa_cons (pv 0) (pa_cons (p_ty (by rfl) B.tuple boot_tuple) pa_nil))))) (pw_or1 (pt_not (pt_chain op_le op_le pe_int (p_len B (pa_cons (pv 0) pa_nil)) (p_gint g_MAX_SIZE))))))
      (pss_one (ps_ret pe_bl))
      pss_nil)
    (pss_one (ps_ret (p_all rfl B (pa_cons (pe_lc (own := [("house", 1), ("row", 2)]) (g := gTup K 2 (gCons (gName 1) (gCons (gName 2) gNil))) (tt := tYes) rfl sc_is_heard.nd (pi_enumT (by rfl) B.enumerate (pa_cons (pv 0) pa_nil)) (blkOk_by (N := N_is_heard) (sc := defScope s_is_heard) (by decide +kernel)) (fun _ _ _ _ _ => (pg_tup rfl (pgs_cons (pg_name (i := 1) sc_is_heard.nd rfl (by first | exact Or.inl rfl | exact Or.inr rfl)) (pgs_cons (pg_name (i := 2) sc_is_heard.nd rfl (by first | exact Or.inl rfl | exact Or.inr rfl)) pgs_nil)))) (fun _ _ _ _ _ => pts_nil) (fun _ _ _ _ _ => by exact (p_call c_is_heard_row_1 hr (by decide) (pa_cons (pv 2) (pa_cons (pv 1) (pa_cons (p_lenK K B (pa_cons (pv 0) pa_nil)) pa_nil)))))) pa_nil))))), _,
    (ts_ifq (tt_or (tt_not (tt_B (tr_cb (c_isiTW okW "tuple") (ta_cons (tr_var (R := (fW (YY K C_Web C_Pool P w))) (a := v_value) rfl) (ta_one tr_ty))))) (tt_not (tt_test (tr_chain (tr_int (K := K)) (tr_ni (tr_cb c_lenT (ta_one (tr_Wt2 (X := YY K C_Web C_Pool P w) (tr_var (R := (fW (YY K C_Web C_Pool P w))) (a := v_value) rfl))))) (tr_ni (tr_nat (K := K) 5))))))
      (ts_retq (tr_bl (K := K)))
      (ts_nextq (ts_ret (tr_cb c_all (ta_one (tr_lc (vs := [1, 2]) (Rd := (fD K dB)) (ti_enumT (R := (fW (YY K C_Web C_Pool P w))) (tr_Wt2 (X := YY K C_Web C_Pool P w) (tr_var (R := (fW (YY K C_Web C_Pool P w))) (a := v_value) rfl))) (tg_pair (tg_name (R := (fD K dN)) 1) (tg_name (R := (fW (YY K C_Web C_Pool P w))) 2)) rfl rfl rfl (fun _ => rfl) (fun x1 => tt_yes) (fun x1 => (tr_call (ta_cons (tr_var (R := (fW (YY K C_Web C_Pool P w))) (a := x1.2) rfl) (ta_cons (tr_var (R := (fD K dN)) (a := x1.1) rfl) (ta_one (tr_cb c_lenT (ta_one (tr_Wt2 (X := YY K C_Web C_Pool P w) (tr_var (R := (fW (YY K C_Web C_Pool P w))) (a := v_value) rfl))))))))))))))), ?_⟩
  rintro Q ⟨vs0, F0, hv⟩ hs
  try delta pur
  try dsimp only at hs hv ⊢
  obtain ⟨hf, q⟩ := hs
  have np := wfW_np hf
  by_cases ht : v_value.isT "tuple" = true
  · have go : ∀ ws : List Wv, v_value.items = some ws → ∀ P : Bool → Prop, P (!(decide ((1 : Int) ≤ (ws.length : Int)) && decide ((ws.length : Int) ≤ ((5 : Nat) : Int)))) → orW (fun Q X => v_value.isPool = false ∧ Q !v_value.isT "tuple") (fun Q X => chW (fun Q x => Q 1) (fun Q X => ∃ ws, v_value.items = some ws ∧ Q (ws.length : Int)) (fun Q X => Q ((5 : Nat) : Int)) (fun i j => decide (i ≤ j)) (fun i j => decide (i ≤ j)) (fun a => Q !a) X) P (X0 : Empty → Prop) := fun ws hw P hP =>
      orW_of false (!(decide ((1 : Int) ≤ (ws.length : Int)) && decide ((ws.length : Int) ≤ ((5 : Nat) : Int)))) (fun P hP => ⟨np, by rw [ht]; exact hP⟩) (fun _ P hP => by
        refine ⟨ws, hw, ?_⟩
        show (if decide ((1 : Int) ≤ (ws.length : Int)) = true then _ else _)
        cases e : decide ((1 : Int) ≤ (ws.length : Int)) with
        | true => rw [e] at hP; exact hP
        | false => rw [e] at hP; exact hP) (by rw [Bool.false_or]; exact hP)
    suffices H : ∃ ws : List Wv, v_value.items = some ws ∧ (∀ y ∈ ws, wf1 y) ∧ Q ((decide ((1 : Int) ≤ (ws.length : Int)) && decide ((ws.length : Int) ≤ ((5 : Nat) : Int))) && (((enumL ws).map fun p => hrowW p.2 p.1 ws.length).all id)) by
      obtain ⟨ws, hw, wf, q⟩ := H
      refine go ws hw _ ?_
      cases hc : (decide ((1 : Int) ≤ (ws.length : Int)) && decide ((ws.length : Int) ≤ ((5 : Nat) : Int))) with
      | false =>
        rw [hc] at q
        exact q
      | true =>
        rw [hc, Bool.true_and] at q
        rw [Bool.and_eq_true, decide_eq_true_eq, decide_eq_true_eq] at hc
        exact ⟨ws, hw, by rw [enum_len]; omega, lcW_map (h := fun p => hrowW p.2 p.1 ws.length) (fun p hp Q hQ => ⟨ws, hw, wf p.2 (enum_in hp), hQ⟩) q⟩
    rcases isT_tuple ht (wf_1 hf) with ⟨ds, rfl, hl⟩ | ⟨us, rfl, hl, nd, npu⟩
    · refine ⟨ds.map .dat, rfl, (fun y hy => by obtain ⟨d, hd, rfl⟩ := List.mem_map.mp hy; exact hf.2 d hd), ?_⟩
      have q : Q ((decide ((1 : Int) ≤ (ds.length : Int)) && decide ((ds.length : Int) ≤ 5)) && ds.zipIdx.all fun p => isHeardRow p.1 p.2 ds.length) := q
      rw [List.length_map, enum_map2, List.map_map]
      have e := zip_enum (xs := ds) (f := fun i d => isHeardRow d i ds.length)
      rw [← e] at q
      exact q
    · refine ⟨us, rfl, hf.2.2, ?_⟩
      rw [rows_nd nd, Bool.and_false]
      exact q
  · have ht : v_value.isT "tuple" = false := by simpa using ht
    refine orW_of true true (fun P hP => ⟨np, by rw [ht]; exact hP⟩) (fun z => by cases z) ?_
    rw [heardW_isT ht] at q
    exact q
abbrev s__law_is_whole : Stmt := topS 24
abbrev N__law_is_whole : List Str := ["_law_value"]
theorem sc__law_is_whole : FnScope N__law_is_whole ["_law_value"] (defScope s__law_is_whole) := ⟨rfl, rfl, rfl, by decide +kernel, rfl, by decide +kernel, by decide +kernel⟩
theorem ok__law_is_whole {f : Addr} {fd : FuncData} (B : Bf mg) (okW : WxW (YY K C_Web C_Pool P w)) (F : Fun K "_law_is_whole" "_law_is_whole" s__law_is_whole f fd) (hm : mg "_law_is_whole" = some (.ref f)) (b : Binds K fd ["_law_value"] []) : Gf P w K mg base 1 "_law_is_whole" (SpN (fun g : Wv => [(fW (YY K C_Web C_Pool P w)) g]) (fun (g : Wv) (Q : Bool → Prop) => g.isPool = false ∧ Q (intW g)) (fD K dB)) := by
  refine gw_mk F hm b sc__law_is_whole (fun _ => rfl) (fun _ => inferInstance) fun cdv A outer s H E g hr => ?_
  obtain ⟨v__law_value, hgen⟩ : ∃ x, x = g := ⟨g, rfl⟩
  subst hgen
  refine ⟨_, (pss_one (ps_ret (pe_and (p_isiS (.type "int") B (pa_cons (pv 0) (pa_cons (p_ty (by rfl) B.int boot_int) pa_nil))) (pe_and (pe_not (p_isiS (.type "bool") B (pa_cons (pv 0) (pa_cons (p_ty (by rfl) B.bool boot_bool) pa_nil)))) (pe_one (pe_cmpR op_lt (p_abs B (pa_cons (pv 0) pa_nil)) (pe_op Nq.op_powX pe_int pe_int) (nomark _))))))), _,
    (ts_ret (tr_and (tr_cb (c_isiTW okW "int") (ta_cons (tr_var (R := (fW (YY K C_Web C_Pool P w))) (a := v__law_value) rfl) (ta_one tr_ty))) (tr_and (tr_not (tr_cb (c_isiTW okW "bool") (ta_cons (tr_var (R := (fW (YY K C_Web C_Pool P w))) (a := v__law_value) rfl) (ta_one tr_ty)))) (tr_op o_i0b (tr_cb c_absI (ta_one (tr_Wi (X := YY K C_Web C_Pool P w) (tr_var (R := (fW (YY K C_Web C_Pool P w))) (a := v__law_value) rfl)))) (tr_op o_ii (tr_int (K := K)) (tr_int (K := K))))))), ?_⟩
  rintro Q ⟨vs0, F0, hv⟩ hs
  try delta pur
  try dsimp only at hs hv ⊢
  obtain ⟨np, hs⟩ := hs
  refine andW_of (v__law_value.isT "int") (!v__law_value.isT "bool" && intW v__law_value) (fun P hP => ⟨np, hP⟩) (fun h P hP => andW_of (!v__law_value.isT "bool") (intW v__law_value) (fun P hP => ⟨np, hP⟩) (fun h2 P hP => ?_) hP) ?_
  · cases v__law_value with
    | dat d =>
      rw [isT_int] at h
      rw [isT_bool] at h2
      cases d with
      | int i =>
        refine ⟨i, rfl, ⟨by decide, by decide +kernel⟩, ?_⟩
        have hP : P (decide (-(10 ^ 60) < i) && decide (i < 10 ^ 60)) := hP
        rw [abs_lt]
        exact hP
      | bool b => cases h2
      | _ => cases h
    | dk es => exact absurd h (show ¬ ("int" == "dict") = true by decide)
    | _ => cases h
  · have e : (v__law_value.isT "int" && (!v__law_value.isT "bool" && intW v__law_value)) = intW v__law_value := by
      cases v__law_value with
      | dat d =>
        rw [isT_int, isT_bool]
        cases d <;> first | rfl | simp [intW, isInt]
      | _ => rfl
    rw [e]; exact hs
theorem items_wf {w : Wv} (h : w.isT "tuple" = true) (f : wf1 w) : ∃ ws, w.items = some ws ∧ ws.length ≤ 60 ∧ (∀ y ∈ ws, y.isPool = false) ∧ (ws.all intW = true → ∃ ns : List Int, w = .dat (.tuple (ns.map .int)) ∧ ws = (ns.map PyData.int).map .dat) := by
  rcases isT_tuple h f with ⟨ds, rfl, hl⟩ | ⟨us, rfl, hl, nd, npu⟩
  · refine ⟨ds.map .dat, rfl, by rw [List.length_map]; exact hl, (fun y hy => by obtain ⟨d, _, rfl⟩ := List.mem_map.mp hy; rfl), fun ha => ?_⟩
    have : ds.all isInt = true := by
      rw [List.all_map] at ha; exact ha
    obtain ⟨ns, rfl⟩ := ints_at this
    exact ⟨ns, rfl, rfl⟩
  · refine ⟨us, rfl, hl, npu, fun ha => ?_⟩
    obtain ⟨y, hy, hd⟩ := nd
    have := List.all_eq_true.mp ha y hy
    rw [intW_nd hd] at this; cases this
def oddI (n h : Nat) : Wv → Bool
  | .dat (.int x) => decide (x < 0) || (decide ((n : Int) ≤ x) || decide (x = (h : Int)))
  | _ => true
theorem odd_left {ns : List Int} {n h : Nat} : decide ((((ns.map PyData.int).map Wv.dat).filter (oddI n h)).length = 0) = decide (ns.filter (fun x => decide (x < 0) || (decide ((n : Int) ≤ x) || decide (x = (h : Int)))) = []) := by
  rw [List.map_map, List.filter_map, List.length_map]
  refine decide_eq_decide.mpr ?_
  rw [List.length_eq_zero_iff]
  rfl
abbrev s__law_is_row : Stmt := topS 25
abbrev N__law_is_row : List Str := ["_law_value", "_law_house", "_law_size", "_law_one"]
theorem sc__law_is_row : FnScope N__law_is_row ["_law_value", "_law_house", "_law_size"] (defScope s__law_is_row) := ⟨rfl, rfl, rfl, by decide +kernel, rfl, by decide +kernel, by decide +kernel⟩
theorem ok__law_is_row {f : Addr} {fd : FuncData} (B : Bf mg) (c_law_is_whole : Gf P w K mg base 1 "_law_is_whole" (SpN (fun g : Wv => [(fW (YY K C_Web C_Pool P w)) g]) (fun (g : Wv) (Q : Bool → Prop) => g.isPool = false ∧ Q (intW g)) (fD K dB))) (okW : WxW (YY K C_Web C_Pool P w)) (F : Fun K "_law_is_row" "_law_is_row" s__law_is_row f fd) (hm : mg "_law_is_row" = some (.ref f)) (b : Binds K fd ["_law_value", "_law_house", "_law_size"] []) : Gf P w K mg base 2 "_law_is_row" (SpN (fun g : Wv × Nat × Nat => [(fW (YY K C_Web C_Pool P w)) g.1, (fD K dN) g.2.1, (fD K dN) g.2.2]) (fun (g : Wv × Nat × Nat) (Q : Bool → Prop) => (wf1 g.1 ∧ g.2.2 ≤ 5) ∧ Q (hrowW g.1 g.2.1 g.2.2)) (fD K dB)) := by
  refine gw_mk F hm b sc__law_is_row (fun _ => rfl) (fun _ => inferInstance) fun cdv A outer s H E g hr => ?_
  obtain ⟨v__law_value, v__law_house, v__law_size⟩ := g
  refine ⟨_, (pss_cons (ps_if (PW.pt (pw_or (pt_not (pt_val (p_isiS (.type "tuple") B (pa_cons (pv 0) (pa_cons (p_ty (by rfl) B.tuple boot_tuple) pa_nil))))) (pw_or1 (pt_cmpR (op_neNil hr.units0) (pe_lc (own := [("_law_one", 3)]) (g := gName 3) rfl sc__law_is_row.nd (pi_tup (pv 0)) (blkOk_by (N := N__law_is_row) (sc := defScope s__law_is_row) (by decide +kernel)) (fun _ _ _ _ _ => (pg_name (i := 3) sc__law_is_row.nd rfl (by first | exact Or.inl rfl | exact Or.inr rfl))) (fun _ _ _ _ _ => (pts_one (pt_not (pt_val (p_call c_law_is_whole hr (by decide) (pa_cons (pv 3) pa_nil)))))) (fun _ _ _ _ _ => by exact (pv 3))) (pe_lst pa_nil) (nomark _)))))
      (pss_one (ps_ret pe_bl))
      pss_nil)
    (pss_cons (ps_if (pt_cmpR (op_neNil hr.units0) (pe_lc (own := [("_law_one", 3)]) (g := gName 3) rfl sc__law_is_row.nd (pi_tup (pv 0)) (blkOk_by (N := N__law_is_row) (sc := defScope s__law_is_row) (by decide +kernel)) (fun _ _ _ _ _ => (pg_name (i := 3) sc__law_is_row.nd rfl (by first | exact Or.inl rfl | exact Or.inr rfl))) (fun _ _ _ _ _ => (pts_one (PW.pt (pw_or (pt_cmpR op_lt (pv 3) pe_int (nomark _)) (pw_or (pt_cmpR op_ge (pv 3) (pv 2) (nomark _)) (pw_or1 (pt_cmpR op_eq (pv 3) (pv 1) (nomark _)))))))) (fun _ _ _ _ _ => by exact (pv 3))) (pe_lst pa_nil) (nomark _))
      (pss_one (ps_ret pe_bl))
      pss_nil)
    (pss_one (ps_ret (pe_cmpR (op_eqD hr.units) (p_list B (pa_cons (pv 0) pa_nil)) (p_sortedSet rfl B (pa_cons (p_set rfl B (pa_cons (pv 0) pa_nil)) pa_nil)) (nomark _)))))), _,
    (ts_ifq (tt_or (tt_not (tt_B (tr_cb (c_isiTW okW "tuple") (ta_cons (tr_var (R := (fW (YY K C_Web C_Pool P w))) (a := v__law_value) rfl) (ta_one tr_ty))))) (tt_test (tr_op (o_neNil (Rb := (fD K dN))) (tr_lc (vs := [3]) (Rd := (fW (YY K C_Web C_Pool P w))) (ti_tup (tr_Wt2 (X := YY K C_Web C_Pool P w) (tr_var (R := (fW (YY K C_Web C_Pool P w))) (a := v__law_value) rfl))) (tg_name (R := (fW (YY K C_Web C_Pool P w))) 3) rfl rfl rfl (fun _ => rfl) (fun x1 => (tt_not (tt_B (tr_call (ta_one (tr_var (R := (fW (YY K C_Web C_Pool P w))) (a := x1) rfl)))))) (fun x1 => (tr_var (R := (fW (YY K C_Web C_Pool P w))) (a := x1) rfl))) (tr_lst (R := (fD K dN)) (ta_lnil (R := (fD K dN)))))))
      (ts_retq (tr_bl (K := K)))
      (ts_nextq (ts_ifq (tt_test (tr_op (o_neNil (Rb := (fD K dN))) (tr_lc (vs := [3]) (Rd := (fW (YY K C_Web C_Pool P w))) (ti_tup (tr_Wt2 (X := YY K C_Web C_Pool P w) (tr_var (R := (fW (YY K C_Web C_Pool P w))) (a := v__law_value) rfl))) (tg_name (R := (fW (YY K C_Web C_Pool P w))) 3) rfl rfl rfl (fun _ => rfl) (fun x2 => (tt_or (tt_test (tr_op o_i0b (tr_Wi (X := YY K C_Web C_Pool P w) (tr_var (R := (fW (YY K C_Web C_Pool P w))) (a := x2) rfl)) (tr_int (K := K)))) (tt_or (tt_test (tr_op o_i0b (tr_Wi (X := YY K C_Web C_Pool P w) (tr_var (R := (fW (YY K C_Web C_Pool P w))) (a := x2) rfl)) (tr_ni (tr_var (R := (fD K dN)) (a := v__law_size) rfl)))) (tt_test (tr_op o_eqI (tr_Wi (X := YY K C_Web C_Pool P w) (tr_var (R := (fW (YY K C_Web C_Pool P w))) (a := x2) rfl)) (tr_ni (tr_var (R := (fD K dN)) (a := v__law_house) rfl))))))) (fun x2 => (tr_var (R := (fW (YY K C_Web C_Pool P w))) (a := x2) rfl))) (tr_lst (R := (fD K dN)) (ta_lnil (R := (fD K dN))))))
      (ts_retq (tr_bl (K := K)))
      (ts_nextq (ts_ret (tr_op (o_eqD (d := (dL dN))) (tr_lnD (tr_cb (c_listT (R := (fD K dN))) (ta_one (tr_dTp (tr_WtN (X := YY K C_Web C_Pool P w) (tr_var (R := (fW (YY K C_Web C_Pool P w))) (a := v__law_value) rfl)))))) (tr_cb c_sortedSet (ta_one (tr_cb c_setT (ta_one (tr_WtN (X := YY K C_Web C_Pool P w) (tr_var (R := (fW (YY K C_Web C_Pool P w))) (a := v__law_value) rfl)))))))))))), ?_⟩
  rintro Q ⟨vs0, F0, hv⟩ hs
  try delta pur
  try dsimp only at hs hv ⊢
  obtain ⟨⟨hf, h5⟩, q⟩ := hs
  have np := wf1_np hf
  by_cases ht : v__law_value.isT "tuple" = true
  · obtain ⟨ws, hw, hl, npw, hi⟩ := items_wf ht hf
    refine orW_of false (!ws.all intW) (fun P hP => ⟨np, by rw [ht]; exact hP⟩) (fun _ P hP => ⟨ws, hw, by omega, lcW_of (f := fun x => !intW x) (h := fun x => x) (fun x hx Q hQ => ⟨npw x hx, hQ⟩) (fun _ _ _ Q hQ => hQ) ⟨by decide, rfl, by rw [List.map_id', left_int]; exact hP⟩⟩) ?_
    rw [Bool.false_or]
    cases ha : ws.all intW with
    | false =>
      rw [row_not hw ha] at q
      exact q
    | true =>
      obtain ⟨ns, rfl, rfl⟩ := hi ha
      have ha2 : (ns.map PyData.int).all isInt = true := by rw [List.all_map] at ha; exact ha
      have q : Q (isHeardRow (.tuple (ns.map .int)) v__law_house v__law_size) := q
      rw [row_ints ha2 h5] at q
      refine ⟨_, hw, by omega, lcW_of (f := oddI v__law_size v__law_house) (h := fun x => x) (fun x hx Q hQ => ?_) (fun _ _ _ Q hQ => hQ) ⟨by decide, rfl, ?_⟩⟩
      · obtain ⟨d, hd, rfl⟩ := List.mem_map.mp hx
        obtain ⟨i, _, rfl⟩ := List.mem_map.mp hd
        exact orW_of (decide (i < 0)) (decide ((v__law_size : Int) ≤ i) || decide (i = (v__law_house : Int))) (fun P hP => ⟨i, rfl, hP⟩) (fun _ P hP => orW_of (decide ((v__law_size : Int) ≤ i)) (decide (i = (v__law_house : Int))) (fun P hP => ⟨i, rfl, hP⟩) (fun _ P hP => ⟨i, rfl, hP⟩) hP) hQ
      · rw [List.map_id', odd_left]
        cases ho : decide (ns.filter (fun x => decide (x < 0) || (decide ((v__law_size : Int) ≤ x) || decide (x = (v__law_house : Int)))) = []) with
        | false =>
          rw [ho] at q
          exact q
        | true =>
          rw [ho, Bool.true_and] at q
          have hno := List.filter_eq_nil_iff.mp (of_decide_eq_true ho)
          have bt : (ns.map PyData.int).all (fun x => isBt x 0 ((v__law_size : Int) - 1)) = true := List.all_eq_true.mpr fun d hd => by
            obtain ⟨x, hx, rfl⟩ := List.mem_map.mp hd
            have h1 := List.all_eq_true.mp ha2 _ hd
            have h2 := hno x hx
            simp only [Bool.or_eq_true, decide_eq_true_eq] at h2
            show (isInt (.int x) && (decide (0 ≤ x) && decide (x ≤ (v__law_size : Int) - 1))) = true
            rw [h1, Bool.true_and, Bool.and_eq_true, decide_eq_true_eq, decide_eq_true_eq]
            omega
          obtain ⟨e, _⟩ := nat_ds (Int.le_refl 0) bt
          have e2 : ns = ((ns.map PyData.int).map fun d => (toI d).toNat).map fun n : Nat => (n : Int) := by
            have := congrArg (List.map toI) e
            rw [List.map_map, List.map_map] at this
            rw [show ns.map (toI ∘ PyData.int) = ns from List.map_id' _] at this
            exact this
          rw [List.length_map, List.length_map] at hl
          have hl2 : ((ns.map PyData.int).map fun d => (toI d).toNat).length ≤ 60 := by rw [List.length_map, List.length_map]; exact hl
          generalize ((ns.map PyData.int).map fun d => (toI d).toNat) = ms at e e2 hl2
          have eq : decide (ns.Pairwise (· < ·)) = decide (ms = sset ms) := decide_eq_decide.mpr ⟨fun h => by
            rw [e2] at h
            rw [List.pairwise_map] at h
            exact (sset_eq (h.imp fun {a b} z => (by omega : a < b)) fun _ => Iff.rfl).symm, fun h => by
            rw [e2, List.pairwise_map]
            have : Asc ms := by rw [h]; exact asc_sset
            refine List.Pairwise.imp (R := fun a b : Nat => a < b) (fun {a b} z => ?_) this
            show ((a : Nat) : Int) < ((b : Nat) : Int)
            omega⟩
          rw [eq] at q
          have ee : Wv.dat (.tuple (ns.map PyData.int)) = Wv.dat (dT dN ms) := by rw [e]; rfl
          exact ⟨ms, ee, ms, ee, by omega, by omega, q⟩
  · have ht : v__law_value.isT "tuple" = false := by simpa using ht
    refine orW_of true true (fun P hP => ⟨np, by rw [ht]; exact hP⟩) (fun z => by cases z) ?_
    have : hrowW v__law_value v__law_house v__law_size = false := by
      cases v__law_value with
      | dat d =>
        cases d with
        | tuple ds => rw [isT_tup] at ht; cases ht
        | _ => rfl
      | _ => rfl
    rw [this] at q
    exact q
theorem rows_left {ws : List Wv} {n : Nat} : decide ((List.range ws.length).filter (fun i => !hrowW (ws.getD i .dct) i n) = []) = (((enumL ws).map fun p => hrowW p.2 p.1 n).all id) := by
  rw [Bool.eq_iff_iff, decide_eq_true_eq, List.filter_eq_nil_iff, List.all_eq_true]
  constructor
  · intro h b hb
    obtain ⟨p, hp, rfl⟩ := List.mem_map.mp hb
    unfold enumL at hp
    obtain ⟨q, hq, rfl⟩ := List.mem_map.mp hp
    have hq' := List.mem_zipIdx_iff_getElem?.mp hq
    have := h q.2 (List.mem_range.mpr (List.getElem?_eq_some_iff.mp hq').1)
    rw [List.getD_eq_getElem?_getD, hq'] at this
    simpa using this
  · intro h i hi
    have hi := List.mem_range.mp hi
    have hm : (i, ws[i]) ∈ enumL ws := by
      unfold enumL
      exact List.mem_map.mpr ⟨(ws[i], i), List.mem_zipIdx_iff_getElem?.mpr (List.getElem?_eq_getElem hi), rfl⟩
    have := h _ (List.mem_map.mpr ⟨_, hm, rfl⟩)
    rw [List.getD_eq_getElem?_getD, List.getElem?_eq_getElem hi]
    have this : hrowW ws[i] i n = true := this
    show ¬ (!hrowW ws[i] i n) = true
    rw [this]; decide
abbrev s__law_are_rows : Stmt := topS 26
abbrev N__law_are_rows : List Str := ["_law_value", "_law_house"]
theorem sc__law_are_rows : FnScope N__law_are_rows ["_law_value"] (defScope s__law_are_rows) := ⟨rfl, rfl, rfl, by decide +kernel, rfl, by decide +kernel, by decide +kernel⟩
theorem ok__law_are_rows {f : Addr} {fd : FuncData} (B : Bf mg) (okW : WxW (YY K C_Web C_Pool P w)) (c_law_is_row : Gf P w K mg base 2 "_law_is_row" (SpN (fun g : Wv × Nat × Nat => [(fW (YY K C_Web C_Pool P w)) g.1, (fD K dN) g.2.1, (fD K dN) g.2.2]) (fun (g : Wv × Nat × Nat) (Q : Bool → Prop) => (wf1 g.1 ∧ g.2.2 ≤ 5) ∧ Q (hrowW g.1 g.2.1 g.2.2)) (fD K dB))) (F : Fun K "_law_are_rows" "_law_are_rows" s__law_are_rows f fd) (hm : mg "_law_are_rows" = some (.ref f)) (b : Binds K fd ["_law_value"] []) : Gf P w K mg base 3 "_law_are_rows" (SpN (fun g : Wv => [(fW (YY K C_Web C_Pool P w)) g]) (fun (g : Wv) (Q : Bool → Prop) => wfW g ∧ Q (heardW g)) (fD K dB)) := by
  refine gw_mk F hm b sc__law_are_rows (fun _ => rfl) (fun _ => inferInstance) fun cdv A outer s H E g hr => ?_
  obtain ⟨v__law_value, hgen⟩ : ∃ x, x = g := ⟨g, rfl⟩
  subst hgen
  refine ⟨_, (pss_cons (ps_if (PW.pt (pw_or (pt_not (pt_val (p_isiS (.type "tuple") B (pa_cons (pv 0) (pa_cons (p_ty (by rfl) B.tuple boot_tuple) pa_nil))))) (pw_or (pt_cmpR op_lt (p_len B (pa_cons (pv 0) pa_nil)) pe_int (nomark _)) (pw_or1 (pt_cmpR op_gt (p_len B (pa_cons (pv 0) pa_nil)) pe_int (nomark _))))))
      (pss_one (ps_ret pe_bl))
      pss_nil)
    (pss_one (ps_ret (pe_cmpR (op_eqD hr.units) (pe_lc (own := [("_law_house", 1)]) (g := gName 1) rfl sc__law_are_rows.nd (pi_range1 (by rfl) B.range (pa_cons (p_len B (pa_cons (pv 0) pa_nil)) pa_nil)) (blkOk_by (N := N__law_are_rows) (sc := defScope s__law_are_rows) (by decide +kernel)) (fun _ _ _ _ _ => (pg_name (i := 1) sc__law_are_rows.nd rfl (by first | exact Or.inl rfl | exact Or.inr rfl))) (fun _ _ _ _ _ => (pts_one (pt_not (pt_val (p_call c_law_is_row hr (by decide) (pa_cons (pe_ix (ix_tupK K) (pv 0) (pv 1) (fun _ _ => rfl)) (pa_cons (pv 1) (pa_cons (p_lenK K B (pa_cons (pv 0) pa_nil)) pa_nil)))))))) (fun _ _ _ _ _ => by exact (pv 1))) (pe_lst pa_nil) (nomark _))))), _,
    (ts_ifq (tt_or (tt_not (tt_B (tr_cb (c_isiTW okW "tuple") (ta_cons (tr_var (R := (fW (YY K C_Web C_Pool P w))) (a := v__law_value) rfl) (ta_one tr_ty))))) (tt_or (tt_test (tr_op o_ltN (tr_cb c_lenT (ta_one (tr_Wt2 (X := YY K C_Web C_Pool P w) (tr_var (R := (fW (YY K C_Web C_Pool P w))) (a := v__law_value) rfl)))) (tr_nat (K := K) 1))) (tt_test (tr_op o_gtN (tr_cb c_lenT (ta_one (tr_Wt2 (X := YY K C_Web C_Pool P w) (tr_var (R := (fW (YY K C_Web C_Pool P w))) (a := v__law_value) rfl)))) (tr_nat (K := K) 5)))))
      (ts_retq (tr_bl (K := K)))
      (ts_nextq (ts_ret (tr_op (o_eqD (d := (dL dN))) (tr_lnD (tr_lc (vs := [1]) (Rd := (fD K dN)) (ti_rangeN (tr_cb c_lenT (ta_one (tr_Wt2 (X := YY K C_Web C_Pool P w) (tr_var (R := (fW (YY K C_Web C_Pool P w))) (a := v__law_value) rfl))))) (tg_name (R := (fD K dN)) 1) rfl rfl rfl (fun _ => rfl) (fun x1 => (tt_not (tt_B (tr_call (ta_cons (tr_op o_ixTp (tr_Wt2 (X := YY K C_Web C_Pool P w) (tr_var (R := (fW (YY K C_Web C_Pool P w))) (a := v__law_value) rfl)) (tr_var (R := (fD K dN)) (a := x1) rfl)) (ta_cons (tr_var (R := (fD K dN)) (a := x1) rfl) (ta_one (tr_cb c_lenT (ta_one (tr_Wt2 (X := YY K C_Web C_Pool P w) (tr_var (R := (fW (YY K C_Web C_Pool P w))) (a := v__law_value) rfl))))))))))) (fun x1 => (tr_var (R := (fD K dN)) (a := x1) rfl)))) (tr_lnD (tr_lst (R := (fD K dN)) (ta_lnil (R := (fD K dN))))))))), ?_⟩
  rintro Q ⟨vs0, F0, hv⟩ hs
  try delta pur
  try dsimp only at hs hv ⊢
  obtain ⟨hf, q⟩ := hs
  have np := wfW_np hf
  by_cases ht : v__law_value.isT "tuple" = true
  · suffices H : ∃ ws : List Wv, v__law_value.items = some ws ∧ (∀ y ∈ ws, wf1 y) ∧ Q ((decide ((1 : Int) ≤ (ws.length : Int)) && decide ((ws.length : Int) ≤ 5)) && (((enumL ws).map fun p => hrowW p.2 p.1 ws.length).all id)) by
      obtain ⟨ws, hw, wf, q⟩ := H
      refine orW_of false (decide (ws.length < 1) || decide (5 < ws.length)) (fun P hP => ⟨np, by rw [ht]; exact hP⟩) (fun _ P hP => orW_of (decide (ws.length < 1)) (decide (5 < ws.length)) (fun P hP => ⟨ws, hw, hP⟩) (fun _ P hP => ⟨ws, hw, hP⟩) hP) ?_
      rw [Bool.false_or]
      have eb : (decide ((1 : Int) ≤ (ws.length : Int)) && decide ((ws.length : Int) ≤ 5)) = !(decide (ws.length < 1) || decide (5 < ws.length)) := by
        rw [Bool.eq_iff_iff]
        simp only [Bool.and_eq_true, decide_eq_true_eq, Bool.not_eq_true', Bool.or_eq_false_iff, decide_eq_false_iff_not]
        omega
      rw [eb] at q
      cases hc : (decide (ws.length < 1) || decide (5 < ws.length)) with
      | true =>
        rw [hc] at q
        exact q
      | false =>
        rw [hc] at q
        rw [Bool.or_eq_false_iff, decide_eq_false_iff_not, decide_eq_false_iff_not] at hc
        refine ⟨ws, hw, by omega, by rw [List.length_range]; omega, lcW_of (f := fun i => !hrowW (ws.getD i .dct) i ws.length) (h := fun x => x) (fun i hi Q hQ => ?_) (fun _ _ _ Q hQ => hQ) ⟨by decide, ?_⟩⟩
        · have hi := List.mem_range.mp hi
          have eg : ws[i]? = some (ws.getD i .dct) := by rw [List.getD_eq_getElem?_getD, List.getElem?_eq_getElem hi]; rfl
          exact ⟨ws, hw, _, eg, ws, hw, ⟨wf _ (List.mem_of_getElem? eg), by omega⟩, hQ⟩
        · rw [List.map_id', rows_left]
          exact q
    rcases isT_tuple ht (wf_1 hf) with ⟨ds, rfl, hl⟩ | ⟨us, rfl, hl, nd, npu⟩
    · refine ⟨ds.map .dat, rfl, (fun y hy => by obtain ⟨d, hd, rfl⟩ := List.mem_map.mp hy; exact hf.2 d hd), ?_⟩
      have q : Q ((decide ((1 : Int) ≤ (ds.length : Int)) && decide ((ds.length : Int) ≤ 5)) && ds.zipIdx.all fun p => isHeardRow p.1 p.2 ds.length) := q
      rw [List.length_map, enum_map2, List.map_map]
      have e := zip_enum (xs := ds) (f := fun i d => isHeardRow d i ds.length)
      rw [← e] at q
      exact q
    · refine ⟨us, rfl, hf.2.2, ?_⟩
      rw [rows_nd nd, Bool.and_false]
      exact q
  · have ht : v__law_value.isT "tuple" = false := by simpa using ht
    refine orW_of true true (fun P hP => ⟨np, by rw [ht]; exact hP⟩) (fun z => by cases z) ?_
    rw [heardW_isT ht] at q
    exact q
end
end Wb

/-! k00: what a web tells; webs made or refused -/
namespace Wb
open PySem PySem.Spec PyProof.Rows L2 SlX StX Rs Ma Sn Tw
variable [Rs.Tabz]
def iW : Wv → Int
  | .dat d => toI d
  | _ => 0
/-- whether a value is a pair of houses of which one hears the other -/
def inWeb (rs : Rows) (w : Wv) : Bool := match w.items with
  | some [a, b] => btW a 0 ((rs.length : Int) - 1) && (intW b && decide (iW b ∈ cI (row rs (iW a).toNat)))
  | _ => false
theorem bt_ix {n : Nat} {w : Wv} (h : btW w 0 ((n : Int) - 1) = true) : ∃ i : Nat, w = .dat (.int (i : Int)) ∧ (iW w).toNat = i ∧ i < n := by
  cases w with
  | dat d =>
    have h : isBt d 0 ((n : Int) - 1) = true := h
    unfold isBt at h
    rw [Bool.and_eq_true] at h
    obtain ⟨i, rfl, _⟩ := isInt_shape h.1
    have h2 := h.2
    rw [Bool.and_eq_true] at h2
    have l1 := of_decide_eq_true h2.1
    have l2 := of_decide_eq_true h2.2
    have ei : ((i.toNat : Nat) : Int) = i := Int.toNat_of_nonneg l1
    exact ⟨i.toNat, by rw [ei], rfl, by omega⟩
  | _ => cases h
theorem int_is {w : Wv} (h : intW w = true) : ∃ i : Int, w = .dat (.int i) ∧ iW w = i := by
  cases w with
  | dat d =>
    obtain ⟨i, rfl, _⟩ := isInt_shape (show isInt d = true from h)
    exact ⟨i, rfl, rfl⟩
  | _ => cases h
theorem small_int : ∀ n : Nat, n < 6 → isInt (.int (n : Int)) = true := by decide +kernel
theorem in_pair {rs : Rows} (ok : Ok rs) {i x : Nat} (hi : i < rs.length) (hx : x < rs.length) : inWeb rs (.dat (dP dN dN (i, x))) = decide (x ∈ row rs i) := by
  have l5 := ok.le
  show (btW (.dat (.int (i : Int))) 0 ((rs.length : Int) - 1) && (isInt (.int (x : Int)) && decide ((x : Int) ∈ cI (row rs i)))) = _
  have e1 : btW (.dat (.int (i : Int))) 0 ((rs.length : Int) - 1) = true := by
    show (isInt (.int (i : Int)) && (decide ((0 : Int) ≤ (i : Int)) && decide ((i : Int) ≤ (rs.length : Int) - 1))) = true
    rw [small_int i (by omega), Bool.true_and, Bool.and_eq_true, decide_eq_true_eq, decide_eq_true_eq]
    omega
  rw [e1, Bool.true_and, small_int x (by omega), Bool.true_and]
  exact decide_eq_decide.mpr mem_cI
def pairS (p : Nat × Nat) : PySem.Str := strN p.1 ++ Str.ofString " hears " ++ strN p.2
theorem emp_app (x : PySem.Str) : Str.empty ++ x = x := by
  show Str.mk (#[] ++ x.cps) = x
  rw [Array.empty_append]
def textT (n : Nat) (ps : List (Nat × Nat)) : PySem.Str := Str.ofString "web of " ++ strN n ++ Str.ofString " houses: " ++ (if (Txt.join (Str.ofString ", ") (ps.map pairS)).length = 0 then Str.ofString "nobody hears" else Txt.join (Str.ofString ", ") (ps.map pairS))
noncomputable def textR (rs : Rows) : PySem.Str := textT rs.length (pairsN rs)
theorem strN_len : ∀ n, n < 6 → (strN n).length = 1 := by decide +kernel
theorem pairS_len {p : Nat × Nat} (h1 : p.1 < 5) (h2 : p.2 < 5) : (pairS p).length = 9 := by
  unfold pairS
  rw [str_app_len, str_app_len, strN_len _ (by omega), strN_len _ (by omega)]
  rfl
theorem pairs_le {rs : Rows} (ok : Ok rs) : (pairsN rs).length ≤ 25 := by
  unfold pairsN flat
  rw [List.length_map, List.length_flatMap]
  have h1 : ∀ x ∈ rs.zipIdx.map fun p : List Nat × Nat => (p.1.map fun y => (p, y)).length, x ≤ 5 := by
    intro x hx
    obtain ⟨p, hp, rfl⟩ := List.mem_map.mp hx
    rw [List.length_map]
    have hm : p.1 ∈ rs := by
      have := List.mem_zipIdx hp
      simp only [Nat.zero_le, Nat.sub_zero, true_and] at this
      rw [this.2]; exact List.getElem_mem _
    exact Nat.le_trans (nodup_len _ _ (asc_nodup (ok.asc _ hm)) (ok.lt _ hm)) ok.le
  have h2 : ∀ (l : List Nat), (∀ x ∈ l, x ≤ 5) → l.sum ≤ 5 * l.length := by
    intro l
    induction l with
    | nil => intro _; simp
    | cons a l ih =>
      intro h
      have := ih fun x hx => h x (List.mem_cons_of_mem _ hx)
      have := h a List.mem_cons_self
      simp only [List.sum_cons, List.length_cons]
      omega
  have h3 := h2 _ h1
  rw [List.length_map, List.length_zipIdx] at h3
  have := ok.le
  show (List.map (fun p : List Nat × Nat => (p.1.map fun y => (p, y)).length) rs.zipIdx).sum ≤ 25
  omega
theorem sum_const {α : Type} {l : List α} {f : α → Nat} {k : Nat} (h : ∀ x ∈ l, f x = k) : (l.map f).sum = k * l.length := by
  induction l with
  | nil => simp
  | cons a l ih =>
    rw [List.map_cons, List.sum_cons, h a List.mem_cons_self, ih fun x hx => h x (List.mem_cons_of_mem _ hx), List.length_cons, Nat.mul_succ]
    omega
theorem txt_join {y : PySem.Str} {ps : List PySem.Str} : Txt.join y ps = Str.join y ps := by
  exact TL.join_eq y ps
theorem join_small {rs : Rows} (ok : Ok rs) : (((pairsN rs).map pairS).map (·.length)).sum + ((pairsN rs).map pairS).length * (Str.ofString ", ").length ≤ 275 ∧ (Txt.join (Str.ofString ", ") ((pairsN rs).map pairS)).length ≤ 275 := by
  have h1 : (((pairsN rs).map pairS).map (·.length)).sum = 9 * (pairsN rs).length := by
    rw [List.map_map]
    exact sum_const fun p hp => pairS_len (Nat.lt_of_lt_of_le (pairs_lt ok hp).1 ok.le) (Nat.lt_of_lt_of_le (pairs_lt ok hp).2 ok.le)
  have h2 := pairs_le ok
  have h3 : (Str.ofString ", ").length = 2 := rfl
  have h4 := join_len (Str.ofString ", ") ((pairsN rs).map pairS)
  rw [h3, List.length_map] at h4 ⊢
  have h1' : (((pairsN rs).map pairS).map (fun x : PySem.Str => x.length)).sum = 9 * (pairsN rs).length := h1
  rw [h1'] at h4 ⊢
  exact ⟨by omega, Nat.le_trans (m := 9 * (pairsN rs).length + (pairsN rs).length * 2) (by rw [txt_join]; exact h4) (by omega)⟩
def pk (rs : Rows) (i : Nat) : List (Nat × Nat) := (rs.zipIdx.take i).flatMap fun p => p.1.map fun y => (p.2, y)
theorem pk_succ {rs : Rows} {i : Nat} {r : List Nat} (h : rs[i]? = some r) : pk rs (i + 1) = pk rs i ++ r.map fun y => (i, y) := by
  unfold pk
  rw [List.take_succ, List.getElem?_zipIdx, h]
  simp
theorem pk_all {rs : Rows} : pk rs rs.length = pairsN rs := by
  unfold pk pairsN flat
  rw [List.take_of_length_le (by rw [List.length_zipIdx]; exact Nat.le_refl _), List.map_flatMap]
  simp only [List.map_map]
  rfl
theorem pk_le {rs : Rows} (ok : Ok rs) (i : Nat) : (pk rs i).length ≤ 25 := by
  refine Nat.le_trans ?_ (pairs_le ok)
  rw [← pk_all]
  unfold pk
  conv => rhs; rw [List.take_of_length_le (by rw [List.length_zipIdx]; exact Nat.le_refl _), ← List.take_append_drop i rs.zipIdx, List.flatMap_append, List.length_append]
  omega
theorem hb_sort {rs : Rows} (ok : Ok rs) {h : Nat} (hh : h < rs.length) : sortN (row rs h ++ [h]) = hbL rs h := by
  have a1 : Asc (hbL rs h) := (asc_range _).filter _
  refine sortN_eq (a1.imp fun z => Nat.le_of_lt z) ((List.perm_ext_iff_of_nodup (asc_nodup a1) ?_).mpr fun z => ?_)
  · rw [List.nodup_append]
    refine ⟨asc_nodup (ok.row_asc h), by simp, fun a ha b hb e => ?_⟩
    rw [List.mem_singleton] at hb
    subst e hb
    exact ok.row_ne ha
  · unfold hbL
    rw [List.mem_filter, List.mem_range, decide_eq_true_eq, List.mem_append, List.mem_singleton]
    exact ⟨fun h => h.2, fun h => ⟨h.elim (fun h => ok.row_lt h) (fun e => e ▸ hh), h⟩⟩
theorem reach_le {rs : Rows} (ok : Ok rs) (h : Nat) : (reachL rs h).length ≤ 5 := by
  unfold reachL
  exact Nat.le_trans (List.length_filter_le _ _) (by rw [List.length_range]; exact ok.le)
theorem part_filter {rs : Rows} {h : Nat} (hh : h < rs.length) : (reachL rs h).filter (fun x => decide (h ∈ reachL rs x)) = partOf (reachs rs) h := by
  unfold partOf
  rw [reachs_row hh]
  refine List.filter_congr fun x hx => ?_
  rw [reachs_row (mem_reachL.mp hx).1]
section
variable {P : Program} {w : World} {K : PySem.W.Frag} {mg : Str → Option Value} {base : Heap} {C_Web C_Pool C_InvalidWeb : Addr}
abbrev s_Webu__containsu_ : Stmt := inClass (topS 15) 15
abbrev N_Webu__containsu_ : List Str := ["self", "value"]
theorem sc_Webu__containsu_ : FnScope N_Webu__containsu_ ["self", "value"] (defScope s_Webu__containsu_) := ⟨rfl, rfl, rfl, by decide +kernel, rfl, by decide +kernel, by decide +kernel⟩
theorem ok_Webu__containsu_ {f : Addr} {fd : FuncData} (B : Bf mg) (W_web : WebK K C_Web) (c_is_between_1 : Gf P w K mg base 2 "is_between" (SpN (fun g : Wv × Int × Int => [(fW (YY K C_Web C_Pool P w)) g.1, (fD K dInt) g.2.1, (fD K dInt) g.2.2]) (fun (g : Wv × Int × Int) (Q : Bool → Prop) => g.1.isPool = false ∧ Q (btW g.1 g.2.1 g.2.2)) (fD K dB))) (okW : WxW (YY K C_Web C_Pool P w)) (c_is_integer_1 : Gf P w K mg base 1 "is_integer" (SpN (fun g : Wv => [(fW (YY K C_Web C_Pool P w)) g]) (fun (g : Wv) (Q : Bool → Prop) => g.isPool = false ∧ Q (intW g)) (fD K dB))) (F : Fun K "__contains__" "Web.__contains__" s_Webu__containsu_ f fd) : FnOk P w K mg base CX0 6 f fd ["self", "value"] (SpN (fun g : Rows × Wv => [(webP C_Web K) g.1, (fW (YY K C_Web C_Pool P w)) g.2]) (fun (g : Rows × Wv) (Q : Bool → Prop) => (Ok g.1 ∧ wf1 g.2) ∧ Q (inWeb g.1 g.2)) (fD K dB)) := by
  refine gw_met F sc_Webu__containsu_ (fun _ => rfl) (fun _ => inferInstance) fun cdv A outer s H E g hr => ?_
  obtain ⟨v_self, v_value⟩ := g
  refine ⟨_, (pss_cons (ps_if (PW.pt (pw_or (pt_not (pt_val (p_isiS (.type "tuple") B (pa_cons (pv 1) (pa_cons (p_ty (by rfl) B.tuple boot_tuple) pa_nil))))) (pw_or (pt_cmpR op_ne (p_len B (pa_cons (pv 1) pa_nil)) pe_int (nomark _)) (pw_or1 (pt_not (pt_val (p_call c_is_between_1 hr (by decide) (pa_cons (pe_ix ix_tup (pv 1) pe_int (fun _ _ => rfl)) (pa_cons pe_int (pa_cons (pe_op op_sub (pe_sl (pv 0)) pe_int) pa_nil))))))))))
      (pss_one (ps_ret pe_bl))
      pss_nil)
    (pss_one (ps_ret (pe_and (p_call c_is_integer_1 hr (by decide) (pa_cons (pe_ix ix_tup (pv 1) pe_int (fun _ _ => rfl)) pa_nil)) (pe_one (pe_cmpR op_in_seq (pe_ix ix_tup (pv 1) pe_int (fun _ _ => rfl)) (pe_ix ix_tup (pe_sl (pv 0)) (pe_ix ix_tup (pv 1) pe_int (fun _ _ => rfl)) (fun _ _ => rfl)) rfl)))))), _,
    (ts_ifq (tt_or (tt_not (tt_B (tr_cb (c_isiTW okW "tuple") (ta_cons (tr_var (R := (fW (YY K C_Web C_Pool P w))) (a := v_value) rfl) (ta_one tr_ty))))) (tt_or (tt_test (tr_op o_neN (tr_cb c_lenT (ta_one (tr_Wt2 (X := YY K C_Web C_Pool P w) (tr_var (R := (fW (YY K C_Web C_Pool P w))) (a := v_value) rfl)))) (tr_nat (K := K) 2))) (tt_not (tt_B (tr_call (ta_cons (tr_op o_ixTp (tr_Wt2 (X := YY K C_Web C_Pool P w) (tr_var (R := (fW (YY K C_Web C_Pool P w))) (a := v_value) rfl)) (tr_nat (K := K) 0)) (ta_cons (tr_int (K := K)) (ta_one (tr_op o_i0i (tr_ni (tr_fld (fl_web_own_size W_web) (tr_var (R := (webP C_Web K)) (a := v_self) rfl))) (tr_int (K := K)))))))))))
      (ts_retq (tr_bl (K := K)))
      (ts_nextq (ts_ret (tr_and (tr_call (ta_one (tr_op o_ixTp (tr_Wt2 (X := YY K C_Web C_Pool P w) (tr_var (R := (fW (YY K C_Web C_Pool P w))) (a := v_value) rfl)) (tr_nat (K := K) 1)))) (tr_op o_inTI (tr_Wi (X := YY K C_Web C_Pool P w) (tr_op o_ixTp (tr_Wt2 (X := YY K C_Web C_Pool P w) (tr_var (R := (fW (YY K C_Web C_Pool P w))) (a := v_value) rfl)) (tr_nat (K := K) 1))) (tr_op o_ixT (tr_fld (fl_web_own_heard W_web) (tr_var (R := (webP C_Web K)) (a := v_self) rfl)) (tr_WN (X := YY K C_Web C_Pool P w) (tr_op o_ixTp (tr_Wt2 (X := YY K C_Web C_Pool P w) (tr_var (R := (fW (YY K C_Web C_Pool P w))) (a := v_value) rfl)) (tr_nat (K := K) 0))))))))), ?_⟩
  rintro Q ⟨vs0, F0, hv⟩ hs
  try delta pur
  try dsimp only at hs hv ⊢
  obtain ⟨⟨ok, hf⟩, q⟩ := hs
  have np := wf1_np hf
  by_cases ht : v_value.isT "tuple" = true
  · obtain ⟨ws, hw, hl, npw, _⟩ := items_wf ht hf
    unfold inWeb at q
    rw [hw] at q
    by_cases h2 : ws.length = 2
    · match ws, h2 with
      | [a, b], _ =>
        replace q : Q (btW a 0 ((v_self.length : Int) - 1) && (intW b && decide (iW b ∈ cI (row v_self (iW a).toNat)))) := q
        refine orW_of false (!btW a 0 ((v_self.length : Int) - 1)) (fun P hP => ⟨np, by rw [ht]; exact hP⟩) (fun _ P hP => orW_of false (!btW a 0 ((v_self.length : Int) - 1)) (fun P hP => ⟨_, hw, hP⟩) (fun _ P hP => ⟨_, hw, a, rfl, npw a List.mem_cons_self, hP⟩) hP) ?_
        rw [Bool.false_or]
        cases hb : btW a 0 ((v_self.length : Int) - 1) with
        | false =>
          rw [hb] at q
          exact q
        | true =>
          rw [hb, Bool.true_and] at q
          rw [if_neg (by decide)]
          refine andW_of (intW b) (decide (iW b ∈ cI (row v_self (iW a).toNat))) (fun P hP => ⟨_, hw, b, rfl, npw b (by simp), hP⟩) (fun hi P hP => ?_) q
          obtain ⟨n, rfl, e1, hn⟩ := bt_ix hb
          obtain ⟨i, rfl, e2⟩ := int_is hi
          rw [e1, e2] at hP
          exact ⟨_, hw, _, rfl, i, rfl, _, hw, _, rfl, n, rfl, _, get_row hn, hP⟩
    · refine orW_of false true (fun P hP => ⟨np, by rw [ht]; exact hP⟩) (fun _ P hP => orW_of true true (fun P hP => ⟨_, hw, by rw [decide_eq_false h2]; exact hP⟩) (fun z => by cases z) hP) ?_
      have : (match some ws with
        | some [a, b] => btW a 0 ((v_self.length : Int) - 1) && (intW b && decide (iW b ∈ cI (row v_self (iW a).toNat)))
        | _ => false) = false := by
        match ws, h2 with
        | [], _ => rfl
        | [a], _ => rfl
        | [a, b], h => exact absurd rfl h
        | _ :: _ :: _ :: _, _ => rfl
      exact (congrArg Q this).mp q
  · have ht : v_value.isT "tuple" = false := by simpa using ht
    refine orW_of true true (fun P hP => ⟨np, by rw [ht]; exact hP⟩) (fun z => by cases z) ?_
    have : inWeb v_self v_value = false := by
      unfold inWeb
      cases v_value with
      | dat d =>
        cases d with
        | tuple ds => rw [isT_tup] at ht; cases ht
        | _ => rfl
      | tp us => exact hf.elim (fun _ _ => by cases ht)
      | _ => rfl
    rw [this] at q
    exact q
abbrev s_Webu__stru_ : Stmt := inClass (topS 15) 18
abbrev N_Webu__stru_ : List Str := ["self", "pairs", "house", "other"]
theorem sc_Webu__stru_ : FnScope N_Webu__stru_ ["self"] (defScope s_Webu__stru_) := ⟨rfl, rfl, rfl, by decide +kernel, rfl, by decide +kernel, by decide +kernel⟩
theorem ok_Webu__stru_ {f : Addr} {fd : FuncData} (B : Bf mg) (W_web : WebK K C_Web) (F : Fun K "__str__" "Web.__str__" s_Webu__stru_ f fd) : FnOk P w K mg base CX0 1 f fd ["self"] (SpN (fun g : Rows => [(webP C_Web K) g]) (fun (g : Rows) (Q : PySem.Str → Prop) => Ok g ∧ Q (textR g)) (fD K dS)) := by
  refine gw_met F sc_Webu__stru_ (fun _ => rfl) (fun _ => inferInstance) fun cdv A outer s H E g hr => ?_
  obtain ⟨v_self, hgen⟩ : ∃ x, x = g := ⟨g, rfl⟩
  subst hgen
  refine ⟨_, (pss_cons (ps_setLc (i := 1) (own := [("house", 2), ("other", 3)]) (g := gTup K 2 (gCons (gName 2) (gCons (gName 3) gNil))) (tt := tYes)  rfl sc_Webu__stru_.nd rfl rfl (sw_true rfl rfl rfl (by decide +kernel)) (pi_tup (pe_sl (pv 0))) (blkOk_by (N := N_Webu__stru_) (sc := defScope s_Webu__stru_) (by decide +kernel)) (fun _ _ _ _ _ => (pg_tup rfl (pgs_cons (pg_name (i := 2) sc_Webu__stru_.nd rfl (by first | exact Or.inl rfl | exact Or.inr rfl)) (pgs_cons (pg_name (i := 3) sc_Webu__stru_.nd rfl (by first | exact Or.inl rfl | exact Or.inr rfl)) pgs_nil)))) (fun _ _ _ _ _ => pts_nil) (fun _ _ _ _ _ => by exact (pe_joined (PJ.cons (pe_fmt (pv 2)) (PJ.cons pe_str (PJ.cons (pe_fmt (pv 3)) PJ.nil))))))
    (pss_one (ps_ret (pe_joined (PJ.cons pe_str (PJ.cons (pe_fmt (pe_sl (pv 0))) (PJ.cons pe_str (PJ.cons (pe_fmt (pe_orS (p_join pe_str (pv 1)) (pe_one pe_str))) PJ.nil)))))))), _,
    (ts_set (R := (fLn (fD K dS))) 1 (tr_lc (vs := [2, 3]) (Rd := (fD K dS)) (ti_tupD (tr_fld (fl_web_own_pairs W_web) (tr_var (R := (webP C_Web K)) (a := v_self) rfl))) (tg_pairD (tg_name (R := (fD K dN)) 2) (tg_name (R := (fD K dN)) 3)) rfl rfl rfl (fun _ => rfl) (fun x1 => tt_yes) (fun x1 => (tr_js (tj_cons (K := K) (tr_fmtN (tr_var (R := (fD K dN)) (a := x1.1) rfl)) (tj_cons (K := K) (tr_str (K := K)) (tj_cons (K := K) (tr_fmtN (tr_var (R := (fD K dN)) (a := x1.2) rfl)) tj_nil)))))) rfl (fun v_pairs_2 => (ts_ret (tr_js (tj_cons (K := K) (tr_str (K := K)) (tj_cons (K := K) (tr_fmtN (tr_fld (fl_web_own_size W_web) (tr_var (R := (webP C_Web K)) (a := v_self) rfl))) (tj_cons (K := K) (tr_str (K := K)) (tj_cons (K := K) (tr_fmtS (tr_orS (tr_join (tr_str (K := K)) (tr_lnD (tr_var (R := (fLn (fD K dS))) (a := v_pairs_2) rfl))) (tr_str (K := K)))) tj_nil)))))))), ?_⟩
  rintro Q ⟨vs0, F0, hv⟩ hs
  try delta pur
  try dsimp only at hs hv ⊢
  obtain ⟨ok, hs⟩ := hs
  have hle := ok.le
  have hpl := pairs_le ok
  obtain ⟨hj1, hj2⟩ := join_small ok
  refine ⟨by omega, lcW_map (h := pairS) (fun p hp Q q => ?_) ?_⟩
  · have h1 := (pairs_lt ok hp).1
    have h2 := (pairs_lt ok hp).2
    have l1 := strN_len p.1 (by omega)
    have l2 := strN_len p.2 (by omega)
    have l3 : (Str.ofString " hears ").length = 7 := rfl
    simp only [emp_app, str_app_len, l1, l2, l3]
    exact ⟨by omega, by omega, by omega, by omega, by omega, q⟩
  · have l1 := strN_len v_self.length (by omega)
    have l2 : (Str.ofString "web of ").length = 7 := rfl
    have l3 : (Str.ofString " houses: ").length = 9 := rfl
    have l4 : (Str.ofString "nobody hears").length = 12 := rfl
    simp only [emp_app, str_app_len, l1, l2, l3, l4]
    have e : textR v_self = textT v_self.length (pairsN v_self) := rfl
    rw [e, textT] at hs
    refine ⟨by omega, by omega, by omega, by omega, by omega, by omega, ?_⟩
    unfold orSW
    by_cases h : (Txt.join (Str.ofString ", ") ((pairsN v_self).map pairS)).length = 0
    · rw [if_pos h] at hs ⊢
      exact ⟨by omega, by omega, hs⟩
    · rw [if_neg h] at hs ⊢
      exact ⟨by omega, by omega, hs⟩
abbrev s__law_from : Stmt := topS 28
abbrev N__law_from : List Str := ["_law_rows_here", "_law_house", "_law_found", "_law_turn", "_law_one", "_law_far"]
theorem sc__law_from : FnScope N__law_from ["_law_rows_here", "_law_house"] (defScope s__law_from) := ⟨rfl, rfl, rfl, by decide +kernel, rfl, by decide +kernel, by decide +kernel⟩
theorem ok__law_from {f : Addr} {fd : FuncData} (B : Bf mg)  (F : Fun K "_law_from" "_law_from" s__law_from f fd) (hm : mg "_law_from" = some (.ref f)) (b : Binds K fd ["_law_rows_here", "_law_house"] []) : Gf P w K mg base 1 "_law_from" (SpN (fun g : (List (List Nat)) × Nat => [(fD K (dT (dT dN))) g.1, (fD K dN) g.2]) (fun (g : Rows × Nat) (Q : List Nat → Prop) => (Ok g.1 ∧ g.2 < g.1.length) ∧ Q (reachL g.1 g.2)) (fD K (dT dN))) := by
  refine gw_mk F hm b sc__law_from (fun _ => rfl) (fun _ => inferInstance) fun cdv A outer s H E g hr => ?_
  obtain ⟨v__law_rows_here, v__law_house⟩ := g
  refine ⟨_, (pss_cons (ps_set (i := 2) sc__law_from.nd rfl (by first | exact Or.inl rfl | exact Or.inr rfl) (pe_lst (pa_cons (pv 1) pa_nil)))
    (pss_cons (ps_for PassesOwn.never rfl (pi_range1 (by rfl) B.range (pa_cons (p_len B (pa_cons (pv 0) pa_nil)) pa_nil)) (pg_name (i := 3) sc__law_from.nd rfl (by first | exact Or.inl rfl | exact Or.inr rfl))
      (pss_one (ps_set (i := 2) sc__law_from.nd rfl (by first | exact Or.inl rfl | exact Or.inr rfl) (pe_lc (own := [("_law_one", 4)]) (g := gName 4) rfl sc__law_from.nd (pi_range1 (by rfl) B.range (pa_cons (p_len B (pa_cons (pv 0) pa_nil)) pa_nil)) (blkOk_by (N := N__law_from) (sc := defScope s__law_from) (by decide +kernel)) (fun _ _ _ _ _ => (pg_name (i := 4) sc__law_from.nd rfl (by first | exact Or.inl rfl | exact Or.inr rfl))) (fun _ _ _ _ _ => (pts_one (PW.pt (pw_or (pt_cmpR (op_in_seqK K) (pv 4) (pv 2) rfl) (pw_or1 (pt_cmpR (op_neDK K hr.units) (pe_lc (own := [("_law_far", 5)]) (g := gName 5) rfl sc__law_from.nd (pi_tupK K (pe_ix (ix_tupK K) (pv 0) (pv 4) (fun _ _ => rfl))) (blkOk_by (N := N__law_from) (by first | decide +kernel | (dsimp only [Cx.blk, compEnvC]; decide +kernel) | exact rfl)) (fun _ _ _ _ _ => (pg_name (i := 5) sc__law_from.nd rfl (by first | exact Or.inl rfl | exact Or.inr rfl))) (fun _ _ _ _ _ => (pts_one (pt_cmpR (op_in_seqK K) (pv 5) (pv 2) rfl))) (fun _ _ _ _ _ => by exact (pv 5))) (pe_lst pa_nil) (nomark _))))))) (fun _ _ _ _ _ => by exact (pv 4))))))
    (pss_one (ps_ret (p_tuple B (pa_cons (pv 2) pa_nil)))))), _,
    (ts_set (R := (fLn (fD K dN))) 2 (tr_lst (R := (fD K dN)) (ta_lcons (R := (fD K dN)) (tr_var (R := (fD K dN)) (a := v__law_house) rfl) (ta_lnil (R := (fD K dN))))) rfl (fun v_law_found_1 => (ts_for (S1 := (List Nat)) (ρ1 := fun s2 => [some ((fD K (dT (dT dN))) v__law_rows_here), some ((fD K dN) v__law_house), some ((fLn (fD K dN)) s2), none, none, none]) (κ1s := fun s2 => []) v_law_found_1 (leV_some (leV_some (leV_some (leV_none (leV_none (leV_none leV_nil)))))) (fun _ _ _ h => h) (ti_rangeN (tr_cb c_lenDT (ta_one (tr_var (R := (fD K (dT (dT dN)))) (a := v__law_rows_here) rfl)))) (tg_name (R := (fD K dN)) 3) (fun _ => rfl)
      (fun s2 x3 => (ts_one (ts_set (R := (fLn (fD K dN))) 2 (tr_lc (vs := [4]) (Rd := (fD K dN)) (ti_rangeN (tr_cb c_lenDT (ta_one (tr_var (R := (fD K (dT (dT dN)))) (a := v__law_rows_here) rfl)))) (tg_name (R := (fD K dN)) 4) rfl rfl rfl (fun _ => rfl) (fun x4 => (tt_or (tt_test (tr_op o_inL (tr_var (R := (fD K dN)) (a := x4) rfl) (tr_lnD (tr_var (R := (fLn (fD K dN))) (a := s2) rfl)))) (tt_test (tr_op (o_neD (d := (dL dN))) (tr_lnD (tr_lc (vs := [5]) (Rd := (fD K dN)) (ti_tupD (tr_op o_ixT (tr_var (R := (fD K (dT (dT dN)))) (a := v__law_rows_here) rfl) (tr_var (R := (fD K dN)) (a := x4) rfl))) (tg_name (R := (fD K dN)) 5) rfl rfl rfl (fun _ => rfl) (fun x5 => (tt_test (tr_op o_inL (tr_var (R := (fD K dN)) (a := x5) rfl) (tr_lnD (tr_var (R := (fLn (fD K dN))) (a := s2) rfl))))) (fun x5 => (tr_var (R := (fD K dN)) (a := x5) rfl)))) (tr_lnD (tr_lst (R := (fD K dN)) (ta_lnil (R := (fD K dN))))))))) (fun x4 => (tr_var (R := (fD K dN)) (a := x4) rfl))) rfl (fun v_law_found_6 => (ts_next v_law_found_6 (leV_some (leV_some (leV_some (leV_none (leV_none (leV_none leV_nil)))))) (fun _ _ _ h => h))))))
      (fun s2 => (ts_ret (tr_cb c_tupDL (ta_one (tr_lnD (tr_var (R := (fLn (fD K dN))) (a := s2) rfl))))))))), ?_⟩
  rintro Q ⟨vs0, F0, hv⟩ hs
  try delta pur
  try dsimp only at hs hv ⊢
  obtain ⟨⟨ok, hh⟩, q⟩ := hs
  have h5 := ok.le
  refine ⟨by show 1 ≤ 100000; decide, by omega, ?_⟩
  refine forW_at (f := fun k => fromL v__law_rows_here v__law_house k) (fun i x _ P hP => ?_) (by show Q (fromL _ _ (List.range _).length); rw [List.length_range, from_reach hh]; exact q)
  refine ⟨by omega, by rw [List.length_range]; omega, lcW_of (f := fun y => decide (y ∈ fromL v__law_rows_here v__law_house i) || !decide ((row v__law_rows_here y).filter (fun x => decide (x ∈ fromL v__law_rows_here v__law_house i)) = [])) (h := fun x => x) (fun y hy Q hQ => ?_) (fun _ _ _ Q hQ => hQ) ?_⟩
  · have hy' := List.mem_range.mp hy
    have hl : (row v__law_rows_here y).length ≤ 5 := Nat.le_trans (nodup_len _ _ (asc_nodup (ok.row_asc y)) fun z hz => ok.row_lt hz) ok.le
    exact orW_of (decide (y ∈ fromL v__law_rows_here v__law_house i)) (!decide ((row v__law_rows_here y).filter (fun x => decide (x ∈ fromL v__law_rows_here v__law_house i)) = [])) (fun P hP => hP) (fun _ P hP => ⟨_, get_row hy', by omega, lcW_of (f := fun x => decide (x ∈ fromL v__law_rows_here v__law_house i)) (h := fun x => x) (fun _ _ Q hQ => hQ) (fun _ _ _ Q hQ => hQ) ⟨by decide, by rw [List.map_id']; exact hP⟩⟩) hQ
  · rw [List.map_id']; exact hP
abbrev s__law_roots : Stmt := topS 29
abbrev N__law_roots : List Str := ["_law_rows_here", "_law_house"]
theorem sc__law_roots : FnScope N__law_roots ["_law_rows_here"] (defScope s__law_roots) := ⟨rfl, rfl, rfl, by decide +kernel, rfl, by decide +kernel, by decide +kernel⟩
theorem ok__law_roots {f : Addr} {fd : FuncData} (B : Bf mg) (c_law_from : Gf P w K mg base 1 "_law_from" (SpN (fun g : (List (List Nat)) × Nat => [(fD K (dT (dT dN))) g.1, (fD K dN) g.2]) (fun (g : Rows × Nat) (Q : List Nat → Prop) => (Ok g.1 ∧ g.2 < g.1.length) ∧ Q (reachL g.1 g.2)) (fD K (dT dN)))) (F : Fun K "_law_roots" "_law_roots" s__law_roots f fd) (hm : mg "_law_roots" = some (.ref f)) (b : Binds K fd ["_law_rows_here"] []) : Gf P w K mg base 2 "_law_roots" (SpN (fun g : (List (List Nat)) => [(fD K (dT (dT dN))) g]) (fun (g : Rows) (Q : List Nat → Prop) => Ok g ∧ Q (rootsN g)) (fD K (dT dN))) := by
  refine gw_mk F hm b sc__law_roots (fun _ => rfl) (fun _ => inferInstance) fun cdv A outer s H E g hr => ?_
  obtain ⟨v__law_rows_here, hgen⟩ : ∃ x, x = g := ⟨g, rfl⟩
  subst hgen
  refine ⟨_, (pss_one (ps_ret (p_tuple B (pa_cons (pe_lc (own := [("_law_house", 1)]) (g := gName 1) rfl sc__law_roots.nd (pi_range1 (by rfl) B.range (pa_cons (p_len B (pa_cons (pv 0) pa_nil)) pa_nil)) (blkOk_by (N := N__law_roots) (sc := defScope s__law_roots) (by decide +kernel)) (fun _ _ _ _ _ => (pg_name (i := 1) sc__law_roots.nd rfl (by first | exact Or.inl rfl | exact Or.inr rfl))) (fun _ _ _ _ _ => (pts_one (pt_cmpR op_eq (p_lenK K B (pa_cons (p_call c_law_from hr (by decide) (pa_cons (pv 0) (pa_cons (pv 1) pa_nil))) pa_nil)) (p_lenK K B (pa_cons (pv 0) pa_nil)) (nomark _)))) (fun _ _ _ _ _ => by exact (pv 1))) pa_nil)))), _,
    (ts_ret (tr_cb c_tupDL (ta_one (tr_lnD (tr_lc (vs := [1]) (Rd := (fD K dN)) (ti_rangeN (tr_cb c_lenDT (ta_one (tr_var (R := (fD K (dT (dT dN)))) (a := v__law_rows_here) rfl)))) (tg_name (R := (fD K dN)) 1) rfl rfl rfl (fun _ => rfl) (fun x1 => (tt_test (tr_op o_eqN (tr_cb c_lenDT (ta_one (tr_call (ta_cons (tr_var (R := (fD K (dT (dT dN)))) (a := v__law_rows_here) rfl) (ta_one (tr_var (R := (fD K dN)) (a := x1) rfl)))))) (tr_cb c_lenDT (ta_one (tr_var (R := (fD K (dT (dT dN)))) (a := v__law_rows_here) rfl)))))) (fun x1 => (tr_var (R := (fD K dN)) (a := x1) rfl))))))), ?_⟩
  rintro Q ⟨vs0, F0, hv⟩ hs
  try delta pur
  try dsimp only at hs hv ⊢
  obtain ⟨ok, q⟩ := hs
  have h5 := ok.le
  refine ⟨by omega, by rw [List.length_range]; omega, lcW_of (f := fun x => decide ((reachL v__law_rows_here x).length = v__law_rows_here.length)) (h := fun x => x) (fun x hx Q hQ => ⟨⟨ok, List.mem_range.mp hx⟩, hQ⟩) (fun _ _ _ Q hQ => hQ) ?_⟩
  rw [List.map_id']
  exact q
abbrev s__law_made : Stmt := topS 27
abbrev N__law_made : List Str := ["_law_value"]
theorem sc__law_made : FnScope N__law_made ["_law_value"] (defScope s__law_made) := ⟨rfl, rfl, rfl, by decide +kernel, rfl, by decide +kernel, by decide +kernel⟩
theorem ok__law_made {f : Addr} {fd : FuncData} (B : Bf mg) (x_InvalidWeb : XCls K mg "InvalidWeb" C_InvalidWeb) (c_Web : MkF P w K mg base 6 "Web" C_Web (spWebInit C_Web K)) (c_WebX : MkFX P w K mg base 6 "Web" C_Web (SpMY (YY K C_Web C_Pool P w) C_Web (fun _ : Unit => []) (fun _ : Unit => []) (fun g : Wv => [(fW (YY K C_Web C_Pool P w)) g]) (fun (_ : Unit) (g : Wv) (_ : Unit × Unit → Prop) (PX : Ex → Prop) => (wfW g ∧ heardW g = false) ∧ PX ⟨C_InvalidWeb, none⟩) (fD K dU))) (F : Fun K "_law_made" "_law_made" s__law_made f fd) (hm : mg "_law_made" = some (.ref f)) (b : Binds K fd ["_law_value"] []) : Gf P w K mg base 12 "_law_made" (SpN (fun g : Wv => [(fW (YY K C_Web C_Pool P w)) g]) (fun (g : Wv) (Q : Option Rows → Prop) => ((wfW g ∧ heardW g = false) ∧ Q none) ∨ ∃ rs : Rows, g = .dat (dT (dT dN) rs) ∧ Ok rs ∧ Q (some rs)) (fOpt (webP C_Web K))) := by
  refine gw_mk F hm b sc__law_made (fun _ => rfl) (fun _ => inferInstance) fun cdv A outer s H E g hr => ?_
  obtain ⟨v__law_value, hgen⟩ : ∃ x, x = g := ⟨g, rfl⟩
  subst hgen
  refine ⟨_, (pss_one (p_try rfl rfl x_InvalidWeb (fun W pn xe tk po => (pss_one (ps_ret (Tw.p_orE (p_mk c_Web hr (by decide) (pa_cons (pv 0) pa_nil)) (Tw.p_mkXt (n := N__law_made.length) tk c_WebX hr (by decide) (pa_cons (pv 0) pa_nil)))))) (fun a pn => (pss_one (ps_ret pe_non))))), _,
    (ts_try x_InvalidWeb (fun W => (ts_ret (tr_sOpt (tr_fact (p := Ok) ok_web (tr_orE (tr_mk (ta_one (tr_WdD (X := YY K C_Web C_Pool P w) (d := (dT (dT dN))) (tr_var (R := (fW (YY K C_Web C_Pool P w))) (a := v__law_value) rfl)))) (by exact tr_mkBt (ta_one (tr_var (R := (fW (YY K C_Web C_Pool P w))) (a := v__law_value) rfl)))))))) (ts_ret (tr_nOpt (tr_non (K := K))))), ?_⟩
  rintro Q ⟨vs0, F0, hv⟩ hs
  try delta pur
  try dsimp only at hs hv ⊢
  rcases hs with ⟨h, q⟩ | ⟨rs, e, ok, q⟩
  · exact .inr ⟨h, rfl, q⟩
  · exact .inl ⟨rs, e, ok, fun _ => q⟩
abbrev s__law_web_told : Stmt := topS 30
abbrev N__law_web_told : List Str := ["_law_web", "_law_rows_here", "_law_size", "_law_pairs", "_law_house", "_law_far", "_law_text", "_law_parts", "_law_row"]
theorem sc__law_web_told : FnScope N__law_web_told ["_law_web", "_law_rows_here"] (defScope s__law_web_told) := ⟨rfl, rfl, rfl, by decide +kernel, rfl, by decide +kernel, by decide +kernel⟩
theorem ok__law_web_told {f : Addr} {fd : FuncData} (B : Bf mg) (c_web_len : OwnS P w K mg base "__len__" 1 C_Web (SpN (fun g : Rows => [(webP C_Web K) g]) (fun (g : Rows) (Q : Nat → Prop) => True ∧ Q (pairsN g).length) (fD K dN))) (c_web_roots : PrpS P w K mg base 1 C_Web "roots" (SpN (fun g : Rows => [(webP C_Web K) g]) (fun (g : Rows) (Q : List Nat → Prop) => True ∧ Q (rootsN g)) (fD K (dT dN)))) (c_law_roots : Gf P w K mg base 2 "_law_roots" (SpN (fun g : (List (List Nat)) => [(fD K (dT (dT dN))) g]) (fun (g : Rows) (Q : List Nat → Prop) => Ok g ∧ Q (rootsN g)) (fD K (dT dN)))) (c_web_size : PrpS P w K mg base 1 C_Web "size" (SpN (fun g : Rows => [(webP C_Web K) g]) (fun (g : Rows) (Q : Nat → Prop) => True ∧ Q g.length) (fD K dN))) (c_web_heard : PrpS P w K mg base 1 C_Web "heard" (SpN (fun g : Rows => [(webP C_Web K) g]) (fun (g : Rows) (Q : Rows → Prop) => True ∧ Q g) (fD K (dT (dT dN))))) (Bs : mg "str" = none) (c_web_str : OwnS P w K mg base "__str__" 1 C_Web (SpN (fun g : Rows => [(webP C_Web K) g]) (fun (g : Rows) (Q : PySem.Str → Prop) => Ok g ∧ Q (textR g)) (fD K dS))) (c_web_hears : MetS P w K mg base 5 C_Web "hears" (SpN (fun g : Rows × Nat => [(webP C_Web K) g.1, (fD K dN) g.2]) (fun (g : Rows × Nat) (Q : List Nat → Prop) => g.2 < g.1.length ∧ Q (hbL g.1 g.2)) (fD K (dT dN)))) (c_web_reached : MetS P w K mg base 5 C_Web "reached" (SpN (fun g : Rows × Nat => [(webP C_Web K) g.1, (fD K dN) g.2]) (fun (g : Rows × Nat) (Q : List Nat → Prop) => g.2 < g.1.length ∧ Q (reachL g.1 g.2)) (fD K (dT dN)))) (c_law_from : Gf P w K mg base 1 "_law_from" (SpN (fun g : (List (List Nat)) × Nat => [(fD K (dT (dT dN))) g.1, (fD K dN) g.2]) (fun (g : Rows × Nat) (Q : List Nat → Prop) => (Ok g.1 ∧ g.2 < g.1.length) ∧ Q (reachL g.1 g.2)) (fD K (dT dN)))) (c_web_parts : PrpS P w K mg base 1 C_Web "parts" (SpN (fun g : Rows => [(webP C_Web K) g]) (fun (g : Rows) (Q : List (List Nat) → Prop) => Q (partsN g)) (fD K (dT (dT dN))))) (c_web_in : OwnS P w K mg base "__contains__" 6 C_Web (SpN (fun g : Rows × Wv => [(webP C_Web K) g.1, (fW (YY K C_Web C_Pool P w)) g.2]) (fun (g : Rows × Wv) (Q : Bool → Prop) => (Ok g.1 ∧ wf1 g.2) ∧ Q (inWeb g.1 g.2)) (fD K dB))) (F : Fun K "_law_web_told" "_law_web_told" s__law_web_told f fd) (hm : mg "_law_web_told" = some (.ref f)) (b : Binds K fd ["_law_web", "_law_rows_here"] []) : Gf P w K mg base 12 "_law_web_told" (SpN (fun g : Rows × (List (List Nat)) => [(webP C_Web K) g.1, (fD K (dT (dT dN))) g.2]) (fun (g : Rows × Rows) (Q : Bool → Prop) => (Ok g.1 ∧ g.2 = g.1) ∧ Q true) (fD K dB)) := by
  refine gw_mk F hm b sc__law_web_told (fun _ => rfl) (fun _ => inferInstance) fun cdv A outer s H E g hr => ?_
  obtain ⟨v__law_web, v__law_rows_here⟩ := g
  refine ⟨_, (pss_cons (ps_par (i := 2) (j := 3) rfl sc__law_web_told.nd rfl rfl (by decide) rfl rfl (pa_cons (p_len B (pa_cons (pv 1) pa_nil)) (pa_cons (pe_lst pa_nil) pa_nil)) (by rfl))
    (pss_cons (ps_for PassesOwn.never rfl (pi_range1 (by rfl) B.range (pa_cons (pv 2) pa_nil)) (pg_name (i := 4) sc__law_web_told.nd rfl (by first | exact Or.inl rfl | exact Or.inr rfl))
      (pss_one (ps_set (i := 3) sc__law_web_told.nd rfl (by first | exact Or.inl rfl | exact Or.inr rfl) (pe_op op_cat (pv 3) (pe_lc (own := [("_law_far", 5)]) (g := gName 5) (tt := tYes) rfl sc__law_web_told.nd (pi_tup (pe_ix ix_tup (pv 1) (pv 4) (fun _ _ => rfl))) (blkOk_by (N := N__law_web_told) (sc := defScope s__law_web_told) (by decide +kernel)) (fun _ _ _ _ _ => (pg_name (i := 5) sc__law_web_told.nd rfl (by first | exact Or.inl rfl | exact Or.inr rfl))) (fun _ _ _ _ _ => pts_nil) (fun _ _ _ _ _ => by exact (pe_tup (pa_cons (pv 4) (pa_cons (pv 5) pa_nil)))))))))
    (pss_cons (ps_if (PW.pt (pw_or (pt_cmpR (op_neD hr.units) (p_prp c_web_heard hr (by decide) (pv 0)) (pv 1) (nomark _)) (pw_or (pt_cmpR op_ne (p_prp c_web_size hr (by decide) (pv 0)) (pv 2) (nomark _)) (pw_or (pt_cmpR (op_neD hr.units) (p_prp c_web_roots hr (by decide) (pv 0)) (p_call c_law_roots hr (by decide) (pa_cons (pv 1) pa_nil)) (nomark _)) (pw_or1 (pt_cmpR op_ne (p_lenO B c_web_len hr (by decide) (pa_cons (pv 0) pa_nil)) (p_len B (pa_cons (pv 3) pa_nil)) (nomark _)))))))
      (pss_one (ps_ret pe_bl))
      pss_nil)
    (pss_cons (ps_set (i := 6) sc__law_web_told.nd rfl (by first | exact Or.inl rfl | exact Or.inr rfl) (p_join pe_str (pe_lc (own := [("_law_house", 4), ("_law_far", 5)]) (g := gTup K 2 (gCons (gName 4) (gCons (gName 5) gNil))) (tt := tYes) rfl sc__law_web_told.nd (pi_list (pv 3)) (blkOk_by (N := N__law_web_told) (sc := defScope s__law_web_told) (by decide +kernel)) (fun _ _ _ _ _ => (pg_tup rfl (pgs_cons (pg_name (i := 4) sc__law_web_told.nd rfl (by first | exact Or.inl rfl | exact Or.inr rfl)) (pgs_cons (pg_name (i := 5) sc__law_web_told.nd rfl (by first | exact Or.inl rfl | exact Or.inr rfl)) pgs_nil)))) (fun _ _ _ _ _ => pts_nil) (fun _ _ _ _ _ => by exact (pe_op op_add_str (pe_op op_add_str (p_str B Bs (pa_cons (pv 4) pa_nil)) pe_str) (p_str B Bs (pa_cons (pv 5) pa_nil)))))))
    (pss_cons (ps_if (pt_cmpR op_ne (p_strO Bs c_web_str hr (by decide) (pa_cons (pv 0) pa_nil)) (pe_op op_add_str (pe_op op_add_str (pe_op op_add_str pe_str (p_str B Bs (pa_cons (pv 2) pa_nil))) pe_str) (pe_orS (pv 6) (pe_one pe_str))) (nomark _))
      (pss_one (ps_ret pe_bl))
      pss_nil)
    (pss_cons (ps_if (pt_cmpR (op_neD hr.units) (pe_lc (own := [("_law_house", 4)]) (g := gName 4) (tt := tYes) rfl sc__law_web_told.nd (pi_range1 (by rfl) B.range (pa_cons (pv 2) pa_nil)) (blkOk_by (N := N__law_web_told) (sc := defScope s__law_web_told) (by decide +kernel)) (fun _ _ _ _ _ => (pg_name (i := 4) sc__law_web_told.nd rfl (by first | exact Or.inl rfl | exact Or.inr rfl))) (fun _ _ _ _ _ => pts_nil) (fun _ _ _ _ _ => by exact (p_met c_web_hears hr (by decide) (pv 0) (pa_cons (pv 4) pa_nil)))) (pe_lc (own := [("_law_house", 4)]) (g := gName 4) (tt := tYes) rfl sc__law_web_told.nd (pi_range1 (by rfl) B.range (pa_cons (pv 2) pa_nil)) (blkOk_by (N := N__law_web_told) (sc := defScope s__law_web_told) (by decide +kernel)) (fun _ _ _ _ _ => (pg_name (i := 4) sc__law_web_told.nd rfl (by first | exact Or.inl rfl | exact Or.inr rfl))) (fun _ _ _ _ _ => pts_nil) (fun _ _ _ _ _ => by exact (p_tupleK K B (pa_cons (p_sortedDt hr B (pa_cons (pe_op op_catA (pe_ix (ix_tupK K) (pv 1) (pv 4) (fun _ _ => rfl)) (pe_tup (pa_cons (pv 4) pa_nil))) pa_nil)) pa_nil)))) (nomark _))
      (pss_one (ps_ret pe_bl))
      pss_nil)
    (pss_cons (ps_if (pt_cmpR (op_neD hr.units) (pe_lc (own := [("_law_house", 4)]) (g := gName 4) (tt := tYes) rfl sc__law_web_told.nd (pi_range1 (by rfl) B.range (pa_cons (pv 2) pa_nil)) (blkOk_by (N := N__law_web_told) (sc := defScope s__law_web_told) (by decide +kernel)) (fun _ _ _ _ _ => (pg_name (i := 4) sc__law_web_told.nd rfl (by first | exact Or.inl rfl | exact Or.inr rfl))) (fun _ _ _ _ _ => pts_nil) (fun _ _ _ _ _ => by exact (p_met c_web_reached hr (by decide) (pv 0) (pa_cons (pv 4) pa_nil)))) (pe_lc (own := [("_law_house", 4)]) (g := gName 4) (tt := tYes) rfl sc__law_web_told.nd (pi_range1 (by rfl) B.range (pa_cons (pv 2) pa_nil)) (blkOk_by (N := N__law_web_told) (sc := defScope s__law_web_told) (by decide +kernel)) (fun _ _ _ _ _ => (pg_name (i := 4) sc__law_web_told.nd rfl (by first | exact Or.inl rfl | exact Or.inr rfl))) (fun _ _ _ _ _ => pts_nil) (fun _ _ _ _ _ => by exact (p_call c_law_from hr (by decide) (pa_cons (pv 1) (pa_cons (pv 4) pa_nil))))) (nomark _))
      (pss_one (ps_ret pe_bl))
      pss_nil)
    (pss_cons (ps_set (i := 7) sc__law_web_told.nd rfl (by first | exact Or.inl rfl | exact Or.inr rfl) (pe_lst pa_nil))
    (pss_cons (ps_for PassesOwn.never rfl (pi_range1 (by rfl) B.range (pa_cons (pv 2) pa_nil)) (pg_name (i := 4) sc__law_web_told.nd rfl (by first | exact Or.inl rfl | exact Or.inr rfl))
      (pss_cons (ps_setLc (i := 8) (own := [("_law_far", 5)]) (g := gName 5)  rfl sc__law_web_told.nd rfl rfl (sw_true rfl rfl rfl (by decide +kernel)) (pi_tup (p_call c_law_from hr (by decide) (pa_cons (pv 1) (pa_cons (pv 4) pa_nil)))) (blkOk_by (N := N__law_web_told) (sc := defScope s__law_web_told) (by decide +kernel)) (fun _ _ _ _ _ => (pg_name (i := 5) sc__law_web_told.nd rfl (by first | exact Or.inl rfl | exact Or.inr rfl))) (fun _ _ _ _ _ => (pts_one (pt_cmpR (op_in_seqK K) (pv 4) (p_call c_law_from hr (by decide) (pa_cons (pv 1) (pa_cons (pv 5) pa_nil))) rfl))) (fun _ _ _ _ _ => by exact (pv 5)))
      (pss_one (ps_if (pt_cmpR (op_notInD (room65 hr)) (p_tuple B (pa_cons (pv 8) pa_nil)) (pv 7) rfl)
        (pss_one (ps_expr (pe_bm PySem.F.plainAttrs_list PySem.F.slot_list_append PySem.F.type_list_append mt_append (pv 7) (pa_cons (p_tuple B (pa_cons (pv 8) pa_nil)) pa_nil))))
        pss_nil))))
    (pss_cons (ps_if (pt_cmpR (op_neD hr.units) (p_prp c_web_parts hr (by decide) (pv 0)) (p_tuple B (pa_cons (p_sortedDt hr B (pa_cons (pv 7) pa_nil)) pa_nil)) (nomark _))
      (pss_one (ps_ret pe_bl))
      pss_nil)
    (pss_cons (ps_for PassesOwn.never rfl (pi_range1 (by rfl) B.range (pa_cons (pv 2) pa_nil)) (pg_name (i := 4) sc__law_web_told.nd rfl (by first | exact Or.inl rfl | exact Or.inr rfl))
      (pss_one (ps_if (pt_cmpR (op_neD hr.units) (pe_lc (own := [("_law_far", 5)]) (g := gName 5) rfl sc__law_web_told.nd (pi_range1 (by rfl) B.range (pa_cons (pv 2) pa_nil)) (blkOk_by (N := N__law_web_told) (sc := defScope s__law_web_told) (by decide +kernel)) (fun _ _ _ _ _ => (pg_name (i := 5) sc__law_web_told.nd rfl (by first | exact Or.inl rfl | exact Or.inr rfl))) (fun _ _ _ _ _ => (pts_one (pt_cmpR op_ne (pe_cmpR (op_inO c_web_in hr (by decide)) (pe_tup (pa_cons (pv 4) (pa_cons (pv 5) pa_nil))) (pv 0) rfl) (pe_cmpR (op_in_seqK K) (pv 5) (pe_ix (ix_tupK K) (pv 1) (pv 4) (fun _ _ => rfl)) rfl) (nomark _)))) (fun _ _ _ _ _ => by exact (pv 5))) (pe_lst pa_nil) (nomark _))
        (pss_one (ps_ret pe_bl))
        pss_nil)))
    (pss_one (ps_ret pe_bl))))))))))))), _,
    (ts_par (Ra := (fD K dN)) (Rb := (fLn (fD K (dP dN dN)))) (tr_cb c_lenDT (ta_one (tr_var (R := (fD K (dT (dT dN)))) (a := v__law_rows_here) rfl))) (tr_lst (R := (fD K (dP dN dN))) (ta_lnil (R := (fD K (dP dN dN))))) rfl (fun p1 => (ts_for (S1 := (List (Nat × Nat))) (ρ1 := fun s2 => [some ((webP C_Web K) v__law_web), some ((fD K (dT (dT dN))) v__law_rows_here), some ((fD K dN) p1.1), some ((fLn (fD K (dP dN dN))) s2), none, none, none, none, none]) (κ1s := fun s2 => []) p1.2 (leV_some (leV_some (leV_some (leV_some (leV_none (leV_none (leV_none (leV_none (leV_none leV_nil))))))))) (fun _ _ _ h => h) (ti_rangeN (tr_var (R := (fD K dN)) (a := p1.1) rfl)) (tg_name (R := (fD K dN)) 4) (fun _ => rfl)
      (fun s2 x3 => (ts_one (ts_set (R := (fLn (fD K (dP dN dN)))) 3 (tr_op (o_cat (R := (fD K (dP dN dN)))) (tr_var (R := (fLn (fD K (dP dN dN)))) (a := s2) rfl) (tr_lc (vs := [5]) (Rd := (fD K (dP dN dN))) (ti_tupD (tr_op o_ixT (tr_var (R := (fD K (dT (dT dN)))) (a := v__law_rows_here) rfl) (tr_var (R := (fD K dN)) (a := x3) rfl))) (tg_name (R := (fD K dN)) 5) rfl rfl rfl (fun _ => rfl) (fun x4 => tt_yes) (fun x4 => (tr_pD (tr_pair (tr_var (R := (fD K dN)) (a := x3) rfl) (tr_var (R := (fD K dN)) (a := x4) rfl)))))) rfl (fun v_law_pairs_5 => (ts_next v_law_pairs_5 (leV_some (leV_some (leV_some (leV_some (leV_none (leV_none (leV_none (leV_none (leV_none leV_nil))))))))) (fun _ _ _ h => h))))))
      (fun s2 => (ts_ifq (tt_or (tt_test (tr_op (o_neD (d := (dT (dT dN)))) (tr_prp (Ra := (webP C_Web K)) (hS := is_web) (tr_var (R := (webP C_Web K)) (a := v__law_web) rfl)) (tr_var (R := (fD K (dT (dT dN)))) (a := v__law_rows_here) rfl))) (tt_or (tt_test (tr_op o_neN (tr_prp (Ra := (webP C_Web K)) (hS := is_web) (tr_var (R := (webP C_Web K)) (a := v__law_web) rfl)) (tr_var (R := (fD K dN)) (a := p1.1) rfl))) (tt_or (tt_test (tr_op (o_neD (d := (dT dN))) (tr_prp (Ra := (webP C_Web K)) (hS := is_web) (tr_var (R := (webP C_Web K)) (a := v__law_web) rfl)) (tr_call (ta_one (tr_var (R := (fD K (dT (dT dN)))) (a := v__law_rows_here) rfl))))) (tt_test (tr_op o_neN (tr_cb (c_lenOwn is_web) (ta_one (tr_var (R := (webP C_Web K)) (a := v__law_web) rfl))) (tr_cb c_lenL (ta_one (tr_var (R := (fLn (fD K (dP dN dN)))) (a := s2) rfl))))))))
      (ts_retq (tr_bl (K := K)))
      (ts_nextq (ts_set (R := (fD K dS)) 6 (tr_join (tr_str (K := K)) (tr_lnD (tr_lc (vs := [4, 5]) (Rd := (fD K dS)) (ti_lst (tr_var (R := (fLn (fD K (dP dN dN)))) (a := s2) rfl)) (tg_pairD (tg_name (R := (fD K dN)) 4) (tg_name (R := (fD K dN)) 5)) rfl rfl rfl (fun _ => rfl) (fun x6 => tt_yes) (fun x6 => (tr_op o_addS (tr_op o_addS (tr_cb c_str (ta_one (tr_var (R := (fD K dN)) (a := x6.1) rfl))) (tr_str (K := K))) (tr_cb c_str (ta_one (tr_var (R := (fD K dN)) (a := x6.2) rfl)))))))) rfl (fun v_law_text_7 => (ts_ifq (tt_test (tr_op o_neS (tr_cb (c_strOwn is_web) (ta_one (tr_var (R := (webP C_Web K)) (a := v__law_web) rfl))) (tr_op o_addS (tr_op o_addS (tr_op o_addS (tr_str (K := K)) (tr_cb c_str (ta_one (tr_var (R := (fD K dN)) (a := p1.1) rfl)))) (tr_str (K := K))) (tr_orS (tr_var (R := (fD K dS)) (a := v_law_text_7) rfl) (tr_str (K := K))))))
      (ts_retq (tr_bl (K := K)))
      (ts_nextq (ts_ifq (tt_test (tr_op (o_neD (d := (dL (dT dN)))) (tr_lnD (tr_lc (vs := [4]) (Rd := (fD K (dT dN))) (ti_rangeN (tr_var (R := (fD K dN)) (a := p1.1) rfl)) (tg_name (R := (fD K dN)) 4) rfl rfl rfl (fun _ => rfl) (fun x8 => tt_yes) (fun x8 => (tr_met (tr_var (R := (webP C_Web K)) (a := v__law_web) rfl) is_web (ta_one (tr_var (R := (fD K dN)) (a := x8) rfl)))))) (tr_lnD (tr_lc (vs := [4]) (Rd := (fD K (dT dN))) (ti_rangeN (tr_var (R := (fD K dN)) (a := p1.1) rfl)) (tg_name (R := (fD K dN)) 4) rfl rfl rfl (fun _ => rfl) (fun x9 => tt_yes) (fun x9 => (tr_cb c_tupDL (ta_one (tr_cb c_sortedT (ta_one (tr_op o_catDT (tr_op o_ixT (tr_var (R := (fD K (dT (dT dN)))) (a := v__law_rows_here) rfl) (tr_var (R := (fD K dN)) (a := x9) rfl)) (tr_tpD (tr_tup (R := (fD K dN)) (ta_lcons (R := (fD K dN)) (tr_var (R := (fD K dN)) (a := x9) rfl) (ta_lnil (R := (fD K dN))))))))))))))))
      (ts_retq (tr_bl (K := K)))
      (ts_nextq (ts_ifq (tt_test (tr_op (o_neD (d := (dL (dT dN)))) (tr_lnD (tr_lc (vs := [4]) (Rd := (fD K (dT dN))) (ti_rangeN (tr_var (R := (fD K dN)) (a := p1.1) rfl)) (tg_name (R := (fD K dN)) 4) rfl rfl rfl (fun _ => rfl) (fun x10 => tt_yes) (fun x10 => (tr_met (tr_var (R := (webP C_Web K)) (a := v__law_web) rfl) is_web (ta_one (tr_var (R := (fD K dN)) (a := x10) rfl)))))) (tr_lnD (tr_lc (vs := [4]) (Rd := (fD K (dT dN))) (ti_rangeN (tr_var (R := (fD K dN)) (a := p1.1) rfl)) (tg_name (R := (fD K dN)) 4) rfl rfl rfl (fun _ => rfl) (fun x11 => tt_yes) (fun x11 => (tr_call (ta_cons (tr_var (R := (fD K (dT (dT dN)))) (a := v__law_rows_here) rfl) (ta_one (tr_var (R := (fD K dN)) (a := x11) rfl)))))))))
      (ts_retq (tr_bl (K := K)))
      (ts_nextq (ts_newC 7 (tn_lst (R := (fD K (dT dN))) (ta_lnil (R := (fD K (dT dN))))) rfl rfl (fun l12 => (ts_for (S1 := (List (List Nat))) (ρ1 := fun s13 => [some ((webP C_Web K) v__law_web), some ((fD K (dT (dT dN))) v__law_rows_here), some ((fD K dN) p1.1), some ((fLn (fD K (dP dN dN))) s2), none, none, some ((fD K dS) v_law_text_7), none, none]) (κ1s := fun s13 => [.one 7 (ownL ((s13).map (fD K (dT dN))))]) l12 (leV_some (leV_some (leV_some (leV_some (leV_none (leV_none (leV_some (leV_none (leV_none leV_nil))))))))) (fun _ _ _ h => h) (ti_rangeN (tr_var (R := (fD K dN)) (a := p1.1) rfl)) (tg_name (R := (fD K dN)) 4) (fun _ => rfl)
      (fun s13 x14 => (ts_set (R := (fLn (fD K dN))) 8 (tr_lc (vs := [5]) (Rd := (fD K dN)) (ti_tupD (tr_call (ta_cons (tr_var (R := (fD K (dT (dT dN)))) (a := v__law_rows_here) rfl) (ta_one (tr_var (R := (fD K dN)) (a := x14) rfl))))) (tg_name (R := (fD K dN)) 5) rfl rfl rfl (fun _ => rfl) (fun x15 => (tt_test (tr_op o_inT (tr_var (R := (fD K dN)) (a := x14) rfl) (tr_call (ta_cons (tr_var (R := (fD K (dT (dT dN)))) (a := v__law_rows_here) rfl) (ta_one (tr_var (R := (fD K dN)) (a := x15) rfl))))))) (fun x15 => (tr_var (R := (fD K dN)) (a := x15) rfl))) rfl (fun v_law_row_16 => (ts_one (ts_seq (S1 := (List (List Nat))) (ρ1 := fun s18 => [some ((webP C_Web K) v__law_web), some ((fD K (dT (dT dN))) v__law_rows_here), some ((fD K dN) p1.1), some ((fLn (fD K (dP dN dN))) s2), some ((fD K dN) x14), none, some ((fD K dS) v_law_text_7), none, some ((fLn (fD K dN)) v_law_row_16)]) (κ1s := fun s18 => [.one 7 (ownL ((s18).map (fD K (dT dN))))]) (ts_if (tt_test (tr_bor (i := 7) (xs := s13) (R := (fD K (dT dN))) (tr_op (o_notInDL (d := (dT dN))) (tr_cb c_tupDL (ta_one (tr_lnD (tr_var (R := (fLn (fD K dN))) (a := v_law_row_16) rfl)))) (tr_lnD (tr_var (R := (fLn (fD K (dT dN)))) (a := s13) rfl))) rfl rfl (fun _ _ h => h)))
      (ts_one (ts_app (R := (fD K (dT dN))) (xs := s13) (tr_cb c_tupDL (ta_one (tr_lnD (tr_var (R := (fLn (fD K dN))) (a := v_law_row_16) rfl)))) (fun y20 => (ts_next (s13 ++ [y20]) (leV_some (leV_some (leV_some (leV_some (leV_some (leV_none (leV_some (leV_none (leV_some leV_nil))))))))) (fun _ _ _ h => h)))))
      (ts_next s13 (leV_some (leV_some (leV_some (leV_some (leV_some (leV_none (leV_some (leV_none (leV_some leV_nil))))))))) (fun _ _ _ h => h)))
      (fun s18 => (ts_next s18 (leV_some (leV_some (leV_some (leV_some (leV_none (leV_none (leV_some (leV_none (leV_none leV_nil))))))))) (fun _ _ _ h => h))))))))
      (fun s13 => (ts_ifq (tt_test (tr_bor (i := 7) (xs := s13) (R := (fD K (dT dN))) (tr_op (o_neD (d := (dT (dT dN)))) (tr_prp (Ra := (webP C_Web K)) (hS := is_web) (tr_var (R := (webP C_Web K)) (a := v__law_web) rfl)) (tr_cb c_tupDL (ta_one (tr_cb c_sortedR (ta_one (tr_lnD (tr_var (R := (fLn (fD K (dT dN)))) (a := s13) rfl))))))) rfl rfl (fun _ _ h => h)))
      (ts_retq (tr_bl (K := K)))
      (ts_nextq (ts_for (S1 := Unit) (ρ1 := fun s21 => [some ((webP C_Web K) v__law_web), some ((fD K (dT (dT dN))) v__law_rows_here), some ((fD K dN) p1.1), some ((fLn (fD K (dP dN dN))) s2), none, none, some ((fD K dS) v_law_text_7), none, none]) (κ1s := fun s21 => [.one 7 (ownL ((s13).map (fD K (dT dN))))]) () (leV_some (leV_some (leV_some (leV_some (leV_none (leV_none (leV_some (leV_none (leV_none leV_nil))))))))) (fun _ _ _ h => h) (ti_rangeN (tr_var (R := (fD K dN)) (a := p1.1) rfl)) (tg_name (R := (fD K dN)) 4) (fun _ => rfl)
      (fun s21 x22 => (ts_one (ts_ifq (tt_test (tr_op (o_neD (d := (dL dN))) (tr_lnD (tr_lc (vs := [5]) (Rd := (fD K dN)) (ti_rangeN (tr_var (R := (fD K dN)) (a := p1.1) rfl)) (tg_name (R := (fD K dN)) 5) rfl rfl rfl (fun _ => rfl) (fun x23 => (tt_test (tr_op o_neB (tr_op (o_inOwn is_web) (tr_dW (X := YY K C_Web C_Pool P w) (d := (dP dN dN)) (tr_pD (tr_pair (tr_var (R := (fD K dN)) (a := x22) rfl) (tr_var (R := (fD K dN)) (a := x23) rfl)))) (tr_var (R := (webP C_Web K)) (a := v__law_web) rfl)) (tr_op o_inT (tr_var (R := (fD K dN)) (a := x23) rfl) (tr_op o_ixT (tr_var (R := (fD K (dT (dT dN)))) (a := v__law_rows_here) rfl) (tr_var (R := (fD K dN)) (a := x22) rfl)))))) (fun x23 => (tr_var (R := (fD K dN)) (a := x23) rfl)))) (tr_lnD (tr_lst (R := (fD K dN)) (ta_lnil (R := (fD K dN)))))))
      (ts_retq (tr_bl (K := K)))
      (ts_nextq (ts_next () (leV_some (leV_some (leV_some (leV_some (leV_none (leV_none (leV_some (leV_none (leV_none leV_nil))))))))) (fun _ _ _ h => h))))))
      (fun s21 => (ts_ret (tr_bl (K := K))))))))))))))))))))))))), ?_⟩
  rintro Q ⟨vs0, F0, hv⟩ hs
  try delta pur
  try dsimp only at hs hv ⊢
  obtain ⟨⟨ok, e⟩, q⟩ := hs
  subst e
  generalize v__law_rows_here = v__law_web at ok ⊢
  have hle := ok.le
  simp only [List.length_nil, List.length_range, List.length_singleton, List.length_append, Nat.zero_le, true_and]
  refine ⟨by omega, forW_at (f := pk v__law_web) (fun i x hx P hP => ?_) ?_⟩
  · have hi := (List.getElem?_eq_some_iff.mp hx).1
    rw [List.length_range] at hi
    rw [List.getElem?_range hi] at hx
    cases hx
    have hr := get_row hi
    have hrl : (row v__law_web i).length ≤ 5 := Nat.le_trans (nodup_len _ _ (asc_nodup (ok.row_asc i)) fun z hz => ok.row_lt hz) hle
    have := pk_le ok i
    refine ⟨_, hr, by omega, lcW_map (h := fun x => (i, x)) (fun _ _ _ q => q) ⟨by rw [List.length_map]; omega, ?_⟩⟩
    rw [← pk_succ hr]; exact hP
  rw [List.length_range, pk_all]
  have hpl := pairs_le ok
  have hpl2 : (pairsN v__law_web).length ≤ 100000 := by omega
  simp only [true_and, decide_true, Bool.not_true, orW_l, Bool.false_eq_true, if_false, ok, hpl2]
  obtain ⟨hj1, hj2⟩ := join_small ok
  have l1 := strN_len v__law_web.length (by omega)
  have l2 : (Str.ofString "web of ").length = 7 := rfl
  have l3 : (Str.ofString " houses: ").length = 9 := rfl
  have l4 : (Str.ofString "nobody hears").length = 12 := rfl
  have l5 : (Str.ofString " hears ").length = 7 := rfl
  have hrow : ∀ h, (row v__law_web h).length ≤ 5 := fun h => Nat.le_trans (nodup_len _ _ (asc_nodup (ok.row_asc h)) fun z hz => ok.row_lt hz) hle
  refine ⟨by omega, lcW_map (h := pairS) (fun p hp Q q => ?_) ?_⟩
  · have h1 := (pairs_lt ok hp).1
    have h2 := (pairs_lt ok hp).2
    have l1 := strN_len p.1 (by omega)
    have l2 := strN_len p.2 (by omega)
    simp only [str_app_len, l1, l2, l5]
    exact ⟨by omega, by omega, by omega, by omega, q⟩
  simp only [str_app_len, l1, l2, l3, l4, orSW_p]
  have hj3 : (if (Txt.join (Str.ofString ", ") ((pairsN v__law_web).map pairS)).length = 0 then Str.ofString "nobody hears" else Txt.join (Str.ofString ", ") ((pairsN v__law_web).map pairS)).length ≤ 275 := by
    split
    · rw [l4]; omega
    · exact hj2
  refine ⟨by omega, by omega, by omega, by omega, by omega, by omega, ?_⟩
  have et : textR v__law_web = Str.ofString "web of " ++ strN v__law_web.length ++ Str.ofString " houses: " ++ (if (Txt.join (Str.ofString ", ") ((pairsN v__law_web).map pairS)).length = 0 then Str.ofString "nobody hears" else Txt.join (Str.ofString ", ") ((pairsN v__law_web).map pairS)) := rfl
  rw [← et]
  simp only [decide_true, Bool.not_true, Bool.false_eq_true, if_false]
  refine ⟨by omega, by omega, lcW_map (h := hbL v__law_web) (fun x hx Q q => ⟨List.mem_range.mp hx, q⟩) ⟨by omega, by omega, lcW_map (h := hbL v__law_web) (fun x hx Q q => ?_) ?_⟩⟩
  · have hx := List.mem_range.mp hx
    have := hrow x
    refine ⟨_, get_row hx, by omega, by omega, by omega, ?_⟩
    rw [hb_sort ok hx]; exact q
  simp only [decide_true, Bool.not_true, Bool.false_eq_true, if_false]
  refine ⟨by omega, by omega, lcW_map (h := reachL v__law_web) (fun x hx Q q => ⟨List.mem_range.mp hx, q⟩) ⟨by omega, by omega, lcW_map (h := reachL v__law_web) (fun x hx Q q => ⟨List.mem_range.mp hx, q⟩) ?_⟩⟩
  simp only [decide_true, Bool.not_true, Bool.false_eq_true, if_false]
  refine ⟨by omega, forW_at (f := keysOf (reachs v__law_web)) (fun i x hx P hP => ?_) ?_⟩
  · have hi := (List.getElem?_eq_some_iff.mp hx).1
    rw [List.length_range] at hi
    rw [List.getElem?_range hi] at hx
    cases hx
    have hr := reach_le ok i
    have hk := keys_len (re := reachs v__law_web) i
    refine ⟨hi, by omega, lcW_of (f := fun x => decide (i ∈ reachL v__law_web x)) (h := fun x => x) (fun x hx Q q => ⟨(mem_reachL.mp hx).1, q⟩) (fun _ _ _ _ q => q) ?_⟩
    rw [List.map_id', part_filter hi]
    rw [keysOf, addK] at hP
    by_cases hm : partOf (reachs v__law_web) i ∈ keysOf (reachs v__law_web) i
    · rw [if_pos hm] at hP
      rw [if_neg (by simp [hm])]
      exact hP
    · rw [if_neg hm] at hP
      rw [if_pos (by simp [hm])]
      exact ⟨by omega, hP⟩
  rw [List.length_range]
  have ep : partsN v__law_web = sortR (keysOf (reachs v__law_web) v__law_web.length) := rfl
  simp only [ep, decide_true, Bool.not_true, Bool.false_eq_true, if_false]
  refine ⟨fun k hk => ?_, by omega, forW_at (f := fun _ => ()) (fun i x hx P hP => ?_) q⟩
  · obtain ⟨h, hh, rfl⟩ := mem_keys.mp hk
    have := part_self hh
    intro e
    rw [e] at this
    cases this
  · have hi := (List.getElem?_eq_some_iff.mp hx).1
    rw [List.length_range] at hi
    rw [List.getElem?_range hi] at hx
    cases hx
    refine ⟨by omega, by omega, lcW_of (f := fun _ => false) (h := fun x => x) (fun x hx Q q => ⟨by show 2 ≤ 60; decide, _, get_row hi, ?_⟩) (fun _ _ _ _ q => q) ?_⟩
    · rw [in_pair ok hi (List.mem_range.mp hx)]
      simpa using q
    · simpa using hP
end
end Wb

/-! k00: webs refused; a value judged -/
namespace Wb
open PySem PySem.Spec PyProof.Rows L2 SlX StX Rs Ma Sn Tw
variable [Rs.Tabz]
def goodW (w : Wv) : Prop := wfW w ∧ w.says
instance {C : Addr} {K : PySem.W.Frag} : NoNon (webP C K) := ⟨fun a v F h e => by
  obtain ⟨p, dx, ws, rfl, _⟩ := webP.is h
  cases e⟩
theorem wfW_nw {w : Wv} (h : wfW w) : w.isWeb = false := by cases w <;> first | rfl | exact h.elim
theorem wfW_pl {w : Wv} (h : wfW w) : w.plain = true := by cases w <;> first | rfl | exact h.elim
def rowD : PyData → List Nat
  | .tuple es => es.map fun d => (toI d).toNat
  | _ => []
theorem heard_rows {w : Wv} (h : heardW w = true) : ∃ rs : Rows, w = .dat (dT (dT dN) rs) ∧ Ok rs := by
  cases w with
  | dat d =>
    have h : isHeard d = true := h
    cases d with
    | tuple ds =>
      have h : ((decide ((1 : Int) ≤ (ds.length : Int)) && decide ((ds.length : Int) ≤ 5)) && ds.zipIdx.all fun p => isHeardRow p.1 p.2 ds.length) = true := h
      rw [Bool.and_eq_true, Bool.and_eq_true, decide_eq_true_eq, decide_eq_true_eq] at h
      obtain ⟨⟨l1, l5⟩, ha⟩ := h
      have each : ∀ i d, ds[i]? = some d → d = dT dN (rowD d) ∧ Asc (rowD d) ∧ (∀ x ∈ rowD d, x < ds.length) ∧ i ∉ rowD d := fun i d hd => by
        have q := List.all_eq_true.mp ha (d, i) (List.mem_zipIdx_iff_getElem?.mpr hd)
        have q : isHeardRow d i ds.length = true := q
        rw [isHeardRow, Bool.and_eq_true] at q
        obtain ⟨q1, q2⟩ := q
        obtain ⟨es, rfl, _⟩ := rising_shape q1
        rw [isRising, Bool.and_eq_true] at q1
        obtain ⟨e, b⟩ := nat_ds (Int.le_refl 0) q1.1
        have a := of_decide_eq_true q1.2
        have er : rowD (.tuple es) = es.map fun d => (toI d).toNat := rfl
        rw [er]
        generalize (es.map fun d => (toI d).toNat) = ns at e b
        subst e
        refine ⟨rfl, asc_ints.mp a, fun x hx => by have := (b x hx).2; omega, fun hx => ?_⟩
        rw [inRow, Bool.not_eq_true', decide_eq_false_iff_not, List.map_map] at q2
        exact q2 (List.mem_map.mpr ⟨i, hx, rfl⟩)
      refine ⟨ds.map rowD, ?_, ⟨by rw [List.length_map]; omega, by rw [List.length_map]; omega, fun r hr => ?_, fun r hr x hx => ?_, fun i r hi => ?_⟩⟩
      · show Wv.dat (.tuple ds) = Wv.dat (.tuple ((ds.map rowD).map (dT dN)))
        congr 2
        rw [List.map_map]
        refine List.ext_getElem (by rw [List.length_map]) fun i h1 h2 => ?_
        rw [List.getElem_map]
        exact (each i ds[i] (List.getElem?_eq_getElem h1)).1
      · obtain ⟨d, hd, rfl⟩ := List.mem_map.mp hr
        obtain ⟨i, hi⟩ := List.mem_iff_getElem?.mp hd
        exact (each i d hi).2.1
      · obtain ⟨d, hd, rfl⟩ := List.mem_map.mp hr
        obtain ⟨i, hi⟩ := List.mem_iff_getElem?.mp hd
        rw [List.length_map]
        exact (each i d hi).2.2.1 x hx
      · rw [List.getElem?_map] at hi
        cases hd : ds[i]? with
        | none => rw [hd] at hi; cases hi
        | some d =>
          rw [hd] at hi
          cases hi
          exact (each i d hd).2.2.2
    | _ => cases h
  | _ => cases h
abbrev oddV : List Wv := [Wv.dat (dU ()), Wv.dat (dN 0), Wv.dat (dT dN [0]), Wv.dat (dP dN dN (0, 0)), Wv.dat (dL dN [0, 1]), Wv.dat (dP dN dB (0, true)), Wv.dat (dP dB dN (false, 1)), Wv.dat (dP dS dN (Str.ofString "0", 1)), Wv.dat (dT dN [0, 1, 2]), Wv.dct, Wv.dat (dP dN dN (9, 0)), Wv.dat (dP dN dN (0, 9)), Wv.dat (dP dInt dN (-1, 0))]
theorem not_bt {rs : Rows} {i : Int} {b : Bool} (h : ¬ (0 ≤ i ∧ i ≤ (rs.length : Int) - 1)) : (btW (.dat (.int i)) 0 ((rs.length : Int) - 1) && b) = false := by
  have : btW (.dat (.int i)) 0 ((rs.length : Int) - 1) = false := by
    show (isInt (.int i) && (decide ((0 : Int) ≤ i) && decide (i ≤ (rs.length : Int) - 1))) = false
    have e : (decide ((0 : Int) ≤ i) && decide (i ≤ (rs.length : Int) - 1)) = false := by
      rw [Bool.and_eq_false_iff, decide_eq_false_iff_not, decide_eq_false_iff_not]
      omega
    rw [e, Bool.and_false]
  rw [this, Bool.false_and]
theorem odd_in {rs : Rows} (ok : Ok rs) {a : Wv} (h : a ∈ oddV) : wf1 a ∧ inWeb rs a = false := by
  have l1 := ok.pos
  have l5 := ok.le
  simp only [List.mem_cons, List.not_mem_nil, or_false] at h
  rcases h with rfl | rfl | rfl | rfl | rfl | rfl | rfl | rfl | rfl | rfl | rfl | rfl | rfl
  · exact ⟨True.intro, rfl⟩
  · exact ⟨True.intro, rfl⟩
  · exact ⟨by show 1 ≤ 60; decide, rfl⟩
  · refine ⟨by show 2 ≤ 60; decide, ?_⟩
    rw [in_pair ok (by omega) (by omega)]
    exact decide_eq_false fun z => ok.row_ne z
  · exact ⟨True.intro, rfl⟩
  · refine ⟨by show 2 ≤ 60; decide, ?_⟩
    show (_ && (false && _)) = false
    rw [Bool.false_and, Bool.and_false]
  · exact ⟨by show 2 ≤ 60; decide, rfl⟩
  · exact ⟨by show 2 ≤ 60; decide, rfl⟩
  · exact ⟨by show 3 ≤ 60; decide, rfl⟩
  · exact ⟨True.intro, rfl⟩
  · exact ⟨by show 2 ≤ 60; decide, not_bt (i := 9) (by omega)⟩
  · refine ⟨by show 2 ≤ 60; decide, ?_⟩
    show (btW (.dat (.int (0 : Int))) 0 ((rs.length : Int) - 1) && (isInt (.int (9 : Int)) && decide ((9 : Int) ∈ cI (row rs 0)))) = false
    have : decide ((9 : Int) ∈ cI (row rs 0)) = false := decide_eq_false fun z => by
      have := ok.row_lt (mem_cI.mp (show ((9 : Nat) : Int) ∈ cI (row rs 0) from z))
      omega
    rw [this, Bool.and_false, Bool.and_false]
  · exact ⟨by show 2 ≤ 60; decide, not_bt (rs := rs) (i := -1) (b := (isInt (dN 0) && decide (toI (dN 0) ∈ cI (row rs (toI (dInt (-1))).toNat)))) (by omega)⟩
theorem sh_rows {r : Rows} : SeqAt.shaped (dT (dT dN) r) = true := nice_shaped (by decide) _
theorem eqv_rows {a b : Rows} : (dT (dT dN) a).eqv (dT (dT dN) b) = decide (a = b) := Nice.eq (d := dT (dT dN)) a b
section
variable {P : Program} {w : World} {K : PySem.W.Frag} {mg : Str → Option Value} {base : Heap} {C_Web C_Pool C_InvalidWeb : Addr}
theorem ok_Webu__initu__x {f : Addr} {fd : FuncData} (B : Bf mg) (c_is_heard_1 : Gf P w K mg base 5 "is_heard" (SpN (fun g : Wv => [(fW (YY K C_Web C_Pool P w)) g]) (fun (g : Wv) (Q : Bool → Prop) => wfW g ∧ Q (heardW g)) (fD K dB))) (x_InvalidWeb : XCls K mg "InvalidWeb" C_InvalidWeb) (F : Fun K "__init__" "Web.__init__" s_Webu__initu_ f fd) : FnOk P w K mg base (L2.CX P w) 6 f fd ["self", "heard"] (SpMY (YY K C_Web C_Pool P w) C_Web (fun _ : Unit => []) (fun _ : Unit => []) (fun g : Wv => [(fW (YY K C_Web C_Pool P w)) g]) (fun (_ : Unit) (g : Wv) (_ : Unit × Unit → Prop) (PX : Ex → Prop) => (wfW g ∧ heardW g = false) ∧ PX ⟨C_InvalidWeb, none⟩) (fD K dU)) := by
  refine gw_metOXN F sc_Webu__initu_ (fun _ => rfl) rfl (fun _ => inferInstance) fun cdv A outer s H E s0 g a0 F0 hr tk po => ?_
  refine ⟨_, (pss_cons (ps_if (pt_not (pt_val (p_call c_is_heard_1 hr (by decide) (pa_cons (pv 1) pa_nil)))) (pss_one (p_raise rfl tk x_InvalidWeb)) pss_nil) pss_neverF), _,
    (ts_ifq (tt_not (tt_B (tr_call (ta_one (tr_var (R := (fW (YY K C_Web C_Pool P w))) (a := g) rfl))))) ts_raiseCs (ts_nextq ts_neverF)), ?_⟩
  rintro Q PX ⟨vs0, F0, hv⟩ hs
  try delta pur
  try dsimp only at hs hv ⊢
  obtain ⟨⟨h1, h2⟩, h3⟩ := hs
  refine ⟨h1, ?_⟩
  rw [h2]
  exact h3
theorem ok_Webu__equ__W {f : Addr} {fd : FuncData} (B : Bf mg) (m_Web : mg "Web" = some (.ref C_Web)) (okW : WxW (YY K C_Web C_Pool P w)) (F : Fun K "__eq__" "Web.__eq__" s_Webu__equ_ f fd) : FnOk P w K mg base CX0 3 f fd ["self", "other"] (SpN (fun g : Rows × Wv => [(webP C_Web K) g.1, (fW (YY K C_Web C_Pool P w)) g.2]) (fun (g : Rows × Wv) (Q : Bool → Prop) => (g.2.isWeb = false ∧ g.2.isPool = false) ∧ Q false) (fD K dB)) := by
  refine gw_met F sc_Webu__equ_ (fun _ => rfl) (fun _ => inferInstance) fun cdv A outer s H E g hr => ?_
  obtain ⟨v_self, v_other⟩ := g
  refine ⟨_, (pss_one (ps_ret (pe_and (p_isiS (.ref C_Web) B (pa_cons (pv 1) (pa_cons (p_cls (by rfl) m_Web) pa_nil))) (pe_one (pe_cmpR (op_eqD hr.units) (pe_sl (pv 0)) (pe_sl (pv 1)) (nomark _)))))), _,
    (ts_ret (tr_andF (tr_cb (c_isiWebW okW) (ta_cons (tr_var (R := (fW (YY K C_Web C_Pool P w))) (a := v_other) rfl) (ta_one tr_clsV))))), ?_⟩
  rintro Q ⟨vs0, F0, hv⟩ hs
  try delta pur
  try dsimp only at hs hv ⊢
  exact ⟨hs.1.2, hs.1.1, hs.2⟩
abbrev s__law_value_right : Stmt := topS 31
abbrev N__law_value_right : List Str := ["_law_value", "_law_due", "_law_text", "_law_turn", "_law_found", "_law_odd", "_law_one", "_law_far"]
theorem sc__law_value_right : FnScope N__law_value_right ["_law_value"] (defScope s__law_value_right) := ⟨rfl, rfl, rfl, by decide +kernel, rfl, by decide +kernel, by decide +kernel⟩
theorem ok__law_value_right {f : Addr} {fd : FuncData} (B : Bf mg) (c_law_are_rows : Gf P w K mg base 3 "_law_are_rows" (SpN (fun g : Wv => [(fW (YY K C_Web C_Pool P w)) g]) (fun (g : Wv) (Q : Bool → Prop) => wfW g ∧ Q (heardW g)) (fD K dB))) (c_law_made : Gf P w K mg base 12 "_law_made" (SpN (fun g : Wv => [(fW (YY K C_Web C_Pool P w)) g]) (fun (g : Wv) (Q : Option Rows → Prop) => ((wfW g ∧ heardW g = false) ∧ Q none) ∨ ∃ rs : Rows, g = .dat (dT (dT dN) rs) ∧ Ok rs ∧ Q (some rs)) (fOpt (webP C_Web K)))) (c_law_web_told : Gf P w K mg base 12 "_law_web_told" (SpN (fun g : Rows × (List (List Nat)) => [(webP C_Web K) g.1, (fD K (dT (dT dN))) g.2]) (fun (g : Rows × Rows) (Q : Bool → Prop) => (Ok g.1 ∧ g.2 = g.1) ∧ Q true) (fD K dB))) (c_Web : MkF P w K mg base 6 "Web" C_Web (spWebInit C_Web K)) (nf_web : PySem.W.notFirst K C_Web (.ref C_Web) = true) (c_web_eq : EqS P w K mg base 1 C_Web (SpN (fun g : Rows × Rows => [(webP C_Web K) g.1, (webP C_Web K) g.2]) (fun (g : Rows × Rows) (Q : Bool → Prop) => True ∧ Q (decide (g.1 = g.2))) (fD K dB))) (N_web : NoD K C_Web) (c_web_eqW : EqS P w K mg base 3 C_Web (SpN (fun g : Rows × Wv => [(webP C_Web K) g.1, (fW (YY K C_Web C_Pool P w)) g.2]) (fun (g : Rows × Wv) (Q : Bool → Prop) => (g.2.isWeb = false ∧ g.2.isPool = false) ∧ Q false) (fD K dB))) (c_web_in : OwnS P w K mg base "__contains__" 6 C_Web (SpN (fun g : Rows × Wv => [(webP C_Web K) g.1, (fW (YY K C_Web C_Pool P w)) g.2]) (fun (g : Rows × Wv) (Q : Bool → Prop) => (Ok g.1 ∧ wf1 g.2) ∧ Q (inWeb g.1 g.2)) (fD K dB))) (c_web_heard : PrpS P w K mg base 1 C_Web "heard" (SpN (fun g : Rows => [(webP C_Web K) g]) (fun (g : Rows) (Q : Rows → Prop) => True ∧ Q g) (fD K (dT (dT dN))))) (F : Fun K "_law_value_right" "_law_value_right" s__law_value_right f fd) (hm : mg "_law_value_right" = some (.ref f)) (b : Binds K fd ["_law_value"] []) : GfG P w K mg base 13 "_law_value_right" (SpN (fun g : Wv => [(fW (YY K C_Web C_Pool P w)) g]) (fun (g : Wv) (Q : Bool → Prop) => goodW g ∧ Q true) (fD K dB)) := by
  refine gwG_mk F hm b sc__law_value_right (fun _ => rfl) (fun _ => inferInstance) fun cdv A outer s H E g hgu hr => ?_
  obtain ⟨v__law_value, hgen⟩ : ∃ x, x = g := ⟨g, rfl⟩
  subst hgen
  refine ⟨_, (pss_cons (ps_par (i := 1) (j := 2) rfl sc__law_value_right.nd rfl rfl (by decide) rfl rfl (pa_cons (p_call c_law_are_rows hr (by decide) (pa_cons (pv 0) pa_nil)) (pa_cons (p_reprW (Y := YY K C_Web C_Pool P w) rfl hgu hr.units B (pa_cons (pv 0) pa_nil)) pa_nil)) (by rfl))
    (pss_cons (ps_for PassesOwn.never rfl (pi_range1 (by rfl) B.range (pa_cons pe_int pa_nil)) (pg_name (i := 3) sc__law_value_right.nd rfl (by first | exact Or.inl rfl | exact Or.inr rfl))
      (pss_cons (ps_set (i := 4) sc__law_value_right.nd rfl (by first | exact Or.inl rfl | exact Or.inr rfl) (p_call c_law_made hr (by decide) (pa_cons (pv 0) pa_nil)))
      (pss_cons (ps_if (PW.pt (pw_or (pt_cmpR op_ne (pe_cmp (pc_notN (pv 4))) (pv 1) (nomark _)) (pw_or1 (pt_cmpR op_ne (p_reprW (Y := YY K C_Web C_Pool P w) rfl hgu hr.units B (pa_cons (pv 0) pa_nil)) (pv 2) (nomark _)))))
        (pss_one (ps_ret pe_bl))
        pss_nil)
      (pss_one (ps_if (PW.pt (pw_and (pt_val (pv 1)) (pw_and1 (pt_not (pt_val (p_call c_law_web_told hr (by decide) (pa_cons (pv 4) (pa_cons (pv 0) pa_nil))))))))
        (pss_one (ps_ret pe_bl))
        pss_nil)))))
    (pss_cons (ps_if (pt_not (pt_val (pv 1)))
      (pss_one (ps_ret pe_bl))
      pss_nil)
    (pss_cons (ps_set (i := 4) sc__law_value_right.nd rfl (by first | exact Or.inl rfl | exact Or.inr rfl) (p_mk c_Web hr (by decide) (pa_cons (pv 0) pa_nil)))
    (pss_cons (ps_set (i := 5) sc__law_value_right.nd rfl (by first | exact Or.inl rfl | exact Or.inr rfl) (pe_lst (pa_cons pe_non (pa_cons pe_int (pa_cons (pe_tup (pa_cons pe_int pa_nil)) (pa_cons (pe_tup (pa_cons pe_int (pa_cons pe_int pa_nil))) (pa_cons (pe_lst (pa_cons pe_int (pa_cons pe_int pa_nil))) (pa_cons (pe_tup (pa_cons pe_int (pa_cons pe_bl pa_nil))) (pa_cons (pe_tup (pa_cons pe_bl (pa_cons pe_int pa_nil))) (pa_cons (pe_tup (pa_cons pe_str (pa_cons pe_int pa_nil))) (pa_cons (pe_tup (pa_cons pe_int (pa_cons pe_int (pa_cons pe_int pa_nil)))) (pa_cons pe_dnewK (pa_cons (pe_tup (pa_cons pe_int (pa_cons pe_int pa_nil))) (pa_cons (pe_tup (pa_cons pe_int (pa_cons pe_int pa_nil))) (pa_cons (pe_tup (pa_cons (pe_un un_neg pe_int) (pa_cons pe_int pa_nil))) pa_nil)))))))))))))))
    (pss_cons (ps_if (PW.pt (pw_or (pt_cmpR (op_neNil hr.units0) (pe_lc (own := [("_law_one", 6)]) (g := gName 6) rfl sc__law_value_right.nd (pi_list (pv 5)) (blkOk_by (N := N__law_value_right) (sc := defScope s__law_value_right) (by decide +kernel)) (fun _ _ _ _ _ => (pg_name (i := 6) sc__law_value_right.nd rfl (by first | exact Or.inl rfl | exact Or.inr rfl))) (fun _ _ _ _ _ => (pts_one (pt_cmpR (op_inO c_web_in hr (by decide)) (pv 6) (pv 4) rfl))) (fun _ _ _ _ _ => by exact (pv 6))) (pe_lst pa_nil) (nomark _)) (pw_or (pt_cmpR (op_eqSl c_web_eqW hr (by decide)) (pv 4) (pv 0) (nomark _)) (pw_or1 (pt_cmpR (op_neO c_web_eq hr (by decide)) (pv 4) (p_mk c_Web hr (by decide) (pa_cons (pv 0) pa_nil)) (nomark _))))))
      (pss_one (ps_ret pe_bl))
      pss_nil)
    (pss_one (ps_ret (pe_cmpR (op_eqNil hr.units0) (pe_lc (own := [("_law_far", 7)]) (g := gName 7) rfl sc__law_value_right.nd (pi_tup (pe_tup (pa_cons (p_mk c_Web hr (by decide) (pa_cons (pe_tup (pa_cons (pe_tup pa_nil) pa_nil)) pa_nil)) (pa_cons (p_mk c_Web hr (by decide) (pa_cons (pe_tup (pa_cons (pe_tup (pa_cons pe_int pa_nil)) (pa_cons (pe_tup pa_nil) pa_nil))) pa_nil)) pa_nil)))) (blkOk_by (N := N__law_value_right) (sc := defScope s__law_value_right) (by decide +kernel)) (fun _ _ _ _ _ => (pg_name (i := 7) sc__law_value_right.nd rfl (by first | exact Or.inl rfl | exact Or.inr rfl))) (fun _ _ _ _ _ => (pts_one (pt_cmpR op_ne (pe_cmpR (op_eqO c_web_eq hr (by decide)) (pv 7) (pv 4) (nomark _)) (pe_cmpR (op_eqDK K hr.units) (p_prp c_web_heard hr (by decide) (pv 7)) (pv 0) (nomark _)) (nomark _)))) (fun _ _ _ _ _ => by exact (pv 7))) (pe_lst pa_nil) (nomark _)))))))))), _,
    (ts_par (Ra := (fD K dB)) (Rb := (fD K dS)) (tr_call (ta_one (tr_var (R := (fW (YY K C_Web C_Pool P w))) (a := v__law_value) rfl))) (tr_cb c_reprW (ta_one (tr_var (R := (fW (YY K C_Web C_Pool P w))) (a := v__law_value) rfl))) rfl (fun p1 => (ts_for (S1 := Unit) (ρ1 := fun s2 => [some ((fW (YY K C_Web C_Pool P w)) v__law_value), some ((fD K dB) p1.1), some ((fD K dS) p1.2), none, none, none, none, none]) (κ1s := fun s2 => []) () (leV_some (leV_some (leV_some (leV_none (leV_none (leV_none (leV_none (leV_none leV_nil)))))))) (fun _ _ _ h => h) (ti_rangeN (tr_nat (K := K) 2)) (tg_name (R := (fD K dN)) 3) (fun _ => rfl)
      (fun s2 x3 => (ts_set (R := (fOpt (webP C_Web K))) 4 (tr_call (ta_one (tr_var (R := (fW (YY K C_Web C_Pool P w))) (a := v__law_value) rfl))) rfl (fun v_law_found_4 => (ts_ifq (tt_or (tt_test (tr_op o_neB (tr_notNT (tr_var (R := (fOpt (webP C_Web K))) (a := v_law_found_4) rfl)) (tr_var (R := (fD K dB)) (a := p1.1) rfl))) (tt_test (tr_op o_neS (tr_cb c_reprW (ta_one (tr_var (R := (fW (YY K C_Web C_Pool P w))) (a := v__law_value) rfl))) (tr_var (R := (fD K dS)) (a := p1.2) rfl))))
      (ts_retq (tr_bl (K := K)))
      (ts_nextq (ts_one (ts_ifq (tt_and (tt_B (tr_var (R := (fD K dB)) (a := p1.1) rfl)) (tt_not (tt_B (tr_call (ta_cons (tr_unopt (tr_var (R := (fOpt (webP C_Web K))) (a := v_law_found_4) rfl)) (ta_one (tr_WdD (X := YY K C_Web C_Pool P w) (d := (dT (dT dN))) (tr_var (R := (fW (YY K C_Web C_Pool P w))) (a := v__law_value) rfl))))))))
      (ts_retq (tr_bl (K := K)))
      (ts_nextq (ts_next () (leV_some (leV_some (leV_some (leV_none (leV_none (leV_none (leV_none (leV_none leV_nil)))))))) (fun _ _ _ h => h))))))))))
      (fun s2 => (ts_ifq (tt_not (tt_B (tr_var (R := (fD K dB)) (a := p1.1) rfl)))
      (ts_retq (tr_bl (K := K)))
      (ts_nextq (ts_set (R := (webP C_Web K)) 4 (tr_fact (p := Ok) ok_web (tr_mk (ta_one (tr_WdD (X := YY K C_Web C_Pool P w) (d := (dT (dT dN))) (tr_var (R := (fW (YY K C_Web C_Pool P w))) (a := v__law_value) rfl))))) rfl (fun v_law_found_5 => (ts_set (R := (fLn (fW (YY K C_Web C_Pool P w)))) 5 (tr_lst (R := (fW (YY K C_Web C_Pool P w))) (ta_lcons (R := (fW (YY K C_Web C_Pool P w))) (tr_dW (X := YY K C_Web C_Pool P w) (d := dU) (tr_non (K := K))) (ta_lcons (R := (fW (YY K C_Web C_Pool P w))) (tr_dW (X := YY K C_Web C_Pool P w) (d := dN) (tr_nat (K := K) 0)) (ta_lcons (R := (fW (YY K C_Web C_Pool P w))) (tr_dW (X := YY K C_Web C_Pool P w) (d := (dT dN)) (tr_tpD (tr_tup (R := (fD K dN)) (ta_lcons (R := (fD K dN)) (tr_nat (K := K) 0) (ta_lnil (R := (fD K dN))))))) (ta_lcons (R := (fW (YY K C_Web C_Pool P w))) (tr_dW (X := YY K C_Web C_Pool P w) (d := (dP dN dN)) (tr_pD (tr_pair (tr_nat (K := K) 0) (tr_nat (K := K) 0)))) (ta_lcons (R := (fW (YY K C_Web C_Pool P w))) (tr_dW (X := YY K C_Web C_Pool P w) (d := (dL dN)) (tr_lnD (tr_lst (R := (fD K dN)) (ta_lcons (R := (fD K dN)) (tr_nat (K := K) 0) (ta_lcons (R := (fD K dN)) (tr_nat (K := K) 1) (ta_lnil (R := (fD K dN)))))))) (ta_lcons (R := (fW (YY K C_Web C_Pool P w))) (tr_dW (X := YY K C_Web C_Pool P w) (d := (dP dN dB)) (tr_pD (tr_pair (tr_nat (K := K) 0) (tr_bl (K := K))))) (ta_lcons (R := (fW (YY K C_Web C_Pool P w))) (tr_dW (X := YY K C_Web C_Pool P w) (d := (dP dB dN)) (tr_pD (tr_pair (tr_bl (K := K)) (tr_nat (K := K) 1)))) (ta_lcons (R := (fW (YY K C_Web C_Pool P w))) (tr_dW (X := YY K C_Web C_Pool P w) (d := (dP dS dN)) (tr_pD (tr_pair (tr_str (K := K)) (tr_nat (K := K) 1)))) (ta_lcons (R := (fW (YY K C_Web C_Pool P w))) (tr_dW (X := YY K C_Web C_Pool P w) (d := (dT dN)) (tr_tpD (tr_tup (R := (fD K dN)) (ta_lcons (R := (fD K dN)) (tr_nat (K := K) 0) (ta_lcons (R := (fD K dN)) (tr_nat (K := K) 1) (ta_lcons (R := (fD K dN)) (tr_nat (K := K) 2) (ta_lnil (R := (fD K dN))))))))) (ta_lcons (R := (fW (YY K C_Web C_Pool P w))) (tr_dct (X := YY K C_Web C_Pool P w)) (ta_lcons (R := (fW (YY K C_Web C_Pool P w))) (tr_dW (X := YY K C_Web C_Pool P w) (d := (dP dN dN)) (tr_pD (tr_pair (tr_nat (K := K) 9) (tr_nat (K := K) 0)))) (ta_lcons (R := (fW (YY K C_Web C_Pool P w))) (tr_dW (X := YY K C_Web C_Pool P w) (d := (dP dN dN)) (tr_pD (tr_pair (tr_nat (K := K) 0) (tr_nat (K := K) 9)))) (ta_lcons (R := (fW (YY K C_Web C_Pool P w))) (tr_dW (X := YY K C_Web C_Pool P w) (d := (dP dInt dN)) (tr_pD (tr_pair (tr_un (tr_int (K := K))) (tr_nat (K := K) 0)))) (ta_lnil (R := (fW (YY K C_Web C_Pool P w)))))))))))))))))) rfl (fun v_law_odd_6 => (ts_ifq (tt_or (tt_test (tr_op (o_neNil (Rb := (fD K dN))) (tr_lc (vs := [6]) (Rd := (fW (YY K C_Web C_Pool P w))) (ti_lst (tr_var (R := (fLn (fW (YY K C_Web C_Pool P w)))) (a := v_law_odd_6) rfl)) (tg_name (R := (fW (YY K C_Web C_Pool P w))) 6) rfl rfl rfl (fun _ => rfl) (fun x7 => (tt_test (tr_op (o_inOwn is_web) (tr_var (R := (fW (YY K C_Web C_Pool P w))) (a := x7) rfl) (tr_var (R := (webP C_Web K)) (a := v_law_found_5) rfl)))) (fun x7 => (tr_var (R := (fW (YY K C_Web C_Pool P w))) (a := x7) rfl))) (tr_lst (R := (fD K dN)) (ta_lnil (R := (fD K dN)))))) (tt_or (tt_test (tr_op (o_eqSlW (Y := YY K C_Web C_Pool P w) N_web is_web) (tr_var (R := (webP C_Web K)) (a := v_law_found_5) rfl) (tr_var (R := (fW (YY K C_Web C_Pool P w))) (a := v__law_value) rfl))) (tt_test (tr_op (o_neOwn nf_web is_web is_web) (tr_var (R := (webP C_Web K)) (a := v_law_found_5) rfl) (tr_fact (p := Ok) ok_web (tr_mk (ta_one (tr_WdD (X := YY K C_Web C_Pool P w) (d := (dT (dT dN))) (tr_var (R := (fW (YY K C_Web C_Pool P w))) (a := v__law_value) rfl)))))))))
      (ts_retq (tr_bl (K := K)))
      (ts_nextq (ts_ret (tr_op (o_eqNil (Rb := (fD K dN))) (tr_lc (vs := [7]) (Rd := (webP C_Web K)) (ti_tup (tr_tup (R := (webP C_Web K)) (ta_lcons (R := (webP C_Web K)) (tr_fact (p := Ok) ok_web (tr_mk (ta_one (tr_tpD (tr_tup (R := (fD K (dT dN))) (ta_lcons (R := (fD K (dT dN))) (tr_tpD (tr_tup (R := (fD K dN)) (ta_lnil (R := (fD K dN))))) (ta_lnil (R := (fD K (dT dN)))))))))) (ta_lcons (R := (webP C_Web K)) (tr_fact (p := Ok) ok_web (tr_mk (ta_one (tr_tpD (tr_tup (R := (fD K (dT dN))) (ta_lcons (R := (fD K (dT dN))) (tr_tpD (tr_tup (R := (fD K dN)) (ta_lcons (R := (fD K dN)) (tr_nat (K := K) 1) (ta_lnil (R := (fD K dN)))))) (ta_lcons (R := (fD K (dT dN))) (tr_tpD (tr_tup (R := (fD K dN)) (ta_lnil (R := (fD K dN))))) (ta_lnil (R := (fD K (dT dN))))))))))) (ta_lnil (R := (webP C_Web K))))))) (tg_name (R := (webP C_Web K)) 7) rfl rfl rfl (fun _ => rfl) (fun x8 => (tt_test (tr_op o_neB (tr_op (o_eqOwn nf_web is_web is_web) (tr_var (R := (webP C_Web K)) (a := x8) rfl) (tr_var (R := (webP C_Web K)) (a := v_law_found_5) rfl)) (tr_op (o_eqA (d := (dT (dT dN))) (e := dA)) (tr_prp (Ra := (webP C_Web K)) (hS := is_web) (tr_var (R := (webP C_Web K)) (a := x8) rfl)) (tr_Wd (X := YY K C_Web C_Pool P w) (tr_var (R := (fW (YY K C_Web C_Pool P w))) (a := v__law_value) rfl)))))) (fun x8 => (tr_var (R := (webP C_Web K)) (a := x8) rfl))) (tr_lst (R := (fD K dN)) (ta_lnil (R := (fD K dN)))))))))))))))))), ?_⟩
  rintro Q ⟨vs0, F0, hv⟩ hs
  try delta pur
  try dsimp only at hs hv ⊢
  obtain ⟨⟨wf, sy⟩, q⟩ := hs
  have np := wfW_np wf
  refine ⟨wf, sy, by decide, forW_inv2 (fun _ _ => True) True.intro (fun i x s P _ _ hP => ?_) fun s _ => ?_⟩
  · cases hh : heardW v__law_value with
    | false =>
      refine .inl ⟨⟨wf, rfl⟩, orW_of false false (fun P3 h3 => h3) (fun _ P3 h3 => ⟨sy, by rw [decide_eq_true rfl]; exact h3⟩) ?_⟩
      rw [Bool.or_false, if_neg Bool.false_ne_true]
      exact andW_of false false (fun P h => h) (fun z => by cases z) (hP () True.intro)
    | true =>
      obtain ⟨rs, e, ok⟩ := heard_rows hh
      refine .inr ⟨rs, e, ok, orW_of false false (fun P3 h3 => h3) (fun _ P3 h3 => ⟨sy, by rw [decide_eq_true rfl]; exact h3⟩) ?_⟩
      rw [Bool.or_false, if_neg Bool.false_ne_true]
      exact andW_of true false (fun P h => h) (fun _ P h => ⟨rs, rfl, rs, e, ⟨ok, rfl⟩, h⟩) (hP () True.intro)
  · cases hh : heardW v__law_value with
    | false => exact q
    | true =>
      obtain ⟨rs, e, ok⟩ := heard_rows hh
      rw [if_neg (by decide)]
      have o1 : Ok [[]] := ⟨by decide, by decide, (fun r hr => by rw [List.mem_singleton.mp hr]; exact List.Pairwise.nil), (fun r hr x hx => by rw [List.mem_singleton.mp hr] at hx; cases hx), fun i r hi hx => by
        have hm := List.mem_of_getElem? hi
        rw [List.mem_singleton.mp hm] at hx; cases hx⟩
      have o2 : Ok [[1], []] := ⟨by decide, by decide, (fun r hr => by
        simp only [List.mem_cons, List.not_mem_nil, or_false] at hr
        rcases hr with rfl | rfl
        · exact List.pairwise_singleton _ _
        · exact List.Pairwise.nil), (fun r hr x hx => by
        simp only [List.mem_cons, List.not_mem_nil, or_false] at hr
        rcases hr with rfl | rfl
        · rw [List.mem_singleton.mp hx]; decide
        · cases hx), fun i r hi hx => by
        match i, hi with
        | 0, hi => cases hi; exact absurd (List.mem_singleton.mp hx) (by decide)
        | 1, hi => cases hi; cases hx
        | i + 2, hi => cases hi⟩
      refine ⟨rs, e, ok, fun _ => ⟨by decide, by decide, by decide, by show 13 ≤ 100000; decide, orW_of false false (fun P hP => ⟨by show 13 ≤ 40000; decide, lcW_of (f := fun _ => false) (h := fun x => x) (fun x hx Q hQ => ?_) (fun _ _ _ Q hQ => hQ) ⟨by decide, rfl, ?_⟩⟩) (fun _ P hP => orW_of false false (fun P hP => ⟨wfW_pl wf, ⟨wfW_nw wf, np⟩, hP⟩) (fun _ P hP => ⟨rs, e, ok, fun _ => ⟨True.intro, by rw [decide_eq_true rfl]; exact hP⟩⟩) hP) ?_⟩⟩
      · obtain ⟨w1, w2⟩ := odd_in ok hx
        exact ⟨⟨ok, w1⟩, by rw [w2]; exact hQ⟩
      · rw [List.filter_eq_nil_iff.mpr fun _ _ => Bool.false_ne_true]
        exact hP
      rw [Bool.or_false, if_neg Bool.false_ne_true]
      refine ⟨by decide, by decide, o1, fun _ => ⟨by decide, by decide, by decide, o2, fun _ => ⟨by show 2 ≤ 100000; decide, by show 2 ≤ 40000; decide, lcW_of (f := fun _ => false) (h := fun x => x) (fun x hx Q hQ => ⟨True.intro, True.intro, _, e, ⟨sh_rows, sh_rows⟩, ?_⟩) (fun _ _ _ Q hQ => hQ) ⟨by decide, rfl, ?_⟩⟩⟩⟩
      · rw [show (dA (dT (dT dN) rs)) = dT (dT dN) rs from rfl, eqv_rows, decide_eq_true rfl]
        exact hQ
      · rw [List.filter_eq_nil_iff.mpr fun _ _ => Bool.false_ne_true]
        exact q
end
end Wb

/-! k00: values near rows; the law -/
namespace Wb
open PySem PySem.Spec PyProof.Rows L2 SlX StX Rs Ma Sn Tw
variable [Rs.Tabz]
/-! of what a short text can be made, dicts too -/
structure Sd (d : PyData) (n w : Nat) : Prop where
  sh : d.showable = true
  dp : d.depth ≤ n
  lv : d.leavesShort 70 = true
  wt : d.bulk ≤ w
theorem Sd.len {d : PyData} {n w : Nat} (h : Sd d n w) (hw : w ≤ 100000) : d.shown.length ≤ sizeLine := by
  have h1 := PyData.shown_le_bulk 70 (by decide) d h.lv
  have h2 := h.wt
  rw [sizeLine_eq]
  have : (70 + 2) * d.bulk ≤ 72 * 100000 := Nat.mul_le_mul_left _ (by omega)
  omega
theorem Sd.up {d : PyData} {n w n' w' : Nat} (h : Sd d n w) (h1 : n ≤ n') (h2 : w ≤ w') : Sd d n' w' := ⟨h.sh, Nat.le_trans h.dp h1, h.lv, Nat.le_trans h.wt h2⟩
theorem sd_all {n w : Nat} : ∀ {xs : List PyData}, (∀ x ∈ xs, Sd x n w) → PyData.showableAll xs = true ∧ PyData.depthAll xs ≤ n ∧ PyData.leavesShortAll 70 xs = true ∧ PyData.bulkAll xs ≤ xs.length * (w + 1)
  | [], _ => ⟨rfl, Nat.zero_le _, rfl, Nat.zero_le _⟩
  | x :: xs, h => by
    obtain ⟨a1, a3, a4, a5⟩ := sd_all (xs := xs) fun y hy => h y (List.mem_cons_of_mem _ hy)
    obtain ⟨b1, b3, b4, b5⟩ := h x List.mem_cons_self
    refine ⟨?_, ?_, ?_, ?_⟩
    · simp only [PyData.showableAll, b1, a1, Bool.and_self]
    · simp only [PyData.depthAll]; omega
    · simp only [PyData.leavesShortAll, b4, a4, Bool.and_self]
    · simp only [PyData.bulkAll, List.length_cons, Nat.add_mul, Nat.one_mul]
      omega
theorem sd_T {n w m : Nat} {xs : List PyData} (h : ∀ x ∈ xs, Sd x n w) (hl : xs.length ≤ m) : Sd (.tuple xs) (n + 1) (m * (w + 1)) := by
  obtain ⟨a1, a3, a4, a5⟩ := sd_all h
  refine ⟨?_, ?_, ?_, ?_⟩
  · simp only [PyData.showable, a1]
  · simp only [PyData.depth]; omega
  · simp only [PyData.leavesShort, a4]
  · simp only [PyData.bulk]; exact Nat.le_trans a5 (Nat.mul_le_mul_right _ hl)
theorem sd_L {n w m : Nat} {xs : List PyData} (h : ∀ x ∈ xs, Sd x n w) (hl : xs.length ≤ m) : Sd (.list xs) (n + 1) (m * (w + 1)) := by
  obtain ⟨a1, a3, a4, a5⟩ := sd_all h
  refine ⟨?_, ?_, ?_, ?_⟩
  · simp only [PyData.showable, a1]
  · simp only [PyData.depth]; omega
  · simp only [PyData.leavesShort, a4]
  · simp only [PyData.bulk]; exact Nat.le_trans a5 (Nat.mul_le_mul_right _ hl)
theorem sd_N : ∀ k, k < 10 → Sd (dN k) 0 0 := fun k h => ⟨(by decide +kernel : ∀ k : Nat, k < 10 → (PyData.int (k : Int)).showable = true) k h, Nat.le_refl _, (by decide +kernel : ∀ k : Nat, k < 10 → (PyData.int (k : Int)).leavesShort 70 = true) k h, Nat.le_refl _⟩
theorem sd_row {r : List Nat} (h : ∀ x ∈ r, x < 10) (hl : r.length ≤ 12) : Sd (dT dN r) 1 12 := by
  have := sd_T (n := 0) (w := 0) (m := 12) (xs := r.map dN) (fun x hx => by obtain ⟨y, hy, rfl⟩ := List.mem_map.mp hx; exact sd_N y (h y hy)) (by rw [List.length_map]; exact hl)
  exact this
/-- data without dicts, of which a short text can be made -/
theorem sd_say {d : PyData} {n w : Nat} (h : Sd d n w) (nd : d.hasDict = false) (hn : n ≤ 60) (hw : w ≤ 100000) : Sayable d := ⟨h.sh, nd, Nat.le_trans h.dp hn, h.len hw⟩
theorem nd_all : ∀ {xs : List PyData}, (∀ x ∈ xs, x.hasDict = false) → PyData.hasDictAll xs = false
  | [], _ => rfl
  | x :: xs, h => by
    simp only [PyData.hasDictAll, h x List.mem_cons_self, nd_all fun y hy => h y (List.mem_cons_of_mem _ hy), Bool.or_self]
theorem nd_T {xs : List PyData} (h : ∀ x ∈ xs, x.hasDict = false) : (PyData.tuple xs).hasDict = false := by simp only [PyData.hasDict, nd_all h]
theorem nd_L {xs : List PyData} (h : ∀ x ∈ xs, x.hasDict = false) : (PyData.list xs).hasDict = false := by simp only [PyData.hasDict, nd_all h]
theorem nd_row {r : List Nat} : (dT dN r).hasDict = false := nd_T fun x hx => by obtain ⟨y, _, rfl⟩ := List.mem_map.mp hx; rfl
theorem flat_all : ∀ {xs : List PyData}, (∀ x ∈ xs, flatD x = true) → flatDs xs = true
  | [], _ => by simp only [flatDs]
  | x :: xs, h => by simp only [flatDs, h x List.mem_cons_self, flat_all fun y hy => h y (List.mem_cons_of_mem _ hy), Bool.and_self]
theorem flat_row {r : List Nat} : flatD (dT dN r) = true := by
  have : flatDs (r.map dN) = true := flat_all fun x hx => by obtain ⟨y, _, rfl⟩ := List.mem_map.mp hx; rfl
  show flatD (.tuple (r.map dN)) = true
  simp only [flatD, this]
theorem rds_all : ∀ {ws : List Wv}, (∀ x ∈ ws, x.rd = true) → rds ws = true
  | [], _ => by simp only [rds]
  | x :: ws, h => by simp only [rds, h x List.mem_cons_self, rds_all fun y hy => h y (List.mem_cons_of_mem _ hy), Bool.and_self]
theorem toDs_mem : ∀ {ws : List Wv} {d : PyData}, d ∈ toDs ws → ∃ w ∈ ws, w.toD = d
  | [], d, h => by simp only [toDs] at h; cases h
  | w :: ws, d, h => by
    simp only [toDs] at h
    rcases List.mem_cons.mp h with rfl | h
    · exact ⟨w, List.mem_cons_self, rfl⟩
    · obtain ⟨v, hv, e⟩ := toDs_mem h
      exact ⟨v, List.mem_cons_of_mem _ hv, e⟩
theorem toDs_len : ∀ {ws : List Wv}, (toDs ws).length = ws.length
  | [] => by simp only [toDs, List.length_nil]
  | w :: ws => by simp only [toDs, List.length_cons, toDs_len]
/-- an item of a tuple: a datum of which a text can be made, or a thing that is told -/
structure It1 (w : Wv) (n m : Nat) : Prop where
  sd : Sd w.toD n m
  ok : (∃ d, w = .dat d ∧ d.hasDict = false ∧ few d) ∨ (w.isDat = false ∧ w.rd = true ∧ wf1 w)
theorem it_dat {d : PyData} {n m : Nat} (h : Sd d n m) (nd : d.hasDict = false) (f : few d) : It1 (.dat d) n m := ⟨by simpa only [Wv.toD] using h, .inl ⟨d, rfl, nd, f⟩⟩
theorem it_dct {n m : Nat} (h : 1 ≤ n) : It1 .dct n m := ⟨⟨rfl, by show (PyData.dict []).depth ≤ n; exact Nat.le_trans (by decide) h, rfl, Nat.zero_le _⟩, .inr ⟨rfl, rfl, True.intro⟩⟩
theorem not_dat {ws : List Wv} (h : ws.all Wv.isDat = false) : ∃ y ∈ ws, y.isDat = false := by
  refine Classical.byContradiction fun z => ?_
  have : ws.all Wv.isDat = true := List.all_eq_true.mpr fun y hy => by
    cases e : y.isDat with
    | true => rfl
    | false => exact absurd ⟨y, hy, e⟩ z
  rw [this] at h; cases h
/-- tuples of such items: where all of them that are data are flat -/
theorem mk_it {ws : List Wv} {n m k : Nat} (h : ∀ w ∈ ws, It1 w n m) (hl : ws.length ≤ k) (hk : k ≤ 60) (fl : ws.all Wv.isDat = false → ∀ w ∈ ws, w.rd = true) :
    It1 (mkTp ws) (n + 1) (k * (m + 1)) ∧ wfW (mkTp ws) := by
  have sd : Sd (.tuple (toDs ws)) (n + 1) (k * (m + 1)) := sd_T (fun d hd => by obtain ⟨w, hw, rfl⟩ := toDs_mem hd; exact (h w hw).sd) (by rw [toDs_len]; exact hl)
  unfold mkTp
  by_cases c : ws.all Wv.isDat = true
  · rw [if_pos c]
    have each : ∀ d ∈ toDs ws, d.hasDict = false ∧ few d := fun d hd => by
      obtain ⟨w, hw, rfl⟩ := toDs_mem hd
      rcases (h w hw).ok with ⟨d, rfl, a, b⟩ | ⟨a, _⟩
      · exact ⟨by simpa only [Wv.toD] using a, by simpa only [Wv.toD] using b⟩
      · rw [List.all_eq_true.mp c w hw] at a; cases a
    have f : few (.tuple (toDs ws)) := by show (toDs ws).length ≤ 60; rw [toDs_len]; omega
    exact ⟨it_dat sd (nd_T fun d hd => (each d hd).1) f, f, fun d hd => (each d hd).2⟩
  · rw [if_neg c]
    have c : ws.all Wv.isDat = false := by simpa using c
    have nd := not_dat c
    have w1 : ∀ y ∈ ws, wf1 y := fun y hy => by
      rcases (h y hy).ok with ⟨d, rfl, _, b⟩ | ⟨_, _, b⟩
      · exact b
      · exact b
    exact ⟨⟨by simpa only [Wv.toD] using sd, .inr ⟨rfl, by simpa only [Wv.rd] using rds_all (fl c), by show ws.length ≤ 60; omega, nd, fun y hy => wf1_np (w1 y hy)⟩⟩, by show ws.length ≤ 60; omega, nd, w1⟩
/-- such a thing is a value that the law judges -/
theorem it_good {w : Wv} {n m : Nat} (h : It1 w n m) (hn : n ≤ 60) (hm : m ≤ 100000) (wf : wfW w) : goodW w := by
  refine ⟨wf, ?_⟩
  rcases h.ok with ⟨d, rfl, nd, _⟩ | ⟨a, b, _⟩
  · have sd : Sd d n m := by simpa only [Wv.toD] using h.sd
    exact sd_say sd nd hn hm
  · have say : SayW w := ⟨b, h.sd.sh, Nat.le_trans h.sd.dp hn, h.sd.len hm⟩
    cases w with
    | dat d => cases a
    | dct => exact True.intro
    | dk es => exact say
    | tp us => exact say
    | _ => exact wf.elim
def chkD (d : PyData) : Bool := d.showable && (decide (d.depth ≤ 2) && (d.leavesShort 70 && decide (d.bulk ≤ 20)))
theorem sd_chk {d : PyData} (h : chkD d = true) : Sd d 2 20 := by
  unfold chkD at h
  rw [Bool.and_eq_true, Bool.and_eq_true, Bool.and_eq_true, decide_eq_true_eq, decide_eq_true_eq] at h
  exact ⟨h.1, h.2.1, h.2.2.1, h.2.2.2⟩
abbrev oddB : List Wv := [Wv.dat (dU ()), Wv.dat (dN 0), Wv.dat (dN 1), Wv.dat (dInt (-1)), Wv.dat (dB true), Wv.dat (dB false), Wv.dat (dN 5), Wv.dat (dInt (10 ^ Int.toNat 60)), Wv.dat (dS (Str.ofString "")), Wv.dat (dS (Str.ofString "0")), Wv.dat (dT dN []), Wv.dat (dT dN [0]), Wv.dat (dL dN []), Wv.dct, Wv.dat (dP dN dN (0, 1)), Wv.dat (dP dN dN (1, 0)), Wv.dat (dP dN dN (0, 0))]
theorem chk_it {d : PyData} (h : chkD d = true) (nd : d.hasDict = false) (f : few d) : It1 (.dat d) 2 20 ∧ ((Wv.dat d).isDat = false → (Wv.dat d).rd = true) := ⟨it_dat (sd_chk h) nd f, fun z => by cases z⟩
theorem odd_it {a : Wv} (h : a ∈ oddB) : It1 a 2 20 ∧ (a.isDat = false → a.rd = true) := by
  simp only [List.mem_cons, List.not_mem_nil, or_false] at h
  rcases h with rfl | rfl | rfl | rfl | rfl | rfl | rfl | rfl | rfl | rfl | rfl | rfl | rfl | rfl | rfl | rfl | rfl
  · exact chk_it (by decide +kernel) rfl True.intro
  · exact chk_it (by decide +kernel) rfl True.intro
  · exact chk_it (by decide +kernel) rfl True.intro
  · exact chk_it (by decide +kernel) rfl True.intro
  · exact chk_it (by decide +kernel) rfl True.intro
  · exact chk_it (by decide +kernel) rfl True.intro
  · exact chk_it (by decide +kernel) rfl True.intro
  · exact chk_it (by decide +kernel) rfl True.intro
  · exact chk_it (by decide +kernel) rfl True.intro
  · exact chk_it (by decide +kernel) rfl True.intro
  · exact chk_it (by decide +kernel) rfl (by show 0 ≤ 60; decide)
  · exact chk_it (by decide +kernel) rfl (by show 1 ≤ 60; decide)
  · exact chk_it (by decide +kernel) rfl True.intro
  · exact ⟨it_dct (by decide), fun _ => rfl⟩
  · exact chk_it (by decide +kernel) rfl (by show 2 ≤ 60; decide)
  · exact chk_it (by decide +kernel) rfl (by show 2 ≤ 60; decide)
  · exact chk_it (by decide +kernel) rfl (by show 2 ≤ 60; decide)
def Rw12 (r : List Nat) : Prop := (∀ x ∈ r, x < 10) ∧ r.length ≤ 12
theorem row_it {r : List Nat} (h : Rw12 r) : It1 (.dat (dT dN r)) 1 12 := it_dat (sd_row h.1 h.2) nd_row (by show (r.map dN).length ≤ 60; rw [List.length_map]; have := h.2; omega)
theorem sd_rows {rss : List (List Nat)} (h : ∀ r ∈ rss, Rw12 r) (hl : rss.length ≤ 12) : Sd (dT (dT dN) rss) 2 156 := by
  have := sd_T (n := 1) (w := 12) (m := 12) (xs := rss.map (dT dN)) (fun x hx => by obtain ⟨y, hy, rfl⟩ := List.mem_map.mp hx; exact sd_row (h y hy).1 (h y hy).2) (by rw [List.length_map]; exact hl)
  exact this
theorem nd_rows {rss : List (List Nat)} : (dT (dT dN) rss).hasDict = false := nd_T fun x hx => by obtain ⟨y, _, rfl⟩ := List.mem_map.mp hx; exact nd_row
theorem wf_rows {rss : List (List Nat)} (h : ∀ r ∈ rss, Rw12 r) (hl : rss.length ≤ 12) : few2 (dT (dT dN) rss) := ⟨by show (rss.map (dT dN)).length ≤ 60; rw [List.length_map]; omega, fun x hx => by
  obtain ⟨y, hy, rfl⟩ := List.mem_map.mp hx
  show (y.map dN).length ≤ 60
  rw [List.length_map]; have := (h y hy).2; omega⟩
theorem good_rows {rss : List (List Nat)} (h : ∀ r ∈ rss, Rw12 r) (hl : rss.length ≤ 12) : goodW (.dat (dT (dT dN) rss)) := it_good (it_dat (sd_rows h hl) nd_rows (wf_rows h hl).1) (by decide) (by decide) (wf_rows h hl)
theorem good_chk {d : PyData} (h : chkD d = true) (nd : d.hasDict = false) (f : few2 d) : goodW (.dat d) := it_good (it_dat (sd_chk h) nd f.1) (by decide) (by decide) f
theorem rows12 {rs : Rows} (ok : Ok rs) : ∀ r ∈ rs, Rw12 r ∧ r.length ≤ 5 := fun r hr => by
  have l5 := ok.le
  have := nodup_len _ _ (asc_nodup (ok.asc r hr)) (ok.lt r hr)
  exact ⟨⟨fun x hx => by have := ok.lt r hr x hx; omega, by omega⟩, by omega⟩
theorem cutT {α : Type} {xs : List α} {i : Nat} : cutL xs none (some i) = xs.take i := by
  unfold cutL
  simp
theorem cutD {α : Type} {xs : List α} {i : Nat} : cutL xs (some i) none = xs.drop i := by
  unfold cutL
  simp
theorem good_dk {r : List Nat} (h : Rw12 r) : goodW (.dk [(0, dT dN r)]) := by
  have sd := sd_row h.1 h.2
  have e0 : (PyData.int ((0 : Nat) : Int)).showable = true := by decide +kernel
  have e1 : (PyData.int ((0 : Nat) : Int)).leavesShort 70 = true := by decide +kernel
  have s : Sd (.dict [(.int ((0 : Nat) : Int), dT dN r)]) 3 20 := by
    refine ⟨?_, ?_, ?_, ?_⟩
    · simp only [PyData.showable, PyData.showableKv, sd.sh, Bool.and_true]
      decide
    · have := sd.dp
      simp only [PyData.depth, PyData.depthKv]
      omega
    · simp only [PyData.leavesShort, PyData.leavesShortKv, sd.lv, Bool.and_true]
      exact e1
    · have := sd.wt
      simp only [PyData.bulk, PyData.bulkKv]
      omega
  refine ⟨True.intro, ?_⟩
  have e : (Wv.dk [(0, dT dN r)]).toD = .dict [(.int ((0 : Nat) : Int), dT dN r)] := by simp only [Wv.toD, List.map_cons, List.map_nil]
  show SayW (.dk [(0, dT dN r)])
  refine ⟨?_, by rw [e]; exact s.sh, by rw [e]; exact Nat.le_trans s.dp (by decide), by rw [e]; exact s.len (by decide)⟩
  simp only [Wv.rd, List.all_cons, List.all_nil, flat_row, Bool.and_true]
section
variable {P : Program} {w : World} {K : PySem.W.Frag} {mg : Str → Option Value} {base : Heap} {C_Web C_Pool C_InvalidWeb : Addr}
abbrev s__law_bent : Stmt := topS 32
abbrev N__law_bent : List Str := ["_law_cask_here", "_law_rows_here", "_law_house", "_law_way", "_law_odd", "_law_row", "_law_spot", "_law_near"]
theorem sc__law_bent : FnScope N__law_bent ["_law_cask_here", "_law_rows_here"] (defScope s__law_bent) := ⟨rfl, rfl, rfl, by decide +kernel, rfl, by decide +kernel, by decide +kernel⟩
theorem ok__law_bent {f : Addr} {fd : FuncData} (B : Bf mg) (c_law_scoop : Gf P w K mg base 1 "_law_scoop" (SpN (fun g : Unit × Nat => [(fCk 3) g.1, (fD K dN) g.2]) (fun (g : Unit × Nat) (Q : Nat → Prop) => (1 ≤ g.2 ∧ g.2 ≤ 1000) ∧ ∀ n, n < g.2 → Q n) (fD K dN))) (c_law_any_of_1 : Gf P w K mg base 2 "_law_any_of" (SpN (fun g : Unit × (List Wv) => [(fCk 3) g.1, (fLn (fW (YY K C_Web C_Pool P w))) g.2]) spAny (fW (YY K C_Web C_Pool P w)))) (F : Fun K "_law_bent" "_law_bent" s__law_bent f fd) (hm : mg "_law_bent" = some (.ref f)) (b : Binds K fd ["_law_cask_here", "_law_rows_here"] []) : Gf P w K mg base 12 "_law_bent" (SpN (fun g : Unit × (List (List Nat)) => [(fCk 3) g.1, (fD K (dT (dT dN))) g.2]) (fun (g : Unit × Rows) (Q : Wv → Prop) => Ok g.2 ∧ ∀ w, goodW w → Q w) (fW (YY K C_Web C_Pool P w))) := by
  refine gw_mk F hm b sc__law_bent (fun _ => rfl) (fun _ => inferInstance) fun cdv A outer s H E g hr => ?_
  obtain ⟨v__law_cask_here, v__law_rows_here⟩ := g
  refine ⟨_, (pss_cons (ps_par (i := 2) (j := 3) rfl sc__law_bent.nd rfl rfl (by decide) rfl rfl (pa_cons (p_call c_law_scoop hr (by decide) (pa_cons (pv 0) (pa_cons (p_len B (pa_cons (pv 1) pa_nil)) pa_nil))) (pa_cons (p_call c_law_scoop hr (by decide) (pa_cons (pv 0) (pa_cons pe_int pa_nil))) pa_nil)) (by rfl))
    (pss_cons (ps_set (i := 4) sc__law_bent.nd rfl (by first | exact Or.inl rfl | exact Or.inr rfl) (pe_lst (pa_cons pe_non (pa_cons pe_int (pa_cons pe_int (pa_cons (pe_un un_neg pe_int) (pa_cons pe_bl (pa_cons pe_bl (pa_cons pe_int (pa_cons (pe_op Nq.op_powX pe_int pe_int) (pa_cons pe_str (pa_cons pe_str (pa_cons (pe_tup pa_nil) (pa_cons (pe_tup (pa_cons pe_int pa_nil)) (pa_cons (pe_lst pa_nil) (pa_cons pe_dnewK (pa_cons (pe_tup (pa_cons pe_int (pa_cons pe_int pa_nil))) (pa_cons (pe_tup (pa_cons pe_int (pa_cons pe_int pa_nil))) (pa_cons (pe_tup (pa_cons pe_int (pa_cons pe_int pa_nil))) pa_nil)))))))))))))))))))
    (pss_cons (ps_if (pt_cmpR op_eq (pv 3) pe_int (nomark _))
      (pss_one (ps_ret (pe_op op_catA (pe_slice sl_tupA (pv 1) po_none (po_some (pv 2))) (pe_slice sl_tupA (pv 1) (po_some (pe_op op_add (pv 2) pe_int)) po_none))))
      pss_nil)
    (pss_cons (ps_if (pt_cmpR op_eq (pv 3) pe_int (nomark _))
      (pss_one (ps_ret (pe_op op_catA (pv 1) (pe_tup (pa_cons (pe_op op_repTB (pe_tup (pa_cons (p_call c_law_scoop hr (by decide) (pa_cons (pv 0) (pa_cons pe_int pa_nil))) pa_nil)) (p_call c_law_scoop hr (by decide) (pa_cons (pv 0) (pa_cons pe_int pa_nil)))) pa_nil)))))
      pss_nil)
    (pss_cons (ps_if (pt_cmpR op_eq (pv 3) pe_int (nomark _))
      (pss_one (ps_ret (p_call c_law_any_of_1 hr (by decide) (pa_cons (pv 0) (pa_cons (pe_lst (pa_cons (p_list B (pa_cons (pv 1) pa_nil)) (pa_cons pe_non (pa_cons pe_int (pa_cons pe_dnewK (pa_cons pe_str (pa_cons (pe_op op_catA (pv 1) (pe_op op_repTB (pe_tup (pa_cons (pe_tup pa_nil) pa_nil)) pe_int)) (pa_cons (pe_tup (pa_cons (pv 1) pa_nil)) (pa_cons (pe_tup pa_nil) (pa_cons (p_dictP rfl B (pa_cons (pe_lst (pa_cons (pe_tup (pa_cons pe_int (pa_cons (pe_ix ix_tup (pv 1) pe_int (fun _ _ => rfl)) pa_nil))) pa_nil)) pa_nil)) pa_nil)))))))))) pa_nil)))))
      pss_nil)
    (pss_cons (ps_set (i := 5) sc__law_bent.nd rfl (by first | exact Or.inl rfl | exact Or.inr rfl) (pe_ix ix_tup (pv 1) (pv 2) (fun _ _ => rfl)))
    (pss_cons (ps_set (i := 6) sc__law_bent.nd rfl (by first | exact Or.inl rfl | exact Or.inr rfl) (p_call c_law_scoop hr (by decide) (pa_cons (pv 0) (pa_cons (pe_op op_add (p_len B (pa_cons (pv 5) pa_nil)) pe_int) pa_nil))))
    (pss_cons (ps_set (i := 7) sc__law_bent.nd rfl (by first | exact Or.inl rfl | exact Or.inr rfl) (pe_lst (pa_cons (pe_op op_catA (pe_op op_catA (pe_slice sl_tupA (pv 5) po_none (po_some (pv 6))) (pe_tup (pa_cons (p_call c_law_scoop hr (by decide) (pa_cons (pv 0) (pa_cons (pe_op op_add (p_len B (pa_cons (pv 1) pa_nil)) pe_int) pa_nil))) pa_nil))) (pe_slice sl_tupA (pv 5) (po_some (pv 6)) po_none)) (pa_cons (pe_revT K (pv 5)) (pa_cons (pe_op op_catA (pv 5) (pe_slice sl_tupA (pv 5) po_none (po_some pe_int))) (pa_cons (p_list B (pa_cons (pv 5) pa_nil)) pa_nil))))))
    (pss_cons (ps_set (i := 7) sc__law_bent.nd rfl (by first | exact Or.inl rfl | exact Or.inr rfl) (pe_op op_cat (pv 7) (pe_lst (pa_cons (pe_op op_catA (pe_op op_catA (pe_slice sl_tupA (pv 5) po_none (po_some (pv 6))) (pe_tup (pa_cons (p_call c_law_any_of_1 hr (by decide) (pa_cons (pv 0) (pa_cons (pv 4) pa_nil))) pa_nil))) (pe_slice sl_tupA (pv 5) (po_some (pe_op op_add (pv 6) pe_int)) po_none)) (pa_cons (pe_op op_catA (pe_slice sl_tupA (pv 5) po_none (po_some (pv 6))) (pe_slice sl_tupA (pv 5) (po_some (pe_op op_add (pv 6) pe_int)) po_none)) pa_nil)))))
    (pss_cons (ps_expr (pe_bm PySem.F.plainAttrs_list PySem.F.slot_list_append PySem.F.type_list_append mt_append (pv 7) (pa_cons (p_call c_law_any_of_1 hr (by decide) (pa_cons (pv 0) (pa_cons (pv 4) pa_nil))) pa_nil)))
    (pss_one (ps_ret (pe_op op_catA (pe_op op_catA (pe_slice sl_tupA (pv 1) po_none (po_some (pv 2))) (pe_tup (pa_cons (p_call c_law_any_of_1 hr (by decide) (pa_cons (pv 0) (pa_cons (pv 7) pa_nil))) pa_nil))) (pe_slice sl_tupA (pv 1) (po_some (pe_op op_add (pv 2) pe_int)) po_none)))))))))))))), _,
    (ts_par (Ra := (fD K dN)) (Rb := (fD K dN)) (tr_call (ta_cons (tr_var (R := (fCk 3)) (a := v__law_cask_here) rfl) (ta_one (tr_cb c_lenDT (ta_one (tr_var (R := (fD K (dT (dT dN)))) (a := v__law_rows_here) rfl)))))) (tr_call (ta_cons (tr_var (R := (fCk 3)) (a := v__law_cask_here) rfl) (ta_one (tr_nat (K := K) 8)))) rfl (fun p1 => (ts_set (R := (fLn (fW (YY K C_Web C_Pool P w)))) 4 (tr_lst (R := (fW (YY K C_Web C_Pool P w))) (ta_lcons (R := (fW (YY K C_Web C_Pool P w))) (tr_dW (X := YY K C_Web C_Pool P w) (d := dU) (tr_non (K := K))) (ta_lcons (R := (fW (YY K C_Web C_Pool P w))) (tr_dW (X := YY K C_Web C_Pool P w) (d := dN) (tr_nat (K := K) 0)) (ta_lcons (R := (fW (YY K C_Web C_Pool P w))) (tr_dW (X := YY K C_Web C_Pool P w) (d := dN) (tr_nat (K := K) 1)) (ta_lcons (R := (fW (YY K C_Web C_Pool P w))) (tr_dW (X := YY K C_Web C_Pool P w) (d := dInt) (tr_un (tr_int (K := K)))) (ta_lcons (R := (fW (YY K C_Web C_Pool P w))) (tr_dW (X := YY K C_Web C_Pool P w) (d := dB) (tr_bl (K := K))) (ta_lcons (R := (fW (YY K C_Web C_Pool P w))) (tr_dW (X := YY K C_Web C_Pool P w) (d := dB) (tr_bl (K := K))) (ta_lcons (R := (fW (YY K C_Web C_Pool P w))) (tr_dW (X := YY K C_Web C_Pool P w) (d := dN) (tr_nat (K := K) 5)) (ta_lcons (R := (fW (YY K C_Web C_Pool P w))) (tr_dW (X := YY K C_Web C_Pool P w) (d := dInt) (tr_op o_ii (tr_int (K := K)) (tr_int (K := K)))) (ta_lcons (R := (fW (YY K C_Web C_Pool P w))) (tr_dW (X := YY K C_Web C_Pool P w) (d := dS) (tr_str (K := K))) (ta_lcons (R := (fW (YY K C_Web C_Pool P w))) (tr_dW (X := YY K C_Web C_Pool P w) (d := dS) (tr_str (K := K))) (ta_lcons (R := (fW (YY K C_Web C_Pool P w))) (tr_dW (X := YY K C_Web C_Pool P w) (d := (dT dN)) (tr_tpD (tr_tup (R := (fD K dN)) (ta_lnil (R := (fD K dN)))))) (ta_lcons (R := (fW (YY K C_Web C_Pool P w))) (tr_dW (X := YY K C_Web C_Pool P w) (d := (dT dN)) (tr_tpD (tr_tup (R := (fD K dN)) (ta_lcons (R := (fD K dN)) (tr_nat (K := K) 0) (ta_lnil (R := (fD K dN))))))) (ta_lcons (R := (fW (YY K C_Web C_Pool P w))) (tr_dW (X := YY K C_Web C_Pool P w) (d := (dL dN)) (tr_lnD (tr_lst (R := (fD K dN)) (ta_lnil (R := (fD K dN)))))) (ta_lcons (R := (fW (YY K C_Web C_Pool P w))) (tr_dct (X := YY K C_Web C_Pool P w)) (ta_lcons (R := (fW (YY K C_Web C_Pool P w))) (tr_dW (X := YY K C_Web C_Pool P w) (d := (dP dN dN)) (tr_pD (tr_pair (tr_nat (K := K) 0) (tr_nat (K := K) 1)))) (ta_lcons (R := (fW (YY K C_Web C_Pool P w))) (tr_dW (X := YY K C_Web C_Pool P w) (d := (dP dN dN)) (tr_pD (tr_pair (tr_nat (K := K) 1) (tr_nat (K := K) 0)))) (ta_lcons (R := (fW (YY K C_Web C_Pool P w))) (tr_dW (X := YY K C_Web C_Pool P w) (d := (dP dN dN)) (tr_pD (tr_pair (tr_nat (K := K) 0) (tr_nat (K := K) 0)))) (ta_lnil (R := (fW (YY K C_Web C_Pool P w)))))))))))))))))))))) rfl (fun v_law_odd_2 => (ts_ifq (tt_test (tr_op o_eqN (tr_var (R := (fD K dN)) (a := p1.2) rfl) (tr_nat (K := K) 0)))
      (ts_retq (tr_dW (X := YY K C_Web C_Pool P w) (d := (dT (dT dN))) (tr_op o_catDT (tr_tpD (tr_slT (tr_dTp (tr_var (R := (fD K (dT (dT dN)))) (a := v__law_rows_here) rfl)) to_no (to_some (tr_var (R := (fD K dN)) (a := p1.1) rfl)))) (tr_tpD (tr_slT (tr_dTp (tr_var (R := (fD K (dT (dT dN)))) (a := v__law_rows_here) rfl)) (to_some (tr_op o_addN (tr_var (R := (fD K dN)) (a := p1.1) rfl) (tr_nat (K := K) 1))) to_no)))))
      (ts_nextq (ts_ifq (tt_test (tr_op o_eqN (tr_var (R := (fD K dN)) (a := p1.2) rfl) (tr_nat (K := K) 1)))
      (ts_retq (tr_dW (X := YY K C_Web C_Pool P w) (d := (dT (dT dN))) (tr_op o_catDT (tr_var (R := (fD K (dT (dT dN)))) (a := v__law_rows_here) rfl) (tr_tpD (tr_tup (R := (fD K (dT dN))) (ta_lcons (R := (fD K (dT dN))) (tr_op o_rep1z (tr_tpD (tr_tup (R := (fD K dN)) (ta_lcons (R := (fD K dN)) (tr_call (ta_cons (tr_var (R := (fCk 3)) (a := v__law_cask_here) rfl) (ta_one (tr_nat (K := K) 6)))) (ta_lnil (R := (fD K dN)))))) (tr_call (ta_cons (tr_var (R := (fCk 3)) (a := v__law_cask_here) rfl) (ta_one (tr_nat (K := K) 2))))) (ta_lnil (R := (fD K (dT dN))))))))))
      (ts_nextq (ts_ifq (tt_test (tr_op o_eqN (tr_var (R := (fD K dN)) (a := p1.2) rfl) (tr_nat (K := K) 2)))
      (ts_retq (tr_call (ta_cons (tr_var (R := (fCk 3)) (a := v__law_cask_here) rfl) (ta_one (tr_lst (R := (fW (YY K C_Web C_Pool P w))) (ta_lcons (R := (fW (YY K C_Web C_Pool P w))) (tr_dW (X := YY K C_Web C_Pool P w) (d := (dL (dT dN))) (tr_lnD (tr_cb (c_listT (R := (fD K (dT dN)))) (ta_one (tr_dTp (tr_var (R := (fD K (dT (dT dN)))) (a := v__law_rows_here) rfl)))))) (ta_lcons (R := (fW (YY K C_Web C_Pool P w))) (tr_dW (X := YY K C_Web C_Pool P w) (d := dU) (tr_non (K := K))) (ta_lcons (R := (fW (YY K C_Web C_Pool P w))) (tr_dW (X := YY K C_Web C_Pool P w) (d := dN) (tr_nat (K := K) 0)) (ta_lcons (R := (fW (YY K C_Web C_Pool P w))) (tr_dct (X := YY K C_Web C_Pool P w)) (ta_lcons (R := (fW (YY K C_Web C_Pool P w))) (tr_dW (X := YY K C_Web C_Pool P w) (d := dS) (tr_str (K := K))) (ta_lcons (R := (fW (YY K C_Web C_Pool P w))) (tr_dW (X := YY K C_Web C_Pool P w) (d := (dT (dT dN))) (tr_op o_catDT (tr_var (R := (fD K (dT (dT dN)))) (a := v__law_rows_here) rfl) (tr_op o_rep1z (tr_tpD (tr_tup (R := (fD K (dT dN))) (ta_lcons (R := (fD K (dT dN))) (tr_tpD (tr_tup (R := (fD K dN)) (ta_lnil (R := (fD K dN))))) (ta_lnil (R := (fD K (dT dN))))))) (tr_nat (K := K) 5)))) (ta_lcons (R := (fW (YY K C_Web C_Pool P w))) (tr_dW (X := YY K C_Web C_Pool P w) (d := (dT (dT (dT dN)))) (tr_tpD (tr_tup (R := (fD K (dT (dT dN)))) (ta_lcons (R := (fD K (dT (dT dN)))) (tr_var (R := (fD K (dT (dT dN)))) (a := v__law_rows_here) rfl) (ta_lnil (R := (fD K (dT (dT dN))))))))) (ta_lcons (R := (fW (YY K C_Web C_Pool P w))) (tr_dW (X := YY K C_Web C_Pool P w) (d := (dT dN)) (tr_tpD (tr_tup (R := (fD K dN)) (ta_lnil (R := (fD K dN)))))) (ta_lcons (R := (fW (YY K C_Web C_Pool P w))) (tr_dkW (X := YY K C_Web C_Pool P w) (d := (dT dN)) (tr_ofM (tm_dictP (d := dN) (tr_lst (R := (fD K (dP dN (dT dN)))) (ta_lcons (R := (fD K (dP dN (dT dN)))) (tr_pD (tr_pair (tr_nat (K := K) 0) (tr_op o_ixT (tr_var (R := (fD K (dT (dT dN)))) (a := v__law_rows_here) rfl) (tr_nat (K := K) 0)))) (ta_lnil (R := (fD K (dP dN (dT dN)))))))))) (ta_lnil (R := (fW (YY K C_Web C_Pool P w))))))))))))))))))
      (ts_nextq (ts_set (R := (fD K (dT dN))) 5 (tr_op o_ixT (tr_var (R := (fD K (dT (dT dN)))) (a := v__law_rows_here) rfl) (tr_var (R := (fD K dN)) (a := p1.1) rfl)) rfl (fun v_law_row_3 => (ts_set (R := (fD K dN)) 6 (tr_call (ta_cons (tr_var (R := (fCk 3)) (a := v__law_cask_here) rfl) (ta_one (tr_op o_addN (tr_cb c_lenDT (ta_one (tr_var (R := (fD K (dT dN))) (a := v_law_row_3) rfl))) (tr_nat (K := K) 1))))) rfl (fun v_law_spot_4 => (ts_newC 7 (tn_lst (R := (fW (YY K C_Web C_Pool P w))) (ta_lcons (R := (fW (YY K C_Web C_Pool P w))) (tr_dW (X := YY K C_Web C_Pool P w) (d := (dT dN)) (tr_op o_catDT (tr_op o_catDT (tr_tpD (tr_slT (tr_dTp (tr_var (R := (fD K (dT dN))) (a := v_law_row_3) rfl)) to_no (to_some (tr_var (R := (fD K dN)) (a := v_law_spot_4) rfl)))) (tr_tpD (tr_tup (R := (fD K dN)) (ta_lcons (R := (fD K dN)) (tr_call (ta_cons (tr_var (R := (fCk 3)) (a := v__law_cask_here) rfl) (ta_one (tr_op o_addN (tr_cb c_lenDT (ta_one (tr_var (R := (fD K (dT (dT dN)))) (a := v__law_rows_here) rfl))) (tr_nat (K := K) 1))))) (ta_lnil (R := (fD K dN))))))) (tr_tpD (tr_slT (tr_dTp (tr_var (R := (fD K (dT dN))) (a := v_law_row_3) rfl)) (to_some (tr_var (R := (fD K dN)) (a := v_law_spot_4) rfl)) to_no)))) (ta_lcons (R := (fW (YY K C_Web C_Pool P w))) (tr_dW (X := YY K C_Web C_Pool P w) (d := (dT dN)) (tr_tpD (tr_revT (tr_dTp (tr_var (R := (fD K (dT dN))) (a := v_law_row_3) rfl))))) (ta_lcons (R := (fW (YY K C_Web C_Pool P w))) (tr_dW (X := YY K C_Web C_Pool P w) (d := (dT dN)) (tr_op o_catDT (tr_var (R := (fD K (dT dN))) (a := v_law_row_3) rfl) (tr_tpD (tr_slT (tr_dTp (tr_var (R := (fD K (dT dN))) (a := v_law_row_3) rfl)) to_no (to_some (tr_nat (K := K) 1)))))) (ta_lcons (R := (fW (YY K C_Web C_Pool P w))) (tr_dW (X := YY K C_Web C_Pool P w) (d := (dL dN)) (tr_lnD (tr_cb (c_listT (R := (fD K dN))) (ta_one (tr_dTp (tr_var (R := (fD K (dT dN))) (a := v_law_row_3) rfl)))))) (ta_lnil (R := (fW (YY K C_Web C_Pool P w))))))))) rfl rfl (fun l5 => (ts_freeze (i := 7) (R := (fW (YY K C_Web C_Pool P w))) (xs := l5) (ts_newC 7 (tn_cat (Ra := (fW (YY K C_Web C_Pool P w))) (tr_var (R := (fLn (fW (YY K C_Web C_Pool P w)))) (a := l5) rfl) (tr_lst (R := (fW (YY K C_Web C_Pool P w))) (ta_lcons (R := (fW (YY K C_Web C_Pool P w))) (tr_tpN (X := YY K C_Web C_Pool P w) (tr_op o_catA (tr_op o_catA (tr_tdW (X := YY K C_Web C_Pool P w) (d := dN) (tr_tpD (tr_slT (tr_dTp (tr_var (R := (fD K (dT dN))) (a := v_law_row_3) rfl)) to_no (to_some (tr_var (R := (fD K dN)) (a := v_law_spot_4) rfl))))) (tr_tup (R := (fW (YY K C_Web C_Pool P w))) (ta_lcons (R := (fW (YY K C_Web C_Pool P w))) (tr_call (ta_cons (tr_var (R := (fCk 3)) (a := v__law_cask_here) rfl) (ta_one (tr_var (R := (fLn (fW (YY K C_Web C_Pool P w)))) (a := v_law_odd_2) rfl)))) (ta_lnil (R := (fW (YY K C_Web C_Pool P w))))))) (tr_tdW (X := YY K C_Web C_Pool P w) (d := dN) (tr_tpD (tr_slT (tr_dTp (tr_var (R := (fD K (dT dN))) (a := v_law_row_3) rfl)) (to_some (tr_op o_addN (tr_var (R := (fD K dN)) (a := v_law_spot_4) rfl) (tr_nat (K := K) 1))) to_no))))) (ta_lcons (R := (fW (YY K C_Web C_Pool P w))) (tr_dW (X := YY K C_Web C_Pool P w) (d := (dT dN)) (tr_op o_catDT (tr_tpD (tr_slT (tr_dTp (tr_var (R := (fD K (dT dN))) (a := v_law_row_3) rfl)) to_no (to_some (tr_var (R := (fD K dN)) (a := v_law_spot_4) rfl)))) (tr_tpD (tr_slT (tr_dTp (tr_var (R := (fD K (dT dN))) (a := v_law_row_3) rfl)) (to_some (tr_op o_addN (tr_var (R := (fD K dN)) (a := v_law_spot_4) rfl) (tr_nat (K := K) 1))) to_no)))) (ta_lnil (R := (fW (YY K C_Web C_Pool P w)))))))) rfl rfl (fun l6 => (ts_app (R := (fW (YY K C_Web C_Pool P w))) (xs := l6) (tr_call (ta_cons (tr_var (R := (fCk 3)) (a := v__law_cask_here) rfl) (ta_one (tr_var (R := (fLn (fW (YY K C_Web C_Pool P w)))) (a := v_law_odd_2) rfl)))) (fun y7 => (ts_freeze (i := 7) (R := (fW (YY K C_Web C_Pool P w))) (xs := (l6 ++ [y7])) (ts_ret (tr_tpN (X := YY K C_Web C_Pool P w) (tr_op o_catA (tr_op o_catA (tr_tdW (X := YY K C_Web C_Pool P w) (d := (dT dN)) (tr_tpD (tr_slT (tr_dTp (tr_var (R := (fD K (dT (dT dN)))) (a := v__law_rows_here) rfl)) to_no (to_some (tr_var (R := (fD K dN)) (a := p1.1) rfl))))) (tr_tup (R := (fW (YY K C_Web C_Pool P w))) (ta_lcons (R := (fW (YY K C_Web C_Pool P w))) (tr_call (ta_cons (tr_var (R := (fCk 3)) (a := v__law_cask_here) rfl) (ta_one (tr_var (R := (fLn (fW (YY K C_Web C_Pool P w)))) (a := (l6 ++ [y7])) rfl)))) (ta_lnil (R := (fW (YY K C_Web C_Pool P w))))))) (tr_tdW (X := YY K C_Web C_Pool P w) (d := (dT dN)) (tr_tpD (tr_slT (tr_dTp (tr_var (R := (fD K (dT (dT dN)))) (a := v__law_rows_here) rfl)) (to_some (tr_op o_addN (tr_var (R := (fD K dN)) (a := p1.1) rfl) (tr_nat (K := K) 1))) to_no)))))) rfl))))) rfl))))))))))))))))), ?_⟩
  rintro Q ⟨vs0, F0, hv⟩ hs
  try delta pur
  try dsimp only [spAny] at hs hv ⊢
  obtain ⟨ok, q⟩ := hs
  have l1 := ok.pos
  have l5 := ok.le
  have r12 := rows12 ok
  have rr : ∀ r ∈ v__law_rows_here, Rw12 r := fun r hr => (r12 r hr).1
  refine ⟨⟨by omega, by omega⟩, fun n hn => ⟨by decide, fun k hk => ⟨⟨by decide, by decide +kernel⟩, by decide, by decide, by decide, by show 17 ≤ 100000; decide, ?_⟩⟩⟩
  simp only [cutT, cutD]
  by_cases k0 : k = 0
  · rw [if_pos (decide_eq_true k0)]
    have tl := List.length_take (i := n) (l := v__law_rows_here)
    have dl := List.length_drop (i := n + 1) (l := v__law_rows_here)
    exact ⟨by omega, q _ (good_rows (fun r hr => rr r ((List.mem_append.mp hr).elim List.mem_of_mem_take List.mem_of_mem_drop)) (by rw [List.length_append]; omega))⟩
  rw [if_neg (by rw [decide_eq_true_eq]; exact k0)]
  by_cases k1 : k = 1
  · rw [if_pos (decide_eq_true k1)]
    refine ⟨by decide, fun m hm => ⟨by show 1 ≤ 100000; decide, by decide, fun j hj => ⟨m, rfl, by omega, by show 1 ≤ 100000; decide, by rw [List.length_singleton]; omega, q _ (good_rows (fun r hr => ?_) (by rw [List.length_append, List.length_singleton]; omega))⟩⟩⟩
    rcases List.mem_append.mp hr with hr | hr
    · exact rr r hr
    · rw [List.mem_singleton.mp hr]
      exact ⟨fun x hx => by rw [(List.mem_replicate.mp hx).2]; omega, by rw [List.length_replicate]; omega⟩
  rw [if_neg (by rw [decide_eq_true_eq]; exact k1)]
  by_cases k2 : k = 2
  · rw [if_pos (decide_eq_true k2)]
    obtain ⟨r0, h0⟩ : ∃ r, v__law_rows_here[0]? = some r := ⟨_, List.getElem?_eq_getElem (by omega)⟩
    have m0 := List.mem_of_getElem? h0
    refine ⟨by decide, by decide, [], rfl, by decide, by rw [List.length_replicate]; omega, by show 1 ≤ 100000; decide, by decide, r0, h0, by show 1 ≤ 100000; decide, by show 9 ≤ 100000; decide, ⟨by simp, by show 9 ≤ 1000; decide⟩, fun b hb => q b ?_⟩
    simp only [List.mem_cons, List.not_mem_nil, or_false] at hb
    rcases hb with rfl | rfl | rfl | rfl | rfl | rfl | rfl | rfl | rfl
    · have sd := sd_L (n := 1) (w := 12) (m := 12) (xs := v__law_rows_here.map (dT dN)) (fun x hx => by obtain ⟨y, hy, rfl⟩ := List.mem_map.mp hx; exact sd_row (rr y hy).1 (rr y hy).2) (by rw [List.length_map]; omega)
      exact it_good (it_dat sd (nd_L fun x hx => by obtain ⟨y, _, rfl⟩ := List.mem_map.mp hx; exact nd_row) True.intro) (by decide) (by decide) ⟨True.intro, True.intro⟩
    · exact good_chk (by decide +kernel) rfl ⟨True.intro, True.intro⟩
    · exact good_chk (by decide +kernel) rfl ⟨True.intro, True.intro⟩
    · exact ⟨True.intro, True.intro⟩
    · exact good_chk (by decide +kernel) rfl ⟨True.intro, True.intro⟩
    · refine good_rows (fun r hr => ?_) (by rw [List.length_append, List.length_replicate]; omega)
      rcases List.mem_append.mp hr with hr | hr
      · exact rr r hr
      · rw [(List.mem_replicate.mp hr).2]
        exact ⟨(fun x hx => nomatch hx), by decide⟩
    · have sd := sd_T (n := 2) (w := 156) (m := 1) (xs := [dT (dT dN) v__law_rows_here]) (fun x hx => by rw [List.mem_singleton.mp hx]; exact sd_rows rr (by omega)) (Nat.le_refl _)
      have wf : few2 (.tuple [dT (dT dN) v__law_rows_here]) := ⟨by show 1 ≤ 60; decide, fun x hx => by rw [List.mem_singleton.mp hx]; exact (wf_rows rr (by omega)).1⟩
      exact it_good (it_dat sd (nd_T fun x hx => by rw [List.mem_singleton.mp hx]; exact nd_rows) wf.1) (by decide) (by decide) wf
    · exact good_rows (rss := []) (fun r hr => nomatch hr) (by decide)
    · exact good_dk (rr r0 m0)
  rw [if_neg (by rw [decide_eq_true_eq]; exact k2)]
  obtain ⟨r, h0⟩ : ∃ r, v__law_rows_here[n]? = some r := ⟨_, List.getElem?_eq_getElem hn⟩
  have mr := List.mem_of_getElem? h0
  obtain ⟨r1, r5⟩ := r12 r mr
  have small : ∀ (ws : List Nat), (∀ x ∈ ws, x ∈ r ∨ x < 10) → ws.length ≤ 12 → Rw12 ws := fun ws h hl => ⟨fun x hx => (h x hx).elim (r1.1 x) id, hl⟩
  refine ⟨r, h0, ⟨by omega, by omega⟩, fun i hi => ⟨⟨by omega, by omega⟩, fun j hj => ?_⟩⟩
  have tl := List.length_take (i := i) (l := r)
  have dl := List.length_drop (i := i) (l := r)
  have dl1 := List.length_drop (i := i + 1) (l := r)
  have t1 := List.length_take (i := 1) (l := r)
  have tn := List.length_take (i := n) (l := v__law_rows_here)
  have dn := List.length_drop (i := n + 1) (l := v__law_rows_here)
  refine ⟨by show 1 ≤ 100000; decide, by rw [List.length_singleton]; omega, by rw [List.length_append, List.length_singleton]; omega, by omega, by show 4 ≤ 100000; decide, ⟨by simp, by show 17 ≤ 1000; decide⟩, fun a3 h3 => ?_⟩
  obtain ⟨o3, o3r⟩ := odd_it h3
  have nums : ∀ ws : List Nat, (∀ x ∈ ws, x < 10) → ∀ w ∈ ws.map fun a => Wv.dat (dN a), It1 w 2 20 ∧ w.rd = true := fun ws h w hw => by
    obtain ⟨x, hx, rfl⟩ := List.mem_map.mp hw
    exact ⟨it_dat ((sd_N x (h x hx)).up (by decide) (by decide)) rfl True.intro, by simp only [Wv.rd]; rfl⟩
  have nt := nums (r.take i) fun x hx => r1.1 x (List.mem_of_mem_take hx)
  have nd := nums (r.drop (i + 1)) fun x hx => r1.1 x (List.mem_of_mem_drop hx)
  have mk5 := mk_it (ws := (r.take i).map (fun a => Wv.dat (dN a)) ++ [a3] ++ (r.drop (i + 1)).map fun a => Wv.dat (dN a)) (n := 2) (m := 20) (k := 12) (fun w hw => by
    rcases List.mem_append.mp hw with hw | hw
    · rcases List.mem_append.mp hw with hw | hw
      · exact (nt w hw).1
      · rw [List.mem_singleton.mp hw]; exact o3
    · exact (nd w hw).1) (by simp only [List.length_append, List.length_map, List.length_singleton]; omega) (by decide) (fun c w hw => by
    have odd : a3.isDat = false := by
      obtain ⟨y, hy, hd⟩ := not_dat c
      rcases List.mem_append.mp hy with hy | hy
      · rcases List.mem_append.mp hy with hy | hy
        · obtain ⟨x, _, rfl⟩ := List.mem_map.mp hy; cases hd
        · rw [← List.mem_singleton.mp hy]; exact hd
      · obtain ⟨x, _, rfl⟩ := List.mem_map.mp hy; cases hd
    rcases List.mem_append.mp hw with hw | hw
    · rcases List.mem_append.mp hw with hw | hw
      · exact (nt w hw).2
      · rw [List.mem_singleton.mp hw]; exact o3r odd
    · exact (nd w hw).2)
  refine ⟨by show 1 ≤ 100000; decide, by simp only [List.length_map, List.length_singleton]; omega, by simp only [List.length_append, List.length_map, List.length_singleton]; omega, by omega, by show 2 ≤ 100000; decide, by show 4 + 2 ≤ 10000; decide, ⟨by simp, by show 17 ≤ 1000; decide⟩, fun a5 h5 => ⟨by show 6 < 100000; decide, ⟨by simp, by show 7 ≤ 1000; decide⟩, fun a7 h7 => ?_⟩⟩
  obtain ⟨o5, o5r⟩ := odd_it h5
  have o7 : It1 a7 3 300 ∧ (a7.isDat = false → a7.rd = true) := by
    have rowz : ∀ ws : List Nat, Rw12 ws → It1 (.dat (dT dN ws)) 3 300 ∧ ((Wv.dat (dT dN ws)).isDat = false → (Wv.dat (dT dN ws)).rd = true) := fun ws h => ⟨⟨(row_it h).sd.up (by decide) (by decide), (row_it h).ok⟩, fun z => by cases z⟩
    simp only [List.cons_append, List.nil_append, List.mem_cons, List.not_mem_nil, or_false] at h7
    rcases h7 with rfl | rfl | rfl | rfl | rfl | rfl | rfl
    · refine rowz _ (small _ (fun x hx => ?_) (by simp only [List.length_append, List.length_singleton]; omega))
      rcases List.mem_append.mp hx with hx | hx
      · rcases List.mem_append.mp hx with hx | hx
        · exact .inl (List.mem_of_mem_take hx)
        · rw [List.mem_singleton.mp hx]; exact .inr (by omega)
      · exact .inl (List.mem_of_mem_drop hx)
    · exact rowz _ (small _ (fun x hx => .inl (List.mem_reverse.mp hx)) (by rw [List.length_reverse]; omega))
    · exact rowz _ (small _ (fun x hx => .inl ((List.mem_append.mp hx).elim id List.mem_of_mem_take)) (by rw [List.length_append]; omega))
    · have sd := sd_L (n := 0) (w := 0) (m := 12) (xs := r.map dN) (fun x hx => by obtain ⟨y, hy, rfl⟩ := List.mem_map.mp hx; exact sd_N y (r1.1 y hy)) (by rw [List.length_map]; omega)
      exact ⟨it_dat (sd.up (by decide) (by decide)) (nd_L fun x hx => by obtain ⟨y, _, rfl⟩ := List.mem_map.mp hx; rfl) True.intro, fun z => by cases z⟩
    · refine ⟨⟨mk5.1.sd.up (by decide) (by decide), mk5.1.ok⟩, fun z => ?_⟩
      rcases mk5.1.ok with ⟨d, e, _⟩ | ⟨_, b, _⟩
      · rw [e] at z; cases z
      · exact b
    · exact rowz _ (small _ (fun x hx => .inl ((List.mem_append.mp hx).elim List.mem_of_mem_take List.mem_of_mem_drop)) (by rw [List.length_append]; omega))
    · exact ⟨⟨o5.sd.up (by decide) (by decide), o5.ok⟩, o5r⟩
  refine ⟨by show 1 ≤ 100000; decide, by simp only [List.length_map, List.length_singleton]; omega, by simp only [List.length_append, List.length_map, List.length_singleton]; omega, q _ ?_⟩
  have rowsI : ∀ (l : List (List Nat)), (∀ x ∈ l, x ∈ v__law_rows_here) → ∀ w ∈ l.map fun a => Wv.dat (dT dN a), It1 w 3 300 ∧ w.rd = true := fun l h w hw => by
    obtain ⟨x, hx, rfl⟩ := List.mem_map.mp hw
    exact ⟨⟨(row_it (rr x (h x hx))).sd.up (by decide) (by decide), (row_it (rr x (h x hx))).ok⟩, by simp only [Wv.rd]; exact flat_row⟩
  have ra := rowsI (v__law_rows_here.take n) fun x hx => List.mem_of_mem_take hx
  have rb := rowsI (v__law_rows_here.drop (n + 1)) fun x hx => List.mem_of_mem_drop hx
  have mk := mk_it (ws := (v__law_rows_here.take n).map (fun a => Wv.dat (dT dN a)) ++ [a7] ++ (v__law_rows_here.drop (n + 1)).map fun a => Wv.dat (dT dN a)) (n := 3) (m := 300) (k := 12) (fun w hw => by
    rcases List.mem_append.mp hw with hw | hw
    · rcases List.mem_append.mp hw with hw | hw
      · exact (ra w hw).1
      · rw [List.mem_singleton.mp hw]; exact o7.1
    · exact (rb w hw).1) (by simp only [List.length_append, List.length_map, List.length_singleton]; omega) (by decide) (fun c w hw => by
    have odd : a7.isDat = false := by
      obtain ⟨y, hy, hd⟩ := not_dat c
      rcases List.mem_append.mp hy with hy | hy
      · rcases List.mem_append.mp hy with hy | hy
        · obtain ⟨x, _, rfl⟩ := List.mem_map.mp hy; cases hd
        · rw [← List.mem_singleton.mp hy]; exact hd
      · obtain ⟨x, _, rfl⟩ := List.mem_map.mp hy; cases hd
    rcases List.mem_append.mp hw with hw | hw
    · rcases List.mem_append.mp hw with hw | hw
      · exact (ra w hw).2
      · rw [List.mem_singleton.mp hw]; exact o7.2 odd
    · exact (rb w hw).2)
  exact it_good mk.1 (by decide) (by decide) mk.2
theorem wide5 : ((List.range 5).map fun x => (List.range 5).filter fun y => !decide (y = x)) = fullR 5 := rfl
abbrev s_law : Stmt := topS 33
abbrev N_law : List Str := ["_law_script", "_law_at", "_law_cask_here", "_law_turn", "_law_rows_here", "_law_again", "_law_near", "_law_wide", "_law_far", "_law_house"]
theorem sc_law : FnScope N_law ["_law_script"] (defScope s_law) := ⟨rfl, rfl, rfl, by decide +kernel, rfl, by decide +kernel, by decide +kernel⟩
theorem ok_law {f : Addr} {fd : FuncData} (B : Bf mg) (c_law_cask : Gf P w K mg base 1 "_law_cask" (SpN (fun g : (List Int) × Nat => [(fD K (dL dInt)) g.1, (fD K dN) g.2]) (fun (g : List Int × Nat) (Q : Unit → Prop) => g.1.length ≤ 63 ∧ Q ()) (fCk 3))) (c_law_rows : Gf P w K mg base 3 "_law_rows" (SpN (fun g : Unit × Nat => [(fCk 3) g.1, (fD K dN) g.2]) (fun (g : Unit × Nat) (Q : Rows → Prop) => (1 ≤ g.2 ∧ g.2 ≤ 5) ∧ ∀ rs : Rows, Ok rs → rs.length = g.2 → Q rs) (fD K (dT (dT dN))))) (c_law_scoop : Gf P w K mg base 1 "_law_scoop" (SpN (fun g : Unit × Nat => [(fCk 3) g.1, (fD K dN) g.2]) (fun (g : Unit × Nat) (Q : Nat → Prop) => (1 ≤ g.2 ∧ g.2 ≤ 1000) ∧ ∀ n, n < g.2 → Q n) (fD K dN))) (c_law_value_right : GfG P w K mg base 13 "_law_value_right" (SpN (fun g : Wv => [(fW (YY K C_Web C_Pool P w)) g]) (fun (g : Wv) (Q : Bool → Prop) => goodW g ∧ Q true) (fD K dB))) (c_law_bent : Gf P w K mg base 12 "_law_bent" (SpN (fun g : Unit × (List (List Nat)) => [(fCk 3) g.1, (fD K (dT (dT dN))) g.2]) (fun (g : Unit × Rows) (Q : Wv → Prop) => Ok g.2 ∧ ∀ w, goodW w → Q w) (fW (YY K C_Web C_Pool P w)))) (c_law_are_rows : Gf P w K mg base 3 "_law_are_rows" (SpN (fun g : Wv => [(fW (YY K C_Web C_Pool P w)) g]) (fun (g : Wv) (Q : Bool → Prop) => wfW g ∧ Q (heardW g)) (fD K dB))) (c_law_made : Gf P w K mg base 12 "_law_made" (SpN (fun g : Wv => [(fW (YY K C_Web C_Pool P w)) g]) (fun (g : Wv) (Q : Option Rows → Prop) => ((wfW g ∧ heardW g = false) ∧ Q none) ∨ ∃ rs : Rows, g = .dat (dT (dT dN) rs) ∧ Ok rs ∧ Q (some rs)) (fOpt (webP C_Web K)))) (F : Fun K "law" "law" s_law f fd) : FnG P w K mg base 15 f fd ["_law_script"] (SpN (fun g : (List Int) => [(fD K (dL dInt)) g]) (fun (g : List Int) (Q : Bool → Prop) => g.length ≤ 63 ∧ Q true) (fD K dB)) := by
  refine gwG_ok F sc_law (fun _ => rfl) (fun _ => inferInstance) fun cdv A outer s H E g hgu hr => ?_
  obtain ⟨v__law_script, hgen⟩ : ∃ x, x = g := ⟨g, rfl⟩
  subst hgen
  refine ⟨_, (pss_cons (ps_for PassesOwn.never rfl (pi_range1 (by rfl) B.range (pa_cons (p_max2 rfl B (pa_cons pe_int (pa_cons (p_min2 rfl B (pa_cons pe_int (pa_cons (p_len B (pa_cons (pv 0) pa_nil)) pa_nil))) pa_nil))) pa_nil)) (pg_name (i := 1) sc_law.nd rfl (by first | exact Or.inl rfl | exact Or.inr rfl))
      (pss_cons (ps_set (i := 2) sc_law.nd rfl (by first | exact Or.inl rfl | exact Or.inr rfl) (p_call c_law_cask hr (by decide) (pa_cons (pv 0) (pa_cons (pv 1) pa_nil))))
      (pss_one (ps_for PassesOwn.never rfl (pi_range1 (by rfl) B.range (pa_cons pe_int pa_nil)) (pg_name (i := 3) sc_law.nd rfl (by first | exact Or.inl rfl | exact Or.inr rfl))
        (pss_cons (ps_set (i := 4) sc_law.nd rfl (by first | exact Or.inl rfl | exact Or.inr rfl) (p_call c_law_rows hr (by decide) (pa_cons (pv 2) (pa_cons (pe_op op_add pe_int (p_call c_law_scoop hr (by decide) (pa_cons (pv 2) (pa_cons pe_int pa_nil)))) pa_nil))))
        (pss_cons (ps_if (pt_not (pt_val (p_callG c_law_value_right hgu hr (by decide) (pa_cons (pv 4) pa_nil))))
          (pss_one (ps_ret pe_bl))
          pss_nil)
        (pss_one (ps_for PassesOwn.never rfl (pi_range1 (by rfl) B.range (pa_cons pe_int pa_nil)) (pg_name (i := 5) sc_law.nd rfl (by first | exact Or.inl rfl | exact Or.inr rfl))
          (pss_cons (ps_set (i := 6) sc_law.nd rfl (by first | exact Or.inl rfl | exact Or.inr rfl) (p_call c_law_bent hr (by decide) (pa_cons (pv 2) (pa_cons (pv 4) pa_nil))))
          (pss_cons (ps_if (PW.pt (pw_and (pt_cmpR op_eq (pv 5) pe_int (nomark _)) (pw_and1 (pt_val (p_call c_law_are_rows hr (by decide) (pa_cons (pv 6) pa_nil))))))
            (pss_one (ps_set (i := 6) sc_law.nd rfl (by first | exact Or.inl rfl | exact Or.inr rfl) (p_call c_law_bent hr (by decide) (pa_cons (pv 2) (pa_cons (pv 6) pa_nil)))))
            pss_nil)
          (pss_one (ps_if (pt_not (pt_val (p_callG c_law_value_right hgu hr (by decide) (pa_cons (pv 6) pa_nil))))
            (pss_one (ps_ret pe_bl))
            pss_nil))))))))))))
    (pss_cons (ps_set (i := 7) sc_law.nd rfl (by first | exact Or.inl rfl | exact Or.inr rfl) (p_tuple B (pa_cons (pe_lc (own := [("_law_house", 9)]) (g := gName 9) (tt := tYes) rfl sc_law.nd (pi_range1 (by rfl) B.range (pa_cons pe_int pa_nil)) (blkOk_by (N := N_law) (sc := defScope s_law) (by decide +kernel)) (fun _ _ _ _ _ => (pg_name (i := 9) sc_law.nd rfl (by first | exact Or.inl rfl | exact Or.inr rfl))) (fun _ _ _ _ _ => pts_nil) (fun _ _ _ _ _ => by exact (p_tupleK K B (pa_cons (pe_lc (own := [("_law_far", 8)]) (g := gName 8) rfl sc_law.nd (pi_range1 (by rfl) B.range (pa_cons pe_int pa_nil)) (blkOk_by (N := N_law) (by first | decide +kernel | (dsimp only [Cx.blk, compEnvC]; decide +kernel) | exact rfl)) (fun _ _ _ _ _ => (pg_name (i := 8) sc_law.nd rfl (by first | exact Or.inl rfl | exact Or.inr rfl))) (fun _ _ _ _ _ => (pts_one (pt_cmpR op_ne (pv 8) (pv 9) (nomark _)))) (fun _ _ _ _ _ => by exact (pv 8))) pa_nil)))) pa_nil)))
    (pss_one (ps_ret (pe_and (p_callG c_law_value_right hgu hr (by decide) (pa_cons (pv 7) pa_nil)) (pe_and (pe_not (p_call c_law_are_rows hr (by decide) (pa_cons (pe_op op_catA (pv 7) (pe_tup (pa_cons (pe_tup pa_nil) pa_nil))) pa_nil))) (pe_one (pe_cmp (pc_isN (p_call c_law_made hr (by decide) (pa_cons (pe_op op_catA (pv 7) (pe_tup (pa_cons (pe_tup pa_nil) pa_nil))) pa_nil))))))))))), _,
    (ts_for (S1 := Unit) (ρ1 := fun s1 => [some ((fD K (dL dInt)) v__law_script), none, none, none, none, none, none, none, none, none]) (κ1s := fun s1 => []) () (leV_some (leV_none (leV_none (leV_none (leV_none (leV_none (leV_none (leV_none (leV_none (leV_none leV_nil)))))))))) (fun _ _ _ h => h) (ti_rangeN (tr_cb c_maxN (ta_cons (tr_nat (K := K) 1) (ta_one (tr_cb c_minN (ta_cons (tr_nat (K := K) 6) (ta_one (tr_cb c_lenDL (ta_one (tr_var (R := (fD K (dL dInt))) (a := v__law_script) rfl)))))))))) (tg_name (R := (fD K dN)) 1) (fun _ => rfl)
      (fun s1 x2 => (ts_set (R := (fCk 3)) 2 (tr_call (ta_cons (tr_var (R := (fD K (dL dInt))) (a := v__law_script) rfl) (ta_one (tr_var (R := (fD K dN)) (a := x2) rfl)))) rfl (fun v_law_cask_here_3 => (ts_one (ts_for (S1 := Unit) (ρ1 := fun s4 => [some ((fD K (dL dInt)) v__law_script), some ((fD K dN) x2), some ((fCk 3) v_law_cask_here_3), none, none, none, none, none, none, none]) (κ1s := fun s4 => []) () (leV_some (leV_some (leV_some (leV_none (leV_none (leV_none (leV_none (leV_none (leV_none (leV_none leV_nil)))))))))) (fun _ _ _ h => h) (ti_rangeN (tr_nat (K := K) 6)) (tg_name (R := (fD K dN)) 3) (fun _ => rfl)
      (fun s4 x5 => (ts_set (R := (fD K (dT (dT dN)))) 4 (tr_call (ta_cons (tr_var (R := (fCk 3)) (a := v_law_cask_here_3) rfl) (ta_one (tr_op o_addN (tr_nat (K := K) 1) (tr_call (ta_cons (tr_var (R := (fCk 3)) (a := v_law_cask_here_3) rfl) (ta_one (tr_nat (K := K) 5)))))))) rfl (fun v_law_rows_here_6 => (ts_ifq (tt_not (tt_B (tr_call (ta_one (tr_dW (X := YY K C_Web C_Pool P w) (d := (dT (dT dN))) (tr_var (R := (fD K (dT (dT dN)))) (a := v_law_rows_here_6) rfl))))))
      (ts_retq (tr_bl (K := K)))
      (ts_nextq (ts_one (ts_for (S1 := Unit) (ρ1 := fun s7 => [some ((fD K (dL dInt)) v__law_script), some ((fD K dN) x2), some ((fCk 3) v_law_cask_here_3), some ((fD K dN) x5), some ((fD K (dT (dT dN))) v_law_rows_here_6), none, none, none, none, none]) (κ1s := fun s7 => []) () (leV_some (leV_some (leV_some (leV_some (leV_some (leV_none (leV_none (leV_none (leV_none (leV_none leV_nil)))))))))) (fun _ _ _ h => h) (ti_rangeN (tr_nat (K := K) 4)) (tg_name (R := (fD K dN)) 5) (fun _ => rfl)
      (fun s7 x8 => (ts_set (R := (fW (YY K C_Web C_Pool P w))) 6 (tr_call (ta_cons (tr_var (R := (fCk 3)) (a := v_law_cask_here_3) rfl) (ta_one (tr_var (R := (fD K (dT (dT dN)))) (a := v_law_rows_here_6) rfl)))) rfl (fun v_law_near_9 => (ts_seq (S1 := Wv) (ρ1 := fun s11 => [some ((fD K (dL dInt)) v__law_script), some ((fD K dN) x2), some ((fCk 3) v_law_cask_here_3), some ((fD K dN) x5), some ((fD K (dT (dT dN))) v_law_rows_here_6), some ((fD K dN) x8), some ((fW (YY K C_Web C_Pool P w)) s11), none, none, none]) (κ1s := fun s11 => []) (ts_if (tt_and (tt_test (tr_op o_eqN (tr_var (R := (fD K dN)) (a := x8) rfl) (tr_nat (K := K) 3))) (tt_B (tr_call (ta_one (tr_var (R := (fW (YY K C_Web C_Pool P w))) (a := v_law_near_9) rfl)))))
      (ts_one (ts_set (R := (fW (YY K C_Web C_Pool P w))) 6 (tr_call (ta_cons (tr_var (R := (fCk 3)) (a := v_law_cask_here_3) rfl) (ta_one (tr_WdD (X := YY K C_Web C_Pool P w) (d := (dT (dT dN))) (tr_var (R := (fW (YY K C_Web C_Pool P w))) (a := v_law_near_9) rfl))))) rfl (fun v_law_near_13 => (ts_next v_law_near_13 (leV_some (leV_some (leV_some (leV_some (leV_some (leV_some (leV_some (leV_none (leV_none (leV_none leV_nil)))))))))) (fun _ _ _ h => h)))))
      (ts_next v_law_near_9 (leV_some (leV_some (leV_some (leV_some (leV_some (leV_some (leV_some (leV_none (leV_none (leV_none leV_nil)))))))))) (fun _ _ _ h => h)))
      (fun s11 => (ts_one (ts_ifq (tt_not (tt_B (tr_call (ta_one (tr_var (R := (fW (YY K C_Web C_Pool P w))) (a := s11) rfl)))))
      (ts_retq (tr_bl (K := K)))
      (ts_nextq (ts_next () (leV_some (leV_some (leV_some (leV_some (leV_some (leV_none (leV_none (leV_none (leV_none (leV_none leV_nil)))))))))) (fun _ _ _ h => h))))))))))
      (fun s7 => (ts_next () (leV_some (leV_some (leV_some (leV_none (leV_none (leV_none (leV_none (leV_none (leV_none (leV_none leV_nil)))))))))) (fun _ _ _ h => h))))))))))
      (fun s4 => (ts_next () (leV_some (leV_none (leV_none (leV_none (leV_none (leV_none (leV_none (leV_none (leV_none (leV_none leV_nil)))))))))) (fun _ _ _ h => h))))))))
      (fun s1 => (ts_set (R := (fD K (dT (dT dN)))) 7 (tr_cb c_tupDL (ta_one (tr_lnD (tr_lc (vs := [9]) (Rd := (fD K (dT dN))) (ti_rangeN (tr_nat (K := K) 5)) (tg_name (R := (fD K dN)) 9) rfl rfl rfl (fun _ => rfl) (fun x14 => tt_yes) (fun x14 => (tr_cb c_tupDL (ta_one (tr_lnD (tr_lc (vs := [8]) (Rd := (fD K dN)) (ti_rangeN (tr_nat (K := K) 5)) (tg_name (R := (fD K dN)) 8) rfl rfl rfl (fun _ => rfl) (fun x15 => (tt_test (tr_op o_neN (tr_var (R := (fD K dN)) (a := x15) rfl) (tr_var (R := (fD K dN)) (a := x14) rfl)))) (fun x15 => (tr_var (R := (fD K dN)) (a := x15) rfl))))))))))) rfl (fun v_law_wide_16 => (ts_ret (tr_and (tr_call (ta_one (tr_dW (X := YY K C_Web C_Pool P w) (d := (dT (dT dN))) (tr_var (R := (fD K (dT (dT dN)))) (a := v_law_wide_16) rfl)))) (tr_and (tr_not (tr_call (ta_one (tr_dW (X := YY K C_Web C_Pool P w) (d := (dT (dT dN))) (tr_op o_catDT (tr_var (R := (fD K (dT (dT dN)))) (a := v_law_wide_16) rfl) (tr_tpD (tr_tup (R := (fD K (dT dN))) (ta_lcons (R := (fD K (dT dN))) (tr_tpD (tr_tup (R := (fD K dN)) (ta_lnil (R := (fD K dN))))) (ta_lnil (R := (fD K (dT dN)))))))))))) (tr_isNT (tr_call (ta_one (tr_dW (X := YY K C_Web C_Pool P w) (d := (dT (dT dN))) (tr_op o_catDT (tr_var (R := (fD K (dT (dT dN)))) (a := v_law_wide_16) rfl) (tr_tpD (tr_tup (R := (fD K (dT dN))) (ta_lcons (R := (fD K (dT dN))) (tr_tpD (tr_tup (R := (fD K dN)) (ta_lnil (R := (fD K dN))))) (ta_lnil (R := (fD K (dT dN))))))))))))))))))), ?_⟩
  rintro Q ⟨vs0, F0, hv⟩ hs
  try delta pur
  try dsimp only at hs hv ⊢
  obtain ⟨hl, q⟩ := hs
  refine ⟨by omega, forW_inv2 (fun _ _ => True) True.intro (fun i x s P _ _ hP => ⟨hl, by decide, forW_inv2 (fun _ _ => True) True.intro (fun j y s2 P2 _ _ hP2 => ⟨by decide, fun n hn => ⟨⟨by omega, by omega⟩, fun rs ok hz => ⟨good_rows (fun r hr => (rows12 ok r hr).1) (by have := ok.le; omega), ?_⟩⟩⟩) fun s _ => hP () True.intro⟩) fun s _ => ?_⟩
  · rw [if_neg (by decide)]
    refine ⟨by decide, forW_inv2 (fun _ _ => True) True.intro (fun z x2 s3 P3 _ _ hP3 => ⟨ok, fun w g => ?_⟩) fun s _ => hP2 () True.intro⟩
    refine andW_of (decide (x2 = 3)) (heardW w) (fun P h => h) (fun _ P h => ⟨g.1, h⟩) ?_
    by_cases c : (decide (x2 = 3) && heardW w) = true
    · rw [if_pos c]
      obtain ⟨rs2, e, ok2⟩ := heard_rows (Bool.and_eq_true_iff.mp c).2
      exact ⟨rs2, e, ok2, fun w2 g2 => ⟨g2, hP3 () True.intro⟩⟩
    · rw [if_neg c]
      exact ⟨g, hP3 () True.intro⟩
  · refine ⟨by decide, by decide, lcW_map (h := fun x => (List.range 5).filter fun y => !decide (y = x)) (fun x _ Q hQ => ⟨by decide, by decide, by simp only [lcW_p, List.map_id']; exact hQ⟩) ?_⟩
    rw [wide5]
    have ok5 : Ok (fullR 5) := full_ok (by decide) (by decide)
    have e6 : heardW (Wv.dat (dT (dT dN) (fullR 5 ++ [[]]))) = false := by decide +kernel
    have r6 : ∀ r ∈ fullR 5 ++ [[]], Rw12 r := fun r hr => by
      rcases List.mem_append.mp hr with hr | hr
      · exact (rows12 ok5 r hr).1
      · rw [List.mem_singleton.mp hr]; exact ⟨(fun x hx => nomatch hx), by decide⟩
    have w6 : wfW (Wv.dat (dT (dT dN) (fullR 5 ++ [[]]))) := wf_rows r6 (by decide)
    refine andW_of true true (fun P h => ⟨good_rows (fun r hr => (rows12 ok5 r hr).1) (by decide), h⟩) (fun _ P h => andW_of true true (fun P h => ⟨by decide, by decide, by decide, w6, by rw [e6]; exact h⟩) (fun _ P h => ⟨by decide, by decide, by decide, .inl ⟨⟨w6, e6⟩, h⟩⟩) h) q
end
end Wb

namespace Wb
open PySem PySem.Spec PyProof.Rows L2 SlX StX Rs Ma Tw
variable [Rs.Tabz]
section
variable {P : Program} {w : World} {K : PySem.W.Frag} {mg : Str → Option Value} {base : Heap} {C : Addr} {k : Nat} {x : Str}
theorem spn_toF {γ δ : Type} {pre : γ → Prop} {Rs : γ → List VP} {f : γ → δ} {R : δ → VP} {R0 : γ → VP} {spec : γ → (δ → Prop) → Prop} (h1 : ∀ g Q, spec g Q → pre g ∧ Q (f g)) (h2 : ∀ g v F, R0 g v F → R (f g) v F) {vs : List V} {H : Hp} {Q : VK} {E : XK} (h : SpN Rs spec R vs H Q E) : SpF pre Rs R0 vs H Q E :=
  let ⟨g, F, N, P, A, hv, hs, q⟩ := h
  ⟨g, F, N, (h1 g P hs).1, A, hv, fun v F' H' e A' r => q _ v F' H' e A' (h1 g P hs).2 (h2 g v F' r)⟩
theorem parts_toN (h : PrpS P w K mg base k C "parts" (spProp C K fun rs => Dt K (.tuple ((partsI (reachs rs)).map dI)))) : PrpS P w K mg base k C "parts" (SpN (fun g : Rows => [webP C K g]) (fun (g : Rows) (Q : List (List Nat) → Prop) => Q (partsN g)) (fD K (dT (dT dN)))) :=
  let ⟨p, g, h1, h2, h3, h4, h5, h6⟩ := h
  ⟨p, g, h1, h2, h3, h4, h5, h6.imp fun _ _ _ _ => spn_toF (f := partsN) (fun g Q q => ⟨True.intro, q⟩) fun g v F r => by
    show Dt K (dT (dT dN) (partsN g)) v F
    rw [← partsN_data]; exact r⟩
end
end Wb

namespace Wb
open PySem PySem.Spec PyProof.Rows L2 SlX StX Rs Ma Tw
variable [TZ : Rs.Tabz]
theorem law_binds {K : PySem.W.Frag} {f : Addr} {fd : FuncData} (F : Fun K "law" "law" s_law f fd) (s : Shared) (v : Value) : BindsTo s fd ⟨[v], []⟩ [("_law_script", v)] := by
  obtain ⟨oc, od, kV, doc, pm, an, cdv, ct, osl, rfl, lk, hcd⟩ := F.ex
  exact .of_eq rfl
theorem all_mk {P : Program} {w : World} {K : PySem.W.Frag} {h : Heap} {mg : Str → Option Value} {fa C_Web C_InvalidWeb : Addr} {t_MAX_SIZE t_GREATEST : Tok} (X : K.In h) (G : h.Ns mainGlobals mg) (hfa : mg "law" = some (.ref fa))
    (t_is_integer : TopFn K "is_integer" s_is_integer ["value"])
    (t_is_between : TopFn K "is_between" s_is_between ["value", "low", "high"])
    (t_require_number : TopFn K "require_number" s_require_number ["value", "low", "high"])
    (t_is_rising : TopFn K "is_rising" s_is_rising ["value", "low", "high"])
    (t_is_heard_row : TopFn K "is_heard_row" s_is_heard_row ["value", "house", "size"])
    (t_is_heard : TopFn K "is_heard" s_is_heard ["value"])
    (t_houses_from : TopFn K "houses_from" s_houses_from ["heard", "house"])
    (t_heard_by : TopFn K "heard_by" s_heard_by ["web", "house"])
    (t_require_house : TopFn K "require_house" s_require_house ["web", "house"])
    (t__law_cask : TopFn K "_law_cask" s__law_cask ["_law_script", "_law_at"])
    (t__law_scoop : TopFn K "_law_scoop" s__law_scoop ["_law_cask_here", "_law_total"])
    (t__law_any_of : TopFn K "_law_any_of" s__law_any_of ["_law_cask_here", "_law_items"])
    (t__law_few_of : TopFn K "_law_few_of" s__law_few_of ["_law_cask_here", "_law_items", "_law_count"])
    (t__law_rows : TopFn K "_law_rows" s__law_rows ["_law_cask_here", "_law_size"])
    (t__law_is_whole : TopFn K "_law_is_whole" s__law_is_whole ["_law_value"])
    (t__law_is_row : TopFn K "_law_is_row" s__law_is_row ["_law_value", "_law_house", "_law_size"])
    (t__law_are_rows : TopFn K "_law_are_rows" s__law_are_rows ["_law_value"])
    (t__law_made : TopFn K "_law_made" s__law_made ["_law_value"])
    (t__law_from : TopFn K "_law_from" s__law_from ["_law_rows_here", "_law_house"])
    (t__law_roots : TopFn K "_law_roots" s__law_roots ["_law_rows_here"])
    (t__law_web_told : TopFn K "_law_web_told" s__law_web_told ["_law_web", "_law_rows_here"])
    (t__law_value_right : TopFn K "_law_value_right" s__law_value_right ["_law_value"])
    (t__law_bent : TopFn K "_law_bent" s__law_bent ["_law_cask_here", "_law_rows_here"])
    (t_law : TopFn K "law" s_law ["_law_script"])
    (m_WebU_initU : MetFn K C_Web "__init__" "Web.__init__" s_Webu__initu_ ["self", "heard"])
    (m_Web_hears : MetFn K C_Web "hears" "Web.hears" s_Web_hears ["self", "house"])
    (m_Web_reached : MetFn K C_Web "reached" "Web.reached" s_Web_reached ["self", "house"])
    (m_WebU_eqU : MetFn K C_Web "__eq__" "Web.__eq__" s_Webu__equ_ ["self", "other"])
    (m_WebU_lenU : MetFn K C_Web "__len__" "Web.__len__" s_Webu__lenu_ ["self"])
    (m_WebU_strU : MetFn K C_Web "__str__" "Web.__str__" s_Webu__stru_ ["self"])
    (m_WebU_containsU : MetFn K C_Web "__contains__" "Web.__contains__" s_Webu__containsu_ ["self", "value"])
    (p_Web_heard : PrpFn K C_Web "heard" "Web.heard" s_Web_heard)
    (p_Web_size : PrpFn K C_Web "size" "Web.size" s_Web_size)
    (p_Web_roots : PrpFn K C_Web "roots" "Web.roots" s_Web_roots)
    (p_Web_parts : PrpFn K C_Web "parts" "Web.parts" s_Web_parts)
    (sl_Web_own_heard : SlotAt K C_Web "own_heard" 0)
    (sl_Web_own_size : SlotAt K C_Web "own_size" 4)
    (sl_Web_own_reached : SlotAt K C_Web "own_reached" 2)
    (sl_Web_own_roots : SlotAt K C_Web "own_roots" 3)
    (sl_Web_own_pairs : SlotAt K C_Web "own_pairs" 1)
    (z_len : PySem.W.nsIn K mainGlobals "len" = some none)
    (z_range : PySem.W.nsIn K mainGlobals "range" = some none)
    (z_list : PySem.W.nsIn K mainGlobals "list" = some none)
    (z_tuple : PySem.W.nsIn K mainGlobals "tuple" = some none)
    (z_set : PySem.W.nsIn K mainGlobals "set" = some none)
    (z_sorted : PySem.W.nsIn K mainGlobals "sorted" = some none)
    (z_all : PySem.W.nsIn K mainGlobals "all" = some none)
    (z_isinstance : PySem.W.nsIn K mainGlobals "isinstance" = some none)
    (z_int : PySem.W.nsIn K mainGlobals "int" = some none)
    (z_bool : PySem.W.nsIn K mainGlobals "bool" = some none)
    (z_enumerate : PySem.W.nsIn K mainGlobals "enumerate" = some none)
    (z_zip : PySem.W.nsIn K mainGlobals "zip" = some none)
    (z_min : PySem.W.nsIn K mainGlobals "min" = some none)
    (z_max : PySem.W.nsIn K mainGlobals "max" = some none)
    (z_abs : PySem.W.nsIn K mainGlobals "abs" = some none)
    (z_str : PySem.W.nsIn K mainGlobals "str" = some none)
    (z_repr : PySem.W.nsIn K mainGlobals "repr" = some none)
    (z_dict : PySem.W.nsIn K mainGlobals "dict" = some none)
    (gi_MAX_SIZE : PySem.W.nsIn K mainGlobals "MAX_SIZE" = some (some (.int (5) t_MAX_SIZE)))
    (gi_GREATEST : PySem.W.nsIn K mainGlobals "GREATEST" = some (some (.int (10 ^ 60) t_GREATEST)))
    (a_Web : PySem.W.nsIn K mainGlobals "Web" = some (some (.ref C_Web)))
    (a_InvalidWeb : PySem.W.nsIn K mainGlobals "InvalidWeb" = some (some (.ref C_InvalidWeb)))
    (xb_InvalidWeb : Tw.xclsB K C_InvalidWeb = true)
    (nodb : Tw.noDB K C_Web = true)
    (wxb : Tw.wxwB K C_Web = true)
    (pg_Web : PySem.W.plainGet K C_Web Str.empty = true)
    (ic_Web : PySem.W.isClsIn K C_Web = true)
    (po_Web : PySem.W.plainOver K C_Web = true)
    (sa_Web : PySem.W.findIn K (.ref C_Web) "__setattr__" = some (some (.builtin "object.__setattr__")))
    (ca_Web : PySem.W.findIn K (.ref C_Web) "__class__" = some (some (.builtin "object.__class__")))
    (cm_Web : PySem.W.mroIn K C_Web (.type "object") = some true)
    (nf_Web : PySem.W.notFirst K C_Web (.ref C_Web) = true)
    (ne_Web : PySem.W.findIn K (.ref C_Web) "__ne__" = some (some (.builtin "object.__ne__")))
    (mk_Web : PySem.W.makesIn K C_Web = true)
    (kc_Web : PySem.W.keepIn K (.ref C_Web) = true)
    (cn : PySem.W.specialIn K (.builtin "object.__class__") "__get__" = some (some (.builtin "getset_descriptor.__get__")))
    (ct : PySem.W.takesIn K (.builtin "object.__class__") = some true)
    : ∃ fd : FuncData, (∀ (s : Shared) (v : Value), BindsTo s fd ⟨[v], []⟩ [("_law_script", v)]) ∧ ∀ base : Heap, K.In base → base.Ns mainGlobals mg → FnG P w K mg base 15 fa fd ["_law_script"] (spLaw K) := by
  obtain ⟨f_is_integer, d_is_integer, a_is_integer, F_is_integer, b_is_integer⟩ := t_is_integer
  obtain ⟨f_is_between, d_is_between, a_is_between, F_is_between, b_is_between⟩ := t_is_between
  obtain ⟨f_require_number, d_require_number, a_require_number, F_require_number, b_require_number⟩ := t_require_number
  obtain ⟨f_is_rising, d_is_rising, a_is_rising, F_is_rising, b_is_rising⟩ := t_is_rising
  obtain ⟨f_is_heard_row, d_is_heard_row, a_is_heard_row, F_is_heard_row, b_is_heard_row⟩ := t_is_heard_row
  obtain ⟨f_is_heard, d_is_heard, a_is_heard, F_is_heard, b_is_heard⟩ := t_is_heard
  obtain ⟨f_houses_from, d_houses_from, a_houses_from, F_houses_from, b_houses_from⟩ := t_houses_from
  obtain ⟨f_heard_by, d_heard_by, a_heard_by, F_heard_by, b_heard_by⟩ := t_heard_by
  obtain ⟨f_require_house, d_require_house, a_require_house, F_require_house, b_require_house⟩ := t_require_house
  obtain ⟨f__law_cask, d__law_cask, a__law_cask, F__law_cask, b__law_cask⟩ := t__law_cask
  obtain ⟨f__law_scoop, d__law_scoop, a__law_scoop, F__law_scoop, b__law_scoop⟩ := t__law_scoop
  obtain ⟨f__law_any_of, d__law_any_of, a__law_any_of, F__law_any_of, b__law_any_of⟩ := t__law_any_of
  obtain ⟨f__law_few_of, d__law_few_of, a__law_few_of, F__law_few_of, b__law_few_of⟩ := t__law_few_of
  obtain ⟨f__law_rows, d__law_rows, a__law_rows, F__law_rows, b__law_rows⟩ := t__law_rows
  obtain ⟨f__law_is_whole, d__law_is_whole, a__law_is_whole, F__law_is_whole, b__law_is_whole⟩ := t__law_is_whole
  obtain ⟨f__law_is_row, d__law_is_row, a__law_is_row, F__law_is_row, b__law_is_row⟩ := t__law_is_row
  obtain ⟨f__law_are_rows, d__law_are_rows, a__law_are_rows, F__law_are_rows, b__law_are_rows⟩ := t__law_are_rows
  obtain ⟨f__law_made, d__law_made, a__law_made, F__law_made, b__law_made⟩ := t__law_made
  obtain ⟨f__law_from, d__law_from, a__law_from, F__law_from, b__law_from⟩ := t__law_from
  obtain ⟨f__law_roots, d__law_roots, a__law_roots, F__law_roots, b__law_roots⟩ := t__law_roots
  obtain ⟨f__law_web_told, d__law_web_told, a__law_web_told, F__law_web_told, b__law_web_told⟩ := t__law_web_told
  obtain ⟨f__law_value_right, d__law_value_right, a__law_value_right, F__law_value_right, b__law_value_right⟩ := t__law_value_right
  obtain ⟨f__law_bent, d__law_bent, a__law_bent, F__law_bent, b__law_bent⟩ := t__law_bent
  obtain ⟨f_law, d_law, a_law, F_law, b_law⟩ := t_law
  obtain ⟨f_WebU_initU, d_WebU_initU, a_WebU_initU, i_WebU_initU, F_WebU_initU, b_WebU_initU⟩ := m_WebU_initU
  obtain ⟨f_Web_hears, d_Web_hears, a_Web_hears, i_Web_hears, F_Web_hears, b_Web_hears⟩ := m_Web_hears
  obtain ⟨f_Web_reached, d_Web_reached, a_Web_reached, i_Web_reached, F_Web_reached, b_Web_reached⟩ := m_Web_reached
  obtain ⟨f_WebU_eqU, d_WebU_eqU, a_WebU_eqU, i_WebU_eqU, F_WebU_eqU, b_WebU_eqU⟩ := m_WebU_eqU
  obtain ⟨f_WebU_lenU, d_WebU_lenU, a_WebU_lenU, i_WebU_lenU, F_WebU_lenU, b_WebU_lenU⟩ := m_WebU_lenU
  obtain ⟨f_WebU_strU, d_WebU_strU, a_WebU_strU, i_WebU_strU, F_WebU_strU, b_WebU_strU⟩ := m_WebU_strU
  obtain ⟨f_WebU_containsU, d_WebU_containsU, a_WebU_containsU, i_WebU_containsU, F_WebU_containsU, b_WebU_containsU⟩ := m_WebU_containsU
  obtain ⟨q_Web_heard, f_Web_heard, d_Web_heard, a_Web_heard, s_Web_heard, t_Web_heard, r_Web_heard, F_Web_heard, b_Web_heard⟩ := p_Web_heard
  obtain ⟨q_Web_size, f_Web_size, d_Web_size, a_Web_size, s_Web_size, t_Web_size, r_Web_size, F_Web_size, b_Web_size⟩ := p_Web_size
  obtain ⟨q_Web_roots, f_Web_roots, d_Web_roots, a_Web_roots, s_Web_roots, t_Web_roots, r_Web_roots, F_Web_roots, b_Web_roots⟩ := p_Web_roots
  obtain ⟨q_Web_parts, f_Web_parts, d_Web_parts, a_Web_parts, s_Web_parts, t_Web_parts, r_Web_parts, F_Web_parts, b_Web_parts⟩ := p_Web_parts
  have e := hfa.symm.trans (PySem.W.mg_of X G a_law)
  cases e
  have sc_Web : SCls K C_Web := ⟨pg_Web, ic_Web, po_Web, sa_Web⟩
  have W_web : WebK K C_Web := ⟨sc_Web, ⟨ca_Web, cn, ct, cm_Web⟩, kit_self, ⟨sc_Web, sl_Web_own_heard⟩, ⟨sc_Web, sl_Web_own_size⟩, ⟨sc_Web, sl_Web_own_reached⟩, ⟨sc_Web, sl_Web_own_roots⟩, ⟨sc_Web, sl_Web_own_pairs⟩⟩
  have m_Web : mg "Web" = some (.ref C_Web) := PySem.W.mg_of X G a_Web
  have nf_web := nf_Web
  have B : Bf mg := ⟨PySem.W.mg_none_of X G z_len, PySem.W.mg_none_of X G z_range, PySem.W.mg_none_of X G z_list, PySem.W.mg_none_of X G z_tuple, PySem.W.mg_none_of X G z_set, PySem.W.mg_none_of X G z_sorted, PySem.W.mg_none_of X G z_all, PySem.W.mg_none_of X G z_isinstance, PySem.W.mg_none_of X G z_int, PySem.W.mg_none_of X G z_bool, PySem.W.mg_none_of X G z_enumerate, PySem.W.mg_none_of X G z_zip, PySem.W.mg_none_of X G z_min, PySem.W.mg_none_of X G z_max, PySem.W.mg_none_of X G z_abs, PySem.W.mg_none_of X G z_str, PySem.W.mg_none_of X G z_repr, PySem.W.mg_none_of X G z_dict⟩
  have Bs : mg "str" = none := PySem.W.mg_none_of X G z_str
  have g_MAX_SIZE : GInt mg "MAX_SIZE" (5) := ⟨_, PySem.W.mg_of X G gi_MAX_SIZE⟩
  have g_GREATEST : GInt mg "GREATEST" (10 ^ 60) := ⟨_, PySem.W.mg_of X G gi_GREATEST⟩
  have m_InvalidWeb : mg "InvalidWeb" = some (.ref C_InvalidWeb) := PySem.W.mg_of X G a_InvalidWeb
  have x_InvalidWeb : XCls K mg "InvalidWeb" C_InvalidWeb := Tw.xclsB_ok xb_InvalidWeb m_InvalidWeb
  have okW : WxW (YY K C_Web C_Web P w) := Tw.wxwB_ok wxb sc_Web ⟨ca_Web, cn, ct, cm_Web⟩
  have N_web := Tw.noDB_ok nodb
  refine ⟨d_law, ?_, fun base _ _ => ?_⟩
  · exact law_binds F_law
  have o_is_integer : Gf P w K mg base 1 "is_integer" _ := ok_is_integer B g_GREATEST F_is_integer (PySem.W.mg_of X G a_is_integer) b_is_integer
  have o_is_between : Gf P w K mg base 2 "is_between" _ := ok_is_between o_is_integer F_is_between (PySem.W.mg_of X G a_is_between) b_is_between
  have o_require_number : Gf P w K mg base 3 "require_number" _ := ok_require_number o_is_between F_require_number (PySem.W.mg_of X G a_require_number) b_require_number
  have o_is_rising : Gf P w K mg base 3 "is_rising" _ := ok_is_rising B o_is_between F_is_rising (PySem.W.mg_of X G a_is_rising) b_is_rising
  have o_is_heard_row : Gf P w K mg base 4 "is_heard_row" _ := ok_is_heard_row o_is_rising F_is_heard_row (PySem.W.mg_of X G a_is_heard_row) b_is_heard_row
  have o_is_heard : Gf P w K mg base 5 "is_heard" _ := ok_is_heard B g_MAX_SIZE o_is_heard_row F_is_heard (PySem.W.mg_of X G a_is_heard) b_is_heard
  have o_houses_from : Gf P w K mg base 1 "houses_from" _ := ok_houses_from B F_houses_from (PySem.W.mg_of X G a_houses_from) b_houses_from
  have c_Web : MkF P w K mg base 6 "Web" C_Web (spWebInit C_Web K) := ⟨f_WebU_initU, d_WebU_initU, _, ⟨mk_Web, a_WebU_initU, i_WebU_initU, kc_Web⟩, ok_web_init B W_web o_is_heard o_houses_from F_WebU_initU, m_Web, b_WebU_initU⟩
  have o_heard_by : Gf P w K mg base 1 "heard_by" _ := ok_heard_by B W_web F_heard_by (PySem.W.mg_of X G a_heard_by) b_heard_by
  have o_require_house : Gf P w K mg base 4 "require_house" _ := ok_require_house W_web o_require_number F_require_house (PySem.W.mg_of X G a_require_house) b_require_house
  have o_web_heard : PrpS P w K mg base 1 C_Web "heard" _ := ⟨q_Web_heard, f_Web_heard, sc_Web, a_Web_heard, s_Web_heard, t_Web_heard, r_Web_heard, fnr_mk (ok_heard W_web F_Web_heard) b_Web_heard⟩
  have c_web_heard : PrpS P w K mg base 1 C_Web "heard" (SpN (fun g : Rows => [(webP C_Web K) g]) (fun (g : Rows) (Q : Rows → Prop) => True ∧ Q g) (fD K (dT (dT dN)))) := prp_toN o_web_heard
  have o_web_size : PrpS P w K mg base 1 C_Web "size" _ := ⟨q_Web_size, f_Web_size, sc_Web, a_Web_size, s_Web_size, t_Web_size, r_Web_size, fnr_mk (ok_size W_web F_Web_size) b_Web_size⟩
  have c_web_size : PrpS P w K mg base 1 C_Web "size" (SpN (fun g : Rows => [(webP C_Web K) g]) (fun (g : Rows) (Q : Nat → Prop) => True ∧ Q g.length) (fD K dN)) := prp_toN o_web_size
  have o_web_roots : PrpS P w K mg base 1 C_Web "roots" _ := ⟨q_Web_roots, f_Web_roots, sc_Web, a_Web_roots, s_Web_roots, t_Web_roots, r_Web_roots, fnr_mk (ok_roots W_web F_Web_roots) b_Web_roots⟩
  have c_web_roots : PrpS P w K mg base 1 C_Web "roots" (SpN (fun g : Rows => [(webP C_Web K) g]) (fun (g : Rows) (Q : List Nat → Prop) => True ∧ Q (rootsN g)) (fD K (dT dN))) := prp_toN o_web_roots
  have o_web_parts : PrpS P w K mg base 1 C_Web "parts" _ := ⟨q_Web_parts, f_Web_parts, sc_Web, a_Web_parts, s_Web_parts, t_Web_parts, r_Web_parts, fnr_mk (ok_parts B W_web F_Web_parts) b_Web_parts⟩
  have c_web_parts : PrpS P w K mg base 1 C_Web "parts" (SpN (fun g : Rows => [(webP C_Web K) g]) (fun (g : Rows) (Q : List (List Nat) → Prop) => Q (partsN g)) (fD K (dT (dT dN)))) := parts_toN o_web_parts
  have o_web_hears : MetS P w K mg base 5 C_Web "hears" _ := ⟨f_Web_hears, sc_Web, ⟨a_Web_hears, i_Web_hears, F_Web_hears.kp⟩, fnr_mk (ok_hears o_require_house o_heard_by F_Web_hears) b_Web_hears⟩
  have c_web_hears : MetS P w K mg base 5 C_Web "hears" (SpN (fun g : Rows × Nat => [(webP C_Web K) g.1, (fD K dN) g.2]) (fun (g : Rows × Nat) (Q : List Nat → Prop) => g.2 < g.1.length ∧ Q (hbL g.1 g.2)) (fD K (dT dN))) := MetS.toN o_web_hears
  have o_web_reached : MetS P w K mg base 5 C_Web "reached" _ := ⟨f_Web_reached, sc_Web, ⟨a_Web_reached, i_Web_reached, F_Web_reached.kp⟩, fnr_mk (ok_reached W_web o_require_house F_Web_reached) b_Web_reached⟩
  have c_web_reached : MetS P w K mg base 5 C_Web "reached" (SpN (fun g : Rows × Nat => [(webP C_Web K) g.1, (fD K dN) g.2]) (fun (g : Rows × Nat) (Q : List Nat → Prop) => g.2 < g.1.length ∧ Q (reachL g.1 g.2)) (fD K (dT dN))) := MetS.toN o_web_reached
  have o_web_eq : EqS P w K mg base 1 C_Web _ := ⟨f_WebU_eqU, ne_Web, cm_Web, a_WebU_eqU, i_WebU_eqU, fnr_mk (ok_eq B W_web m_Web F_WebU_eqU) b_WebU_eqU⟩
  have c_web_eq : EqS P w K mg base 1 C_Web (SpN (fun g : Rows × Rows => [(webP C_Web K) g.1, (webP C_Web K) g.2]) (fun (g : Rows × Rows) (Q : Bool → Prop) => True ∧ Q (decide (g.1 = g.2))) (fD K dB)) := eq_toN o_web_eq
  have o_web_len : OwnS P w K mg base "__len__" 1 C_Web _ := ⟨f_WebU_lenU, a_WebU_lenU, i_WebU_lenU, fnr_mk (ok_len B W_web F_WebU_lenU) b_WebU_lenU⟩
  have c_web_len : OwnS P w K mg base "__len__" 1 C_Web (SpN (fun g : Rows => [(webP C_Web K) g]) (fun (g : Rows) (Q : Nat → Prop) => True ∧ Q (pairsN g).length) (fD K dN)) := own_toN o_web_len
  have o_law_cask : Gf P w K mg base 1 "_law_cask" _ := ok_cask B F__law_cask (PySem.W.mg_of X G a__law_cask) b__law_cask
  have c_law_cask : Gf P w K mg base 1 "_law_cask" (SpN (fun g : (List Int) × Nat => [(fD K (dL dInt)) g.1, (fD K dN) g.2]) (fun (g : List Int × Nat) (Q : Unit → Prop) => g.1.length ≤ 63 ∧ Q ()) (fCk 3)) := Gf.toN o_law_cask
  have o_law_scoop : Gf P w K mg base 1 "_law_scoop" _ := ok_scoop B F__law_scoop (PySem.W.mg_of X G a__law_scoop) b__law_scoop
  have c_law_scoop : Gf P w K mg base 1 "_law_scoop" (SpN (fun g : Unit × Nat => [(fCk 3) g.1, (fD K dN) g.2]) (fun (g : Unit × Nat) (Q : Nat → Prop) => (1 ≤ g.2 ∧ g.2 ≤ 1000) ∧ ∀ n, n < g.2 → Q n) (fD K dN)) := scoop_toN o_law_scoop
  have c_is_integer_1 : Gf P w K mg base 1 "is_integer" (SpN (fun g : Wv => [(fW (YY K C_Web C_Web P w)) g]) (fun (g : Wv) (Q : Bool → Prop) => g.isPool = false ∧ Q (intW g)) (fD K dB)) := ok_is_integer_v1 B g_GREATEST okW F_is_integer (PySem.W.mg_of X G a_is_integer) b_is_integer
  have c_is_between_1 : Gf P w K mg base 2 "is_between" (SpN (fun g : Wv × Int × Int => [(fW (YY K C_Web C_Web P w)) g.1, (fD K dInt) g.2.1, (fD K dInt) g.2.2]) (fun (g : Wv × Int × Int) (Q : Bool → Prop) => g.1.isPool = false ∧ Q (btW g.1 g.2.1 g.2.2)) (fD K dB)) := ok_is_between_v1 B c_is_integer_1 F_is_between (PySem.W.mg_of X G a_is_between) b_is_between
  have c_is_rising_1 : Gf P w K mg base 3 "is_rising" (SpN (fun g : Wv × Int × Int => [(fW (YY K C_Web C_Web P w)) g.1, (fD K dInt) g.2.1, (fD K dInt) g.2.2]) (fun (g : Wv × Int × Int) (Q : Bool → Prop) => (wf1 g.1 ∧ 0 ≤ g.2.1) ∧ Q (risW g.1 g.2.1 g.2.2)) (fD K dB)) := ok_is_rising_v1 B c_is_between_1 okW F_is_rising (PySem.W.mg_of X G a_is_rising) b_is_rising
  have c_is_heard_row_1 : Gf P w K mg base 4 "is_heard_row" (SpN (fun g : Wv × Nat × Nat => [(fW (YY K C_Web C_Web P w)) g.1, (fD K dN) g.2.1, (fD K dN) g.2.2]) (fun (g : Wv × Nat × Nat) (Q : Bool → Prop) => wf1 g.1 ∧ Q (hrowW g.1 g.2.1 g.2.2)) (fD K dB)) := ok_is_heard_row_v1 B c_is_rising_1 F_is_heard_row (PySem.W.mg_of X G a_is_heard_row) b_is_heard_row
  have c_is_heard_1 : Gf P w K mg base 5 "is_heard" (SpN (fun g : Wv => [(fW (YY K C_Web C_Web P w)) g]) (fun (g : Wv) (Q : Bool → Prop) => wfW g ∧ Q (heardW g)) (fD K dB)) := ok_is_heard_v1 B g_MAX_SIZE okW c_is_heard_row_1 F_is_heard (PySem.W.mg_of X G a_is_heard) b_is_heard
  have c_web_str : OwnS P w K mg base "__str__" 1 C_Web (SpN (fun g : Rows => [(webP C_Web K) g]) (fun (g : Rows) (Q : PySem.Str → Prop) => Ok g ∧ Q (textR g)) (fD K dS)) := ⟨f_WebU_strU, a_WebU_strU, i_WebU_strU, fnr_mk (ok_Webu__stru_ B W_web F_WebU_strU) b_WebU_strU⟩
  have c_web_in : OwnS P w K mg base "__contains__" 6 C_Web (SpN (fun g : Rows × Wv => [(webP C_Web K) g.1, (fW (YY K C_Web C_Web P w)) g.2]) (fun (g : Rows × Wv) (Q : Bool → Prop) => (Ok g.1 ∧ wf1 g.2) ∧ Q (inWeb g.1 g.2)) (fD K dB)) := ⟨f_WebU_containsU, a_WebU_containsU, i_WebU_containsU, fnr_mk (ok_Webu__containsu_ B W_web c_is_between_1 okW c_is_integer_1 F_WebU_containsU) b_WebU_containsU⟩
  have c_web_eqW : EqS P w K mg base 3 C_Web (SpN (fun g : Rows × Wv => [(webP C_Web K) g.1, (fW (YY K C_Web C_Web P w)) g.2]) (fun (g : Rows × Wv) (Q : Bool → Prop) => (g.2.isWeb = false ∧ g.2.isPool = false) ∧ Q false) (fD K dB)) := ⟨f_WebU_eqU, ne_Web, cm_Web, a_WebU_eqU, i_WebU_eqU, fnr_mk (ok_Webu__equ__W B m_Web okW F_WebU_eqU) b_WebU_eqU⟩
  have c_WebX : MkFX P w K mg base 6 "Web" C_Web (SpMY (YY K C_Web C_Web P w) C_Web (fun _ : Unit => []) (fun _ : Unit => []) (fun g : Wv => [(fW (YY K C_Web C_Web P w)) g]) (fun (_ : Unit) (g : Wv) (_ : Unit × Unit → Prop) (PX : Ex → Prop) => (wfW g ∧ heardW g = false) ∧ PX ⟨C_InvalidWeb, none⟩) (fD K dU)) := ⟨⟨f_WebU_initU, d_WebU_initU, _, ⟨mk_Web, a_WebU_initU, i_WebU_initU, kc_Web⟩, ok_Webu__initu__x B c_is_heard_1 x_InvalidWeb F_WebU_initU, m_Web, b_WebU_initU⟩⟩
  have c_law_any_of : Gf P w K mg base 2 "_law_any_of" (SpN (fun g : Unit × (List Nat) => [(fCk 3) g.1, (fLn (fD K dN)) g.2]) spAny (fD K dN)) := ok__law_any_of B c_law_scoop F__law_any_of (PySem.W.mg_of X G a__law_any_of) b__law_any_of
  have c_law_any_of_1 : Gf P w K mg base 2 "_law_any_of" (SpN (fun g : Unit × (List Wv) => [(fCk 3) g.1, (fLn (fW (YY K C_Web C_Web P w))) g.2]) spAny (fW (YY K C_Web C_Web P w))) := ok__law_any_of B c_law_scoop F__law_any_of (PySem.W.mg_of X G a__law_any_of) b__law_any_of
  have c_law_few_of : Gf P w K mg base 2 "_law_few_of" (SpN (fun g : Unit × (List Nat) × Nat => [(fCk 3) g.1, (fLn (fD K dN)) g.2.1, (fD K dN) g.2.2]) spFew (fLn (fD K dN))) := ok__law_few_of B c_law_scoop F__law_few_of (PySem.W.mg_of X G a__law_few_of) b__law_few_of
  have c_law_rows : Gf P w K mg base 3 "_law_rows" (SpN (fun g : Unit × Nat => [(fCk 3) g.1, (fD K dN) g.2]) (fun (g : Unit × Nat) (Q : Rows → Prop) => (1 ≤ g.2 ∧ g.2 ≤ 5) ∧ ∀ rs : Rows, Ok rs → rs.length = g.2 → Q rs) (fD K (dT (dT dN)))) := ok__law_rows B c_law_scoop c_law_any_of c_law_few_of F__law_rows (PySem.W.mg_of X G a__law_rows) b__law_rows
  have c_law_is_whole : Gf P w K mg base 1 "_law_is_whole" (SpN (fun g : Wv => [(fW (YY K C_Web C_Web P w)) g]) (fun (g : Wv) (Q : Bool → Prop) => g.isPool = false ∧ Q (intW g)) (fD K dB)) := ok__law_is_whole B okW F__law_is_whole (PySem.W.mg_of X G a__law_is_whole) b__law_is_whole
  have c_law_is_row : Gf P w K mg base 2 "_law_is_row" (SpN (fun g : Wv × Nat × Nat => [(fW (YY K C_Web C_Web P w)) g.1, (fD K dN) g.2.1, (fD K dN) g.2.2]) (fun (g : Wv × Nat × Nat) (Q : Bool → Prop) => (wf1 g.1 ∧ g.2.2 ≤ 5) ∧ Q (hrowW g.1 g.2.1 g.2.2)) (fD K dB)) := ok__law_is_row B c_law_is_whole okW F__law_is_row (PySem.W.mg_of X G a__law_is_row) b__law_is_row
  have c_law_are_rows : Gf P w K mg base 3 "_law_are_rows" (SpN (fun g : Wv => [(fW (YY K C_Web C_Web P w)) g]) (fun (g : Wv) (Q : Bool → Prop) => wfW g ∧ Q (heardW g)) (fD K dB)) := ok__law_are_rows B okW c_law_is_row F__law_are_rows (PySem.W.mg_of X G a__law_are_rows) b__law_are_rows
  have c_law_made : Gf P w K mg base 12 "_law_made" (SpN (fun g : Wv => [(fW (YY K C_Web C_Web P w)) g]) (fun (g : Wv) (Q : Option Rows → Prop) => ((wfW g ∧ heardW g = false) ∧ Q none) ∨ ∃ rs : Rows, g = .dat (dT (dT dN) rs) ∧ Ok rs ∧ Q (some rs)) (fOpt (webP C_Web K))) := ok__law_made B x_InvalidWeb c_Web c_WebX F__law_made (PySem.W.mg_of X G a__law_made) b__law_made
  have c_law_from : Gf P w K mg base 1 "_law_from" (SpN (fun g : (List (List Nat)) × Nat => [(fD K (dT (dT dN))) g.1, (fD K dN) g.2]) (fun (g : Rows × Nat) (Q : List Nat → Prop) => (Ok g.1 ∧ g.2 < g.1.length) ∧ Q (reachL g.1 g.2)) (fD K (dT dN))) := ok__law_from B F__law_from (PySem.W.mg_of X G a__law_from) b__law_from
  have c_law_roots : Gf P w K mg base 2 "_law_roots" (SpN (fun g : (List (List Nat)) => [(fD K (dT (dT dN))) g]) (fun (g : Rows) (Q : List Nat → Prop) => Ok g ∧ Q (rootsN g)) (fD K (dT dN))) := ok__law_roots B c_law_from F__law_roots (PySem.W.mg_of X G a__law_roots) b__law_roots
  have c_law_web_told : Gf P w K mg base 12 "_law_web_told" (SpN (fun g : Rows × (List (List Nat)) => [(webP C_Web K) g.1, (fD K (dT (dT dN))) g.2]) (fun (g : Rows × Rows) (Q : Bool → Prop) => (Ok g.1 ∧ g.2 = g.1) ∧ Q true) (fD K dB)) := ok__law_web_told B c_web_len c_web_roots c_law_roots c_web_size c_web_heard Bs c_web_str c_web_hears c_web_reached c_law_from c_web_parts c_web_in F__law_web_told (PySem.W.mg_of X G a__law_web_told) b__law_web_told
  have c_law_value_right : GfG P w K mg base 13 "_law_value_right" (SpN (fun g : Wv => [(fW (YY K C_Web C_Web P w)) g]) (fun (g : Wv) (Q : Bool → Prop) => goodW g ∧ Q true) (fD K dB)) := ok__law_value_right B c_law_are_rows c_law_made c_law_web_told c_Web nf_web c_web_eq N_web c_web_eqW c_web_in c_web_heard F__law_value_right (PySem.W.mg_of X G a__law_value_right) b__law_value_right
  have c_law_bent : Gf P w K mg base 12 "_law_bent" (SpN (fun g : Unit × (List (List Nat)) => [(fCk 3) g.1, (fD K (dT (dT dN))) g.2]) (fun (g : Unit × Rows) (Q : Wv → Prop) => Ok g.2 ∧ ∀ w, goodW w → Q w) (fW (YY K C_Web C_Web P w))) := ok__law_bent B c_law_scoop c_law_any_of_1 F__law_bent (PySem.W.mg_of X G a__law_bent) b__law_bent
  exact law_fnG (ok_law B c_law_cask c_law_rows c_law_scoop c_law_value_right c_law_bent c_law_are_rows c_law_made F_law)
end Wb

open PySem PySem.W PyProof.Rows
set_option maxRecDepth 100000 in
set_option maxHeartbeats 0 in
theorem PySem.Challenge.cw_rootshared_k00_webs_judged_and_told_holds : PySem.Challenge.rw_rootshared_k00_webs_judged_and_told.Holds := by
  refine hd_top ?_
  k_fill
  letI TZ : Rs.Tabz := Tw.Tz0
  refine Tw.walkG (l := PySem.Challenge.rw_rootshared_k00_webs_judged_and_told) (k := 15) ⟨rfl, by decide, by decide⟩ rfl rfl (fun _ z => z) (fun w h Y => PySem.W.kIn_of Y) ?F
  case F =>
    intro w mg fa h KX G hmg
    refine' Wb.all_mk (TZ := Tw.Tz0) KX G hmg ?t_is_integer ?t_is_between ?t_require_number ?t_is_rising ?t_is_heard_row ?t_is_heard ?t_houses_from ?t_heard_by ?t_require_house ?t__law_cask ?t__law_scoop ?t__law_any_of ?t__law_few_of ?t__law_rows ?t__law_is_whole ?t__law_is_row ?t__law_are_rows ?t__law_made ?t__law_from ?t__law_roots ?t__law_web_told ?t__law_value_right ?t__law_bent ?t_law ?m_WebU_initU ?m_Web_hears ?m_Web_reached ?m_WebU_eqU ?m_WebU_lenU ?m_WebU_strU ?m_WebU_containsU ?p_Web_heard ?p_Web_size ?p_Web_roots ?p_Web_parts ?sl_Web_own_heard ?sl_Web_own_size ?sl_Web_own_reached ?sl_Web_own_roots ?sl_Web_own_pairs ?z_len ?z_range ?z_list ?z_tuple ?z_set ?z_sorted ?z_all ?z_isinstance ?z_int ?z_bool ?z_enumerate ?z_zip ?z_min ?z_max ?z_abs ?z_str ?z_repr ?z_dict ?gi_MAX_SIZE ?gi_GREATEST ?a_Web ?a_InvalidWeb ?xb_InvalidWeb ?nodb ?wxb ?pg_Web ?ic_Web ?po_Web ?sa_Web ?ca_Web ?cm_Web ?nf_Web ?ne_Web ?mk_Web ?kc_Web ?cn ?ct
    (case a_Web => k_is)
    (case a_InvalidWeb => k_is)
    (case t_is_integer => (refine' Tw.top_fn ?a ?l ?c ?k ?b; (case a => k_is); (case l => k_is); (case c => k_is); (case k => k_is); (case b => exact fun _ _ _ _ _ _ us hl => match us, hl with | [_], _ => rfl)))
    (case t_is_between => (refine' Tw.top_fn ?a ?l ?c ?k ?b; (case a => k_is); (case l => k_is); (case c => k_is); (case k => k_is); (case b => exact fun _ _ _ _ _ _ us hl => match us, hl with | [_, _, _], _ => rfl)))
    (case t_require_number => (refine' Tw.top_fn ?a ?l ?c ?k ?b; (case a => k_is); (case l => k_is); (case c => k_is); (case k => k_is); (case b => exact fun _ _ _ _ _ _ us hl => match us, hl with | [_, _, _], _ => rfl)))
    (case t_is_rising => (refine' Tw.top_fn ?a ?l ?c ?k ?b; (case a => k_is); (case l => k_is); (case c => k_is); (case k => k_is); (case b => exact fun _ _ _ _ _ _ us hl => match us, hl with | [_, _, _], _ => rfl)))
    (case t_is_heard_row => (refine' Tw.top_fn ?a ?l ?c ?k ?b; (case a => k_is); (case l => k_is); (case c => k_is); (case k => k_is); (case b => exact fun _ _ _ _ _ _ us hl => match us, hl with | [_, _, _], _ => rfl)))
    (case t_is_heard => (refine' Tw.top_fn ?a ?l ?c ?k ?b; (case a => k_is); (case l => k_is); (case c => k_is); (case k => k_is); (case b => exact fun _ _ _ _ _ _ us hl => match us, hl with | [_], _ => rfl)))
    (case t_houses_from => (refine' Tw.top_fn ?a ?l ?c ?k ?b; (case a => k_is); (case l => k_is); (case c => k_is); (case k => k_is); (case b => exact fun _ _ _ _ _ _ us hl => match us, hl with | [_, _], _ => rfl)))
    (case t_heard_by => (refine' Tw.top_fn ?a ?l ?c ?k ?b; (case a => k_is); (case l => k_is); (case c => k_is); (case k => k_is); (case b => exact fun _ _ _ _ _ _ us hl => match us, hl with | [_, _], _ => rfl)))
    (case t_require_house => (refine' Tw.top_fn ?a ?l ?c ?k ?b; (case a => k_is); (case l => k_is); (case c => k_is); (case k => k_is); (case b => exact fun _ _ _ _ _ _ us hl => match us, hl with | [_, _], _ => rfl)))
    (case t__law_cask => (refine' Tw.top_fn ?a ?l ?c ?k ?b; (case a => k_is); (case l => k_is); (case c => k_is); (case k => k_is); (case b => exact fun _ _ _ _ _ _ us hl => match us, hl with | [_, _], _ => rfl)))
    (case t__law_scoop => (refine' Tw.top_fn ?a ?l ?c ?k ?b; (case a => k_is); (case l => k_is); (case c => k_is); (case k => k_is); (case b => exact fun _ _ _ _ _ _ us hl => match us, hl with | [_, _], _ => rfl)))
    (case t__law_any_of => (refine' Tw.top_fn ?a ?l ?c ?k ?b; (case a => k_is); (case l => k_is); (case c => k_is); (case k => k_is); (case b => exact fun _ _ _ _ _ _ us hl => match us, hl with | [_, _], _ => rfl)))
    (case t__law_few_of => (refine' Tw.top_fn ?a ?l ?c ?k ?b; (case a => k_is); (case l => k_is); (case c => k_is); (case k => k_is); (case b => exact fun _ _ _ _ _ _ us hl => match us, hl with | [_, _, _], _ => rfl)))
    (case t__law_rows => (refine' Tw.top_fn ?a ?l ?c ?k ?b; (case a => k_is); (case l => k_is); (case c => k_is); (case k => k_is); (case b => exact fun _ _ _ _ _ _ us hl => match us, hl with | [_, _], _ => rfl)))
    (case t__law_is_whole => (refine' Tw.top_fn ?a ?l ?c ?k ?b; (case a => k_is); (case l => k_is); (case c => k_is); (case k => k_is); (case b => exact fun _ _ _ _ _ _ us hl => match us, hl with | [_], _ => rfl)))
    (case t__law_is_row => (refine' Tw.top_fn ?a ?l ?c ?k ?b; (case a => k_is); (case l => k_is); (case c => k_is); (case k => k_is); (case b => exact fun _ _ _ _ _ _ us hl => match us, hl with | [_, _, _], _ => rfl)))
    (case t__law_are_rows => (refine' Tw.top_fn ?a ?l ?c ?k ?b; (case a => k_is); (case l => k_is); (case c => k_is); (case k => k_is); (case b => exact fun _ _ _ _ _ _ us hl => match us, hl with | [_], _ => rfl)))
    (case t__law_made => (refine' Tw.top_fn ?a ?l ?c ?k ?b; (case a => k_is); (case l => k_is); (case c => k_is); (case k => k_is); (case b => exact fun _ _ _ _ _ _ us hl => match us, hl with | [_], _ => rfl)))
    (case t__law_from => (refine' Tw.top_fn ?a ?l ?c ?k ?b; (case a => k_is); (case l => k_is); (case c => k_is); (case k => k_is); (case b => exact fun _ _ _ _ _ _ us hl => match us, hl with | [_, _], _ => rfl)))
    (case t__law_roots => (refine' Tw.top_fn ?a ?l ?c ?k ?b; (case a => k_is); (case l => k_is); (case c => k_is); (case k => k_is); (case b => exact fun _ _ _ _ _ _ us hl => match us, hl with | [_], _ => rfl)))
    (case t__law_web_told => (refine' Tw.top_fn ?a ?l ?c ?k ?b; (case a => k_is); (case l => k_is); (case c => k_is); (case k => k_is); (case b => exact fun _ _ _ _ _ _ us hl => match us, hl with | [_, _], _ => rfl)))
    (case t__law_value_right => (refine' Tw.top_fn ?a ?l ?c ?k ?b; (case a => k_is); (case l => k_is); (case c => k_is); (case k => k_is); (case b => exact fun _ _ _ _ _ _ us hl => match us, hl with | [_], _ => rfl)))
    (case t__law_bent => (refine' Tw.top_fn ?a ?l ?c ?k ?b; (case a => k_is); (case l => k_is); (case c => k_is); (case k => k_is); (case b => exact fun _ _ _ _ _ _ us hl => match us, hl with | [_, _], _ => rfl)))
    (case t_law => (refine' Tw.top_fn ?a ?l ?c ?k ?b; (case a => k_is); (case l => k_is); (case c => k_is); (case k => k_is); (case b => exact fun _ _ _ _ _ _ us hl => match us, hl with | [_], _ => rfl)))
    (case m_WebU_initU => (refine' Tw.met_fn ?a ?i ?l ?c ?k ?b; (case a => k_is); (case i => k_is); (case l => k_is); (case c => k_is); (case k => k_is); (case b => exact fun _ _ _ _ _ _ us hl => match us, hl with | [_, _], _ => rfl)))
    (case m_Web_hears => (refine' Tw.met_fn ?a ?i ?l ?c ?k ?b; (case a => k_is); (case i => k_is); (case l => k_is); (case c => k_is); (case k => k_is); (case b => exact fun _ _ _ _ _ _ us hl => match us, hl with | [_, _], _ => rfl)))
    (case m_Web_reached => (refine' Tw.met_fn ?a ?i ?l ?c ?k ?b; (case a => k_is); (case i => k_is); (case l => k_is); (case c => k_is); (case k => k_is); (case b => exact fun _ _ _ _ _ _ us hl => match us, hl with | [_, _], _ => rfl)))
    (case m_WebU_eqU => (refine' Tw.met_fn ?a ?i ?l ?c ?k ?b; (case a => k_is); (case i => k_is); (case l => k_is); (case c => k_is); (case k => k_is); (case b => exact fun _ _ _ _ _ _ us hl => match us, hl with | [_, _], _ => rfl)))
    (case m_WebU_lenU => (refine' Tw.met_fn ?a ?i ?l ?c ?k ?b; (case a => k_is); (case i => k_is); (case l => k_is); (case c => k_is); (case k => k_is); (case b => exact fun _ _ _ _ _ _ us hl => match us, hl with | [_], _ => rfl)))
    (case m_WebU_strU => (refine' Tw.met_fn ?a ?i ?l ?c ?k ?b; (case a => k_is); (case i => k_is); (case l => k_is); (case c => k_is); (case k => k_is); (case b => exact fun _ _ _ _ _ _ us hl => match us, hl with | [_], _ => rfl)))
    (case m_WebU_containsU => (refine' Tw.met_fn ?a ?i ?l ?c ?k ?b; (case a => k_is); (case i => k_is); (case l => k_is); (case c => k_is); (case k => k_is); (case b => exact fun _ _ _ _ _ _ us hl => match us, hl with | [_, _], _ => rfl)))
    (case p_Web_heard => (refine' Tw.prp_fn ?a ?s ?t ?r ?l ?c ?k ?b; (case a => k_is); (case s => k_is); (case t => k_is); (case r => k_is); (case l => k_is); (case c => k_is); (case k => k_is); (case b => exact fun _ _ _ _ _ _ us hl => match us, hl with | [_], _ => rfl)))
    (case p_Web_size => (refine' Tw.prp_fn ?a ?s ?t ?r ?l ?c ?k ?b; (case a => k_is); (case s => k_is); (case t => k_is); (case r => k_is); (case l => k_is); (case c => k_is); (case k => k_is); (case b => exact fun _ _ _ _ _ _ us hl => match us, hl with | [_], _ => rfl)))
    (case p_Web_roots => (refine' Tw.prp_fn ?a ?s ?t ?r ?l ?c ?k ?b; (case a => k_is); (case s => k_is); (case t => k_is); (case r => k_is); (case l => k_is); (case c => k_is); (case k => k_is); (case b => exact fun _ _ _ _ _ _ us hl => match us, hl with | [_], _ => rfl)))
    (case p_Web_parts => (refine' Tw.prp_fn ?a ?s ?t ?r ?l ?c ?k ?b; (case a => k_is); (case s => k_is); (case t => k_is); (case r => k_is); (case l => k_is); (case c => k_is); (case k => k_is); (case b => exact fun _ _ _ _ _ _ us hl => match us, hl with | [_], _ => rfl)))
    (case sl_Web_own_heard => (refine' Tw.slot_at ?a ?s ?t ?y ?j ?h; (case a => k_is); (case s => k_is); (case t => k_is); (case y => k_is); (case j => k_is); (case h => decide)))
    (case sl_Web_own_size => (refine' Tw.slot_at ?a ?s ?t ?y ?j ?h; (case a => k_is); (case s => k_is); (case t => k_is); (case y => k_is); (case j => k_is); (case h => decide)))
    (case sl_Web_own_reached => (refine' Tw.slot_at ?a ?s ?t ?y ?j ?h; (case a => k_is); (case s => k_is); (case t => k_is); (case y => k_is); (case j => k_is); (case h => decide)))
    (case sl_Web_own_roots => (refine' Tw.slot_at ?a ?s ?t ?y ?j ?h; (case a => k_is); (case s => k_is); (case t => k_is); (case y => k_is); (case j => k_is); (case h => decide)))
    (case sl_Web_own_pairs => (refine' Tw.slot_at ?a ?s ?t ?y ?j ?h; (case a => k_is); (case s => k_is); (case t => k_is); (case y => k_is); (case j => k_is); (case h => decide)))
    (case z_len => k_is)
    (case z_range => k_is)
    (case z_list => k_is)
    (case z_tuple => k_is)
    (case z_set => k_is)
    (case z_sorted => k_is)
    (case z_all => k_is)
    (case z_isinstance => k_is)
    (case z_int => k_is)
    (case z_bool => k_is)
    (case z_enumerate => k_is)
    (case z_zip => k_is)
    (case z_min => k_is)
    (case z_max => k_is)
    (case z_abs => k_is)
    (case z_str => k_is)
    (case z_repr => k_is)
    (case z_dict => k_is)
    (case gi_MAX_SIZE => k_is)
    (case gi_GREATEST => k_is)
    (case xb_InvalidWeb => kernel_rfl)
    (case nodb => kernel_rfl)
    (case wxb => kernel_rfl)
    (case pg_Web => k_is)
    (case ic_Web => k_is)
    (case po_Web => k_is)
    (case sa_Web => k_is)
    (case ca_Web => k_is)
    (case cm_Web => k_is)
    (case nf_Web => k_is)
    (case ne_Web => k_is)
    (case mk_Web => k_is)
    (case kc_Web => k_is)
    (case cn => k_is)
    (case ct => k_is)

