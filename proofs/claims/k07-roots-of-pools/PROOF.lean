import PyProof.Rows.All
import Wide.All
import OpenK.AllK
import Wide.FinOn
import PyProof.EqAt
import PyProof.EqKinds
import PyProof.TupleCall
import HandS.Base
import HandS.Call
import HandS.List
import HandS.Comp
import HandS.Dict
import HandS.Iter
import HandS.Walk
import HandS.Words
import HandS.Ends
import PyProof.Draws
import KE.GoesMore
import HandS.More
import HandS.Set
import HandS.Strs
import HandS.SetFor
import HandS.IsInst
import HandS.Slots
import HandS.SlotsOwn
import HandS.Star
import HandS.Conv
import HandS.Deep
import HandS.TupAny
import HandS.TupMul
import HandS.WordsDict
import HandS.WordsList
import HandS.Wide
import HandS.FStr
import HandS.Style
import PyProof.Lay0
import PyProof.EqLayable
import HandS.DictTup
import KE.SortData
import HandS.Text
import OpenK.KOps
import OpenK.KMeth
import KE.KCallOwn
import HandS.Zip
import HandS.SortKw
import KE.KDictZip
import PyProof.TupleOfSeq
import HandS.TupSets
import KE.KeyNested
import PyProof.DictRoadsH
import KE.KDictKeyed
import HandS.DictComp
import HandS.IterVal
import KE.KOwnIter
import PySem.Challenge.RW_rootshared_k07_whole_roots_of_pools
set_option Elab.async false
set_option linter.all false
set_option maxRecDepth 100000
set_option maxHeartbeats 4000000
/-! Rs0: runs of readings over a part that stays (F) and cells that are one's own (L). -/
namespace Rs
open PySem L2

abbrev Cells := List (Addr × HO)
/-- F stands in H, and the cells L do, apart from F -/
structure At (F : Hp) (L : Cells) (H : Hp) : Prop where
  ex : Same F H
  on : ∀ p ∈ L, H p.1 = some p.2
  off : ∀ p ∈ L, F p.1 = none
  nd : (L.map (·.1)).Nodup
  nt : ∀ p ∈ L, ∀ xs, p.2 ≠ .tup xs

section
variable {F F' F1 H H' : Hp} {L L' N : Cells} {a p : Addr} {o u : HO}
theorem At.nil (h : Same F H) : At F [] H := ⟨h, fun _ q => (nomatch q), fun _ q => (nomatch q), List.nodup_nil, fun _ q => (nomatch q)⟩
theorem At.self : At H [] H := At.nil (Same.refl H)
theorem At.free (A : At F L H) (h : H a = none) : F a = none := A.ex.free h
theorem At.sub (A : At F L H) (hs : ∀ p ∈ L', p ∈ L) (nd : (L'.map (·.1)).Nodup) : At F L' H :=
  ⟨A.ex, fun p q => A.on p (hs p q), fun p q => A.off p (hs p q), nd, fun p q => A.nt p (hs p q)⟩
theorem At.tail {m : Addr × HO} (A : At F (m :: L) H) : At F L H :=
  A.sub (fun p q => List.mem_cons_of_mem _ q) (List.nodup_cons.mp (by have := A.nd; rwa [List.map_cons] at this)).2
theorem At.drop (A : At F (L ++ N) H) : At F N H :=
  A.sub (fun p q => List.mem_append_right _ q) (by have h := A.nd; rw [List.map_append] at h; exact (List.nodup_append.mp h).2.1)
theorem At.left (A : At F (L ++ N) H) : At F L H :=
  A.sub (fun p q => List.mem_append_left _ q) (by have h := A.nd; rw [List.map_append] at h; exact (List.nodup_append.mp h).1)
theorem At.low (A : At F L H) (e : Same F1 F) : At F1 L H :=
  ⟨e.trans A.ex, A.on, fun p q => e.free (A.off p q), A.nd, A.nt⟩
theorem At.perm (A : At F L H) (h : L.Perm L') : At F L' H :=
  ⟨A.ex, fun p q => A.on p (h.mem_iff.mpr q), fun p q => A.off p (h.mem_iff.mpr q), (h.map (·.1)).nodup_iff.mp A.nd, fun p q => A.nt p (h.mem_iff.mpr q)⟩
theorem same_new (h : F a = none) : Same F (upd F a o) := fun b u e => by
  rw [upd_ne (ne_of_none e h)]; exact e
/-- a new thing that stays -/
theorem At.new (A : At F L H) (h : H a = none) : At (upd F a o) L (upd H a o) := by
  have ne : ∀ p ∈ L, p.1 ≠ a := fun p q z => by
    have := A.on p q
    rw [z, h] at this; cases this
  refine ⟨fun b u e => ?_, fun p q => by rw [upd_ne (ne p q)]; exact A.on p q, fun p q => by rw [upd_ne (ne p q)]; exact A.off p q, A.nd, A.nt⟩
  by_cases hb : b = a
  · subst hb; rw [upd_same] at e ⊢; exact e
  · rw [upd_ne hb] at e ⊢; exact A.ex b u e
/-- a new cell -/
theorem At.cell (A : At F L H) (h : H a = none) (ho : ∀ xs, o ≠ .tup xs := by intro _ z; nomatch z) : At F ((a, o) :: L) (upd H a o) := by
  have ne : ∀ p ∈ L, p.1 ≠ a := fun p q z => by
    have := A.on p q
    rw [z, h] at this; cases this
  refine ⟨fun b u e => ?_, fun p q => ?_, fun p q => ?_, ?_, fun p q => (List.mem_cons.mp q).elim (fun z => z ▸ ho) (A.nt p)⟩
  · rw [upd_ne (ne_of_none (A.ex b u e) h)]; exact A.ex b u e
  · rcases List.mem_cons.mp q with z | z
    · subst z; exact upd_same
    · rw [upd_ne (ne p z)]; exact A.on p z
  · rcases List.mem_cons.mp q with z | z
    · subst z; exact A.free h
    · exact A.off p z
  · rw [List.map_cons, List.nodup_cons]
    refine ⟨fun z => ?_, A.nd⟩
    obtain ⟨q, hq, e⟩ := List.mem_map.mp z
    exact ne q hq e
theorem At.ne (A : At F ((a, o) :: L) H) : ∀ p ∈ L, p.1 ≠ a := fun p q z => by
  have h := A.nd
  rw [List.map_cons, List.nodup_cons] at h
  exact h.1 (List.mem_map.mpr ⟨p, q, z⟩)
/-- a cell is written -/
theorem At.put (A : At F ((a, o) :: L) H) (ho : ∀ xs, u ≠ .tup xs := by intro _ z; nomatch z) : At F ((a, u) :: L) (upd H a u) := by
  refine ⟨fun b v e => ?_, fun p q => ?_, fun p q => ?_, A.nd, fun p q => (List.mem_cons.mp q).elim (fun z => z ▸ ho) fun z => A.nt p (List.mem_cons_of_mem _ z)⟩
  · have hb : b ≠ a := fun z => by
      have := A.off _ List.mem_cons_self
      rw [z] at e; rw [show F a = none from this] at e; cases e
    rw [upd_ne hb]; exact A.ex b v e
  · rcases List.mem_cons.mp q with z | z
    · subst z; exact upd_same
    · rw [upd_ne (A.ne p z)]; exact A.on p (List.mem_cons_of_mem _ z)
  · rcases List.mem_cons.mp q with z | z
    · subst z; exact A.off (a, o) List.mem_cons_self
    · exact A.off p (List.mem_cons_of_mem _ z)
/-- a cell stays from now on -/
theorem At.keep (A : At F ((a, o) :: L) H) : At (upd F a o) L H := by
  refine ⟨fun b v e => ?_, fun p q => A.on p (List.mem_cons_of_mem _ q), fun p q => by rw [upd_ne (A.ne p q)]; exact A.off p (List.mem_cons_of_mem _ q), A.tail.nd, A.tail.nt⟩
  by_cases hb : b = a
  · subst hb; rw [upd_same] at e; rw [← e]; exact A.on _ List.mem_cons_self
  · rw [upd_ne hb] at e; exact A.ex b v e
theorem At.off1 (A : At F ((a, o) :: L) H) : F a = none := A.off _ List.mem_cons_self
theorem At.on1 (A : At F ((a, o) :: L) H) : H a = some o := A.on _ List.mem_cons_self
end

/-! ### runs -/
/-- k runs from any heap with F (or more) and the cells L; it ends with the cells as they were, F grown, R of what it gives -/
def Run {α : Type} (k : Hp → (α → Hp → Prop) → Prop) (F : Hp) (L : Cells) (R : α → Hp → Prop) : Prop :=
  ∀ F1 N H, Same F F1 → At F1 (L ++ N) H → ∀ Q : α → Hp → Prop, (∀ v F2 H2, Same F1 F2 → At F2 (L ++ N) H2 → R v F2 → Q v H2) → k H Q
section
variable {α β : Type} {k : Hp → (α → Hp → Prop) → Prop} {F F1 : Hp} {L : Cells} {R R' : α → Hp → Prop}
theorem Run.up (h : Run k F L R) (e : Same F F1) : Run k F1 L R := fun F2 N H e2 A Q q => h F2 N H (e.trans e2) A Q q
theorem Run.weak (h : Run k F L R) (hr : ∀ v F2, Same F F2 → R v F2 → R' v F2) : Run k F L R' := fun F2 N H e2 A Q q =>
  h F2 N H e2 A Q fun v F3 H3 e3 A3 r => q v F3 H3 e3 A3 (hr v F3 (e2.trans e3) r)
theorem Run.cells {M : Cells} (h : Run k F [] R) : Run k F M R := fun F2 N H e2 A Q q => h F2 (M ++ N) H e2 A Q q
theorem run_ret {v : α} (h : ∀ F1, Same F F1 → R v F1) : Run (fun H Q => Q v H) F L R := fun F1 N H e A Q q => q v F1 H (Same.refl _) A (h F1 e)
theorem run_bind {k2 : α → Hp → (β → Hp → Prop) → Prop} {S : β → Hp → Prop} (h1 : Run k F L R) (h2 : ∀ v F1, Same F F1 → R v F1 → Run (k2 v) F1 L S) : Run (fun H Q => k H fun v H1 => k2 v H1 Q) F L S := fun F1 N H e A Q q =>
  h1 F1 N H e A _ fun v F2 H2 e2 A2 r => h2 v F2 (e.trans e2) r F2 N H2 (Same.refl _) A2 Q fun w F3 H3 e3 A3 s => q w F3 H3 (e2.trans e3) A3 s
theorem run_ex {γ : Type} {kk : γ → Hp → (α → Hp → Prop) → Prop} (w : γ) (h : Run (kk w) F L R) : Run (fun H Q => ∃ w, kk w H Q) F L R := fun F1 N H e A Q q => ⟨w, h F1 N H e A Q q⟩
theorem run_and {p : Hp → Prop} (hp : ∀ F1 N H, Same F F1 → At F1 (L ++ N) H → p H) (h : Run k F L R) : Run (fun H Q => p H ∧ k H Q) F L R := fun F1 N H e A Q q => ⟨hp F1 N H e A, h F1 N H e A Q q⟩
/-- a thing is laid, and stays -/
theorem run_new {o : Addr → HO} {S : V → Hp → Prop} (h : ∀ F1 p, Same F F1 → F1 p = none → S (.ref p) (upd F1 p (o p))) : Run (fun H Q => ∀ p, H p = none → Q (.ref p) (upd H p (o p))) F L S := fun F1 N H e A Q q p hp =>
  q _ (upd F1 p (o p)) _ (same_new (A.free hp)) (A.new hp) (h F1 p e (A.free hp))
end

abbrev VP := V → Hp → Prop
/-- what a value says goes on to be so -/
class Mono {α : Type} (R : α → Hp → Prop) : Prop where
  mono : ∀ v F F', Same F F' → R v F → R v F'
theorem Mono.go {α : Type} {R : α → Hp → Prop} [Mono R] {v : α} {F F' : Hp} (h : R v F) (e : Same F F') : R v F' := Mono.mono v F F' e h

/-! ### data -/
section
variable {K : PySem.W.Frag} {F F' : Hp}
theorem sqT_up {a : Addr} {xs : List V} (e : Same F F') (h : SqT K F a xs) : SqT K F' a xs := by
  rcases h with (h | ⟨o, h⟩) | h
  · exact .inl (.inl (e _ _ h))
  · exact .inl (.inr ⟨o, e _ _ h⟩)
  · exact .inr h
theorem sqL_up {a : Addr} {xs : List V} (e : Same F F') (h : SqL K F a xs) : SqL K F' a xs := e.seq h
mutual
theorem dp_up (e : Same F F') : ∀ {v : V} {d : PyData}, Dp K F v d → Dp K F' v d
  | _, _, .non => .non
  | _, _, .bl b => .bl b
  | _, _, .int i => .int i
  | _, _, .str x => .str x
  | _, _, .lst h t => .lst (sqL_up e h) (dpA_up e t)
  | _, _, .tup h t => .tup (sqT_up e h) (dpA_up e t)
theorem dpA_up (e : Same F F') : ∀ {vs : List V} {ds : List PyData}, DpAll K F vs ds → DpAll K F' vs ds
  | _, _, .nil => .nil
  | _, _, .cons h t => .cons (dp_up e h) (dpA_up e t)
end
end
/-- the value is the data d -/
def Dt (K : PySem.W.Frag) (d : PyData) : VP := fun v F => Dp K F v d
instance {K : PySem.W.Frag} {d : PyData} : Mono (Dt K d) := ⟨fun _ _ _ e h => dp_up e h⟩
/-- it is just this one -/
def Eqv {α : Type} (x : α) : α → Hp → Prop := fun v _ => v = x
instance {α : Type} {x : α} : Mono (Eqv x) := ⟨fun _ _ _ _ h => h⟩
/-- each of the values says its own -/
def Each : List VP → List V → Hp → Prop
  | [], [], _ => True
  | R :: Rs, v :: vs, F => R v F ∧ Each Rs vs F
  | _, _, _ => False
class MonoL (Rs : List VP) : Prop where
  mono : ∀ vs F F', Same F F' → Each Rs vs F → Each Rs vs F'
instance : MonoL [] := ⟨fun vs F F' e h => by cases vs <;> exact h⟩
instance {R : VP} {Rs : List VP} [Mono R] [MonoL Rs] : MonoL (R :: Rs) := ⟨fun vs F F' e h => by
  cases vs with
  | nil => exact h
  | cons v vs => exact ⟨Mono.mono v F F' e h.1, MonoL.mono vs F F' e h.2⟩⟩
instance {Rs : List VP} [MonoL Rs] : Mono (Each Rs) := ⟨fun vs F F' e h => MonoL.mono vs F F' e h⟩
theorem each_length : ∀ {Rs : List VP} {vs : List V} {F : Hp}, Each Rs vs F → vs.length = Rs.length
  | [], [], _, _ => rfl
  | _ :: Rs, _ :: vs, F, h => by rw [List.length_cons, List.length_cons, each_length (Rs := Rs) (vs := vs) h.2]
  | [], _ :: _, _, h => h.elim
  | _ :: _, [], _, h => h.elim
theorem each_get {ι : Type} {f : ι → VP} : ∀ {xs : List ι} {vs : List V} {F : Hp} {i : Nat} {v : V}, Each (xs.map f) vs F → vs[i]? = some v → ∃ x, xs[i]? = some x ∧ f x v F
  | [], [], _, _, _, _, e => by simp at e
  | x :: xs, v :: vs, F, 0, w, h, e => by
    have e' : v = w := by simpa using e
    subst e'
    exact ⟨x, rfl, h.1⟩
  | x :: xs, v :: vs, F, i + 1, w, h, e => by
    obtain ⟨y, h1, h2⟩ := each_get (xs := xs) (vs := vs) (i := i) h.2 (by simpa using e)
    exact ⟨y, by simpa using h1, h2⟩
  | [], _ :: _, _, _, _, h, _ => h.elim
  | _ :: _, [], _, _, _, h, _ => h.elim
theorem each_dt {K : PySem.W.Frag} {F : Hp} : ∀ {ds : List PyData} {vs : List V}, Each (ds.map (Dt K)) vs F ↔ DpAll K F vs ds
  | [], [] => ⟨fun _ => .nil, fun _ => trivial⟩
  | d :: ds, v :: vs => ⟨fun h => .cons h.1 (each_dt.mp h.2), fun h => by cases h with | cons a b => exact ⟨a, each_dt.mpr b⟩⟩
  | [], _ :: _ => ⟨fun h => h.elim, fun h => nomatch h⟩
  | _ :: _, [] => ⟨fun h => h.elim, fun h => nomatch h⟩
theorem each_app : ∀ {Rs Ss : List VP} {vs ws : List V} {F : Hp}, Each Rs vs F → Each Ss ws F → Each (Rs ++ Ss) (vs ++ ws) F
  | [], _, [], _, _, _, h => h
  | _ :: Rs, Ss, _ :: vs, ws, _, h, g => ⟨h.1, each_app (Rs := Rs) (vs := vs) h.2 g⟩
  | [], _, _ :: _, _, _, h, _ => h.elim
  | _ :: _, _, [], _, _, h, _ => h.elim
theorem each0 {vs : List V} {F : Hp} (h : Each [] vs F) : vs = [] := by
  cases vs with
  | nil => rfl
  | cons _ _ => exact h.elim
theorem each_cons {R : VP} {Rs : List VP} {vs : List V} {F : Hp} (h : Each (R :: Rs) vs F) : ∃ v ws, vs = v :: ws ∧ R v F ∧ Each Rs ws F := by
  cases vs with
  | nil => exact h.elim
  | cons v ws => exact ⟨v, ws, rfl, h.1, h.2⟩
theorem each1 {R : VP} {vs : List V} {F : Hp} (h : Each [R] vs F) : ∃ v, vs = [v] ∧ R v F := by
  obtain ⟨v, ws, rfl, h1, h2⟩ := each_cons h
  cases each0 h2
  exact ⟨v, rfl, h1⟩
theorem each2 {R S : VP} {vs : List V} {F : Hp} (h : Each [R, S] vs F) : ∃ v u, vs = [v, u] ∧ R v F ∧ S u F := by
  obtain ⟨v, ws, rfl, h1, h2⟩ := each_cons h
  obtain ⟨u, rfl, h3⟩ := each1 h2
  exact ⟨v, u, rfl, h1, h3⟩
theorem each3 {R S T : VP} {vs : List V} {F : Hp} (h : Each [R, S, T] vs F) : ∃ v u w, vs = [v, u, w] ∧ R v F ∧ S u F ∧ T w F := by
  obtain ⟨v, ws, rfl, h1, h2⟩ := each_cons h
  obtain ⟨u, w, rfl, h3, h4⟩ := each2 h2
  exact ⟨v, u, w, rfl, h1, h3, h4⟩
/-- a tuple, a list of such -/
def Tp (K : PySem.W.Frag) (Rs : List VP) : VP := fun v F => ∃ a vs, v = .ref a ∧ SqT K F a vs ∧ Each Rs vs F
def Ls (K : PySem.W.Frag) (Rs : List VP) : VP := fun v F => ∃ a vs, v = .ref a ∧ SqL K F a vs ∧ Each Rs vs F
/-- a list that stands there just so -/
def Ln (Rs : List VP) : VP := fun v F => ∃ a vs, v = .ref a ∧ F a = some (.lst vs) ∧ Each Rs vs F
instance {Rs : List VP} [MonoL Rs] : Mono (Ln Rs) := ⟨fun _ _ _ e ⟨a, vs, h, s, r⟩ => ⟨a, vs, h, e _ _ s, MonoL.mono _ _ _ e r⟩⟩
theorem Ln.ls {K : PySem.W.Frag} {Rs : List VP} {v : V} {F : Hp} (h : Ln Rs v F) : Ls K Rs v F :=
  let ⟨a, vs, h, s, r⟩ := h
  ⟨a, vs, h, .inl (.inl s), r⟩
instance {K : PySem.W.Frag} {Rs : List VP} [MonoL Rs] : Mono (Tp K Rs) := ⟨fun _ _ _ e ⟨a, vs, h, s, r⟩ => ⟨a, vs, h, sqT_up e s, MonoL.mono _ _ _ e r⟩⟩
instance {K : PySem.W.Frag} {Rs : List VP} [MonoL Rs] : Mono (Ls K Rs) := ⟨fun _ _ _ e ⟨a, vs, h, s, r⟩ => ⟨a, vs, h, sqL_up e s, MonoL.mono _ _ _ e r⟩⟩
theorem monoL_map {ι : Type} {f : ι → VP} (h : ∀ x, Mono (f x)) : ∀ xs : List ι, MonoL (xs.map f)
  | [] => inferInstanceAs (MonoL [])
  | x :: xs => by
    have := h x
    have := monoL_map h xs
    exact inferInstanceAs (MonoL (f x :: xs.map f))
instance {ι : Type} {f : ι → VP} [h : ∀ x, Mono (f x)] {xs : List ι} : MonoL (xs.map f) := monoL_map h xs
theorem tp_dt {K : PySem.W.Frag} {ds : List PyData} {v : V} {F : Hp} : Tp K (ds.map (Dt K)) v F ↔ Dt K (.tuple ds) v F :=
  ⟨fun ⟨a, vs, h, s, r⟩ => by subst h; exact .tup s (each_dt.mp r), fun h => by cases h with | tup s r => exact ⟨_, _, rfl, s, each_dt.mpr r⟩⟩
theorem ls_dt {K : PySem.W.Frag} {ds : List PyData} {v : V} {F : Hp} : Ls K (ds.map (Dt K)) v F ↔ Dt K (.list ds) v F :=
  ⟨fun ⟨a, vs, h, s, r⟩ => by subst h; exact .lst s (each_dt.mp r), fun h => by cases h with | lst s r => exact ⟨_, _, rfl, s, each_dt.mpr r⟩⟩
theorem dt_int {K : PySem.W.Frag} {i : Int} {v : V} {F : Hp} (h : Dt K (.int i) v F) : v = .int i := by cases h; rfl
theorem dt_bl {K : PySem.W.Frag} {b : Bool} {v : V} {F : Hp} (h : Dt K (.bool b) v F) : v = .bl b := by cases h; rfl
theorem dt_str {K : PySem.W.Frag} {x : Str} {v : V} {F : Hp} (h : Dt K (.str x) v F) : v = .str x := by cases h; rfl
theorem dt_non {K : PySem.W.Frag} {v : V} {F : Hp} (h : Dt K .none v F) : v = .non := by cases h; rfl
theorem vs_ints {K : PySem.W.Frag} {F : Hp} : ∀ {ns : List Int} {vs : List V}, DpAll K F vs (ns.map PyData.int) → vs = ns.map V.int
  | [], _, .nil => rfl
  | n :: ns, _, .cons h t => by
    cases h
    rw [List.map_cons, vs_ints (ns := ns) t]
theorem ints_vs {K : PySem.W.Frag} {F : Hp} : ∀ {ns : List Int}, DpAll K F (ns.map V.int) (ns.map PyData.int)
  | [] => .nil
  | n :: ns => .cons (.int n) ints_vs
end Rs

/-! Rs1: expressions, statements, loops, comprehensions as runs. -/
namespace Rs
open PySem L2
theorem len_ok {n : Nat} (h : n ≤ 100000) : n ≤ sizeLine := Nat.le_trans h (by decide)
theorem len_lt {n : Nat} (h : n < 100000) : n < sizeLine := Nat.lt_of_lt_of_le h (by decide)
section
variable {K : PySem.W.Frag} {σ : L2.St} {F F1 : Hp} {L : Cells} {R Ra Rb Rc : VP} {Rs Ss : List VP} {ta tb tc te : TE} {t tr : TA} {tt tu : TT} {i : Nat} {v : V} {r r' : R2}
theorem r_var [Mono R] (h : σ[i]? = some (some v)) (hr : R v F) : Run (tVar i σ) F L R := run_ex v (run_and (fun _ _ _ _ _ => h) (run_ret fun _ e => Mono.go hr e))
theorem r_varE (h : σ[i]? = some (some v)) : Run (tVar i σ) F L (Eqv v) := r_var h rfl
theorem r_c [Mono R] (hr : R v F) : Run (tC v σ) F L R := run_ret fun _ e => Mono.go hr e
theorem r_int {j : Int} : Run (tC (.int j) σ) F L (Dt K (.int j)) := r_c (R := Dt K (.int j)) (.int j)
theorem r_bl {b : Bool} : Run (tC (.bl b) σ) F L (Dt K (.bool b)) := r_c (R := Dt K (.bool b)) (.bl b)
theorem r_str {x : Str} : Run (tC (.str x) σ) F L (Dt K (.str x)) := r_c (R := Dt K (.str x)) (.str x)
theorem r_op [Mono Ra] (ha : Run (ta σ) F L Ra) (hb : Run (tb σ) F L Rb) (h : ∀ x y F1, Same F F1 → Ra x F1 → Rb y F1 → Run (r x y) F1 L R) : Run (tOp r ta tb σ) F L R :=
  run_bind (k := ta σ) ha fun x F1 e1 hx => run_bind (k := tb σ) (hb.up e1) fun y F2 e2 hy => h x y F2 (e1.trans e2) (Mono.go hx e2) hy
theorem r_un {q : V → Hp → VK → Prop} (ha : Run (ta σ) F L Ra) (h : ∀ x F1, Same F F1 → Ra x F1 → Run (q x) F1 L R) : Run (tUn q ta σ) F L R := run_bind (k := ta σ) ha h
theorem r_cb {q : List V → Hp → VK → Prop} {A : List V → Hp → Prop} (ha : Run (t σ) F L A) (h : ∀ xs F1, Same F F1 → A xs F1 → Run (q xs) F1 L R) : Run (tCB q t σ) F L R := run_bind (k := t σ) ha h
theorem r_nil : Run (tNil σ) F L (Each []) := run_ret fun _ _ => True.intro
theorem r_cons [Mono R] (h : Run (te σ) F L R) (hr : Run (tr σ) F L (Each Rs)) : Run (tCons te tr σ) F L (Each (R :: Rs)) := fun F1 N H e A Q q =>
  h F1 N H e A _ fun x F2 H2 e2 A2 hx => hr F2 N H2 (e.trans e2) A2 _ fun xs F3 H3 e3 A3 hxs => q (x :: xs) F3 H3 (e2.trans e3) A3 ⟨Mono.go hx e3, hxs⟩
theorem r_tup (h : Run (t σ) F L (Each Rs)) [MonoL Rs] (hl : Rs.length ≤ 100000) : Run (tTup t σ) F L (Tp K Rs) :=
  run_bind (k := t σ) h fun xs F1 e1 hx => run_and (fun _ _ _ _ _ => len_ok (by rw [each_length hx]; exact hl)) (run_new fun F2 p e2 hp => ⟨p, xs, rfl, .inl (.inl upd_same), MonoL.mono _ _ _ (e2.trans (same_new hp)) hx⟩)
theorem r_lst (h : Run (t σ) F L (Each Rs)) [MonoL Rs] (hl : Rs.length ≤ 100000) : Run (tLst t σ) F L (Ln Rs) :=
  run_bind (k := t σ) h fun xs F1 e1 hx => run_and (fun _ _ _ _ _ => len_ok (by rw [each_length hx]; exact hl)) (run_new fun F2 p e2 hp => ⟨p, xs, rfl, upd_same, MonoL.mono _ _ _ (e2.trans (same_new hp)) hx⟩)
theorem r_ls (h : Run (te σ) F L (Ln Rs)) : Run (te σ) F L (Ls K Rs) := h.weak fun _ _ _ => Ln.ls
theorem r_dt {d : PyData} (h : Run (te σ) F L R) (hr : ∀ v F1, Same F F1 → R v F1 → Dp K F1 v d) : Run (te σ) F L (Dt K d) := h.weak hr
/-! numbers, comparisons -/
theorem r_I0i {f : Int → Int → Int} {a b : Int} (ha : Run (ta σ) F L (Dt K (.int a))) (hb : Run (tb σ) F L (Dt K (.int b))) : Run (tOp (rI0 fun i j => .int (f i j)) ta tb σ) F L (Dt K (.int (f a b))) :=
  r_op ha hb fun x y F1 e1 hx hy => by
    cases hx; cases hy
    exact run_ex a (run_ex b (run_and (fun _ _ _ _ _ => rfl) (run_and (fun _ _ _ _ _ => rfl) (run_ret fun _ _ => .int _))))
theorem r_I0b {f : Int → Int → Bool} {a b : Int} (ha : Run (ta σ) F L (Dt K (.int a))) (hb : Run (tb σ) F L (Dt K (.int b))) : Run (tOp (rI0 fun i j => .bl (f i j)) ta tb σ) F L (Dt K (.bool (f a b))) :=
  r_op ha hb fun x y F1 e1 hx hy => by
    cases hx; cases hy
    exact run_ex a (run_ex b (run_and (fun _ _ _ _ _ => rfl) (run_and (fun _ _ _ _ _ => rfl) (run_ret fun _ _ => .bl _))))
theorem r_Ii {C : Int → Int → Prop} {f : Int → Int → Int} {a b : Int} (ha : Run (ta σ) F L (Dt K (.int a))) (hb : Run (tb σ) F L (Dt K (.int b))) (hc : C a b) : Run (tOp (rI C fun i j => .int (f i j)) ta tb σ) F L (Dt K (.int (f a b))) :=
  r_op ha hb fun x y F1 e1 hx hy => by
    cases hx; cases hy
    exact run_ex a (run_ex b (run_and (fun _ _ _ _ _ => rfl) (run_and (fun _ _ _ _ _ => rfl) (run_and (fun _ _ _ _ _ => hc) (run_ret fun _ _ => .int _)))))
theorem r_U {f : Int → Int} {a : Int} (ha : Run (ta σ) F L (Dt K (.int a))) : Run (tUn (rU fun i => .int (f i)) ta σ) F L (Dt K (.int (f a))) :=
  r_un ha fun x F1 e1 hx => by
    cases hx
    exact run_ex a (run_and (fun _ _ _ _ _ => rfl) (run_ret fun _ _ => .int _))
/-- lo < x <= hi and its like -/
theorem r_chain {f g : Int → Int → Bool} {a b c : Int} (ha : Run (ta σ) F L (Dt K (.int a))) (hb : Run (tb σ) F L (Dt K (.int b))) (hc : Run (tc σ) F L (Dt K (.int c))) :
    Run (tChain (rI0 fun i j => .bl (f i j)) (rI0 fun i j => .bl (g i j)) ta tb tc σ) F L (Dt K (.bool (f a b && g b c))) :=
  run_bind (k := ta σ) ha fun x F1 e1 hx => run_bind (k := tb σ) (hb.up e1) fun y F2 e2 hy => by
    cases hx; cases hy
    refine run_bind (k := fun H Q => rI0 (fun i j => .bl (f i j)) (.int a) (.int b) H Q) (R := Eqv (.bl (f a b))) (run_ex a (run_ex b (run_and (fun _ _ _ _ _ => rfl) (run_and (fun _ _ _ _ _ => rfl) (run_ret fun _ _ => rfl))))) fun z F3 e3 hz => ?_
    cases hz
    refine run_ex (f a b) (run_and (fun _ _ _ _ _ => rfl) ?_)
    cases hf : f a b with
    | true =>
      refine fun F4 N H e4 A Q q => iteT ?_
      refine run_bind (hc.up ((e1.trans e2).trans e3)) (k2 := fun w' H4 Q => rI0 (fun i j => .bl (g i j)) (.int b) w' H4 Q) (S := Dt K (.bool (true && g b c))) (fun w F5 e5 hw => ?_) F4 N H e4 A Q q
      cases hw
      exact run_ex b (run_ex c (run_and (fun _ _ _ _ _ => rfl) (run_and (fun _ _ _ _ _ => rfl) (run_ret fun _ _ => by rw [Bool.true_and]; exact .bl _))))
    | false =>
      refine fun F4 N H e4 A Q q => iteF ?_
      exact q _ F4 H (Same.refl _) A (.bl _)
/-! tests -/
variable {a b : Bool}
theorem t_test (h : Run (te σ) F L (Dt K (.bool b))) : Run (tTest te σ) F L (Eqv b) := run_bind (k := te σ) h fun x F1 e1 hx => by
  cases hx
  exact run_ex b (run_and (fun _ _ _ _ _ => rfl) (run_ret fun _ _ => rfl))
theorem t_B (h : Run (te σ) F L (Dt K (.bool b))) : Run (tB te σ) F L (Eqv b) := run_bind (k := te σ) h fun x F1 e1 hx => by
  cases hx
  exact run_ex b (run_and (fun _ _ _ _ _ => rfl) (run_ret fun _ _ => rfl))
theorem t_yes : Run (tYes σ) F L (Eqv true) := run_ret fun _ _ => rfl
theorem t_not (h : Run (tt σ) F L (Eqv b)) : Run (tNot tt σ) F L (Eqv (!b)) := run_bind (k := tt σ) h fun x F1 e1 hx => by
  cases hx
  exact run_ret fun _ _ => rfl
theorem t_and (h : Run (tt σ) F L (Eqv a)) (h2 : a = true → Run (tu σ) F L (Eqv b)) : Run (tAnd tt tu σ) F L (Eqv (a && b)) := run_bind (k := tt σ) h fun x F1 e1 hx => by
  cases hx
  cases a with
  | true => exact fun F4 N H e4 A Q q => iteT (((h2 rfl).up e1) F4 N H e4 A Q q)
  | false => exact fun F4 N H e4 A Q q => iteF (q false F4 H (Same.refl _) A rfl)
theorem t_or (h : Run (tt σ) F L (Eqv a)) (h2 : a = false → Run (tu σ) F L (Eqv b)) : Run (tOr tt tu σ) F L (Eqv (a || b)) := run_bind (k := tt σ) h fun x F1 e1 hx => by
  cases hx
  cases a with
  | true => exact fun F4 N H e4 A Q q => iteT (q true F4 H (Same.refl _) A rfl)
  | false => exact fun F4 N H e4 A Q q => iteF (((h2 rfl).up e1) F4 N H e4 A Q q)
theorem t_is (h : Run (tt σ) F L (Eqv a)) (e : a = b) : Run (tt σ) F L (Eqv b) := e ▸ h
theorem r_and (h : Run (ta σ) F L (Dt K (.bool a))) (h2 : a = true → Run (tb σ) F L (Dt K (.bool b))) : Run (tAndV ta tb σ) F L (Dt K (.bool (a && b))) := run_bind (k := ta σ) h fun x F1 e1 hx => by
  cases hx
  refine run_ex a (run_and (fun _ _ _ _ _ => rfl) ?_)
  cases a with
  | true => exact fun F4 N H e4 A Q q => iteT (((h2 rfl).up e1) F4 N H e4 A Q q)
  | false => exact fun F4 N H e4 A Q q => iteF (q _ F4 H (Same.refl _) A (.bl false))
theorem r_or (h : Run (ta σ) F L (Dt K (.bool a))) (h2 : a = false → Run (tb σ) F L (Dt K (.bool b))) : Run (tOrV ta tb σ) F L (Dt K (.bool (a || b))) := run_bind (k := ta σ) h fun x F1 e1 hx => by
  cases hx
  refine run_ex a (run_and (fun _ _ _ _ _ => rfl) ?_)
  cases a with
  | true => exact fun F4 N H e4 A Q q => iteT (q _ F4 H (Same.refl _) A (.bl true))
  | false => exact fun F4 N H e4 A Q q => iteF (((h2 rfl).up e1) F4 N H e4 A Q q)
theorem r_not (h : Run (ta σ) F L (Dt K (.bool a))) : Run (tNotV ta σ) F L (Dt K (.bool (!a))) := run_bind (k := ta σ) h fun x F1 e1 hx => by
  cases hx
  exact run_ex a (run_and (fun _ _ _ _ _ => rfl) (run_ret fun _ _ => .bl _))
theorem r_if (h : Run (tt σ) F L (Eqv b)) (h1 : b = true → Run (ta σ) F L R) (h2 : b = false → Run (tb σ) F L R) : Run (tIf tt ta tb σ) F L R := run_bind (k := tt σ) h fun x F1 e1 hx => by
  cases hx
  cases b with
  | true => exact fun F4 N H e4 A Q q => iteT (((h1 rfl).up e1) F4 N H e4 A Q q)
  | false => exact fun F4 N H e4 A Q q => iteF (((h2 rfl).up e1) F4 N H e4 A Q q)
theorem r_is {d e : PyData} (h : Run (te σ) F L (Dt K d)) (q : d = e) : Run (te σ) F L (Dt K e) := q ▸ h
end

/-! ### promises -/
/-- a def that leaves all as it is: from arguments that say Rs it hands back what says R -/
def SpF {γ : Type} (pre : γ → Prop) (Rs : γ → List VP) (R : γ → VP) : Sp := fun vs H Q _ => ∃ g F N, pre g ∧ At F N H ∧ Each (Rs g) vs F ∧ ∀ v F' H', Same F F' → At F' N H' → R g v F' → Q v H'
section
variable {σ : L2.St} {F : Hp} {L : Cells} {γ : Type} {pre : γ → Prop} {Rs : γ → List VP} {R : γ → VP} {t : TA} {E : XK}
theorem sp_run {g : γ} (hp : pre g) {vs : List V} (h : Each (Rs g) vs F) [MonoL (Rs g)] : Run (fun H Q => SpF pre Rs R vs H Q E) F L (R g) := fun F1 N H e A Q q =>
  ⟨g, F1, L ++ N, hp, A, MonoL.mono _ _ _ e h, fun v F2 H2 e2 A2 r => q v F2 H2 e2 A2 r⟩
theorem r_call (g : γ) (hp : pre g) [MonoL (Rs g)] (h : Run (t σ) F L (Each (Rs g))) : Run (tCall (SpF pre Rs R) [] E t σ) F L (R g) := run_bind (k := t σ) h fun vs F1 e1 hv => by
  have := sp_run (R := R) (E := E) (L := L) hp hv
  rw [← List.append_nil vs] at this
  exact this
end

/-! ### statements -/
def RunS (t : TS) (σ : L2.St) (F : Hp) (L : Cells) (Nx : L2.St → Hp → Cells → Prop) (Rt : VP) : Prop :=
  ∀ F1 N H, Same F F1 → At F1 (L ++ N) H → ∀ D : Ends, (∀ σ' F' L' H', Same F1 F' → At F' (L' ++ N) H' → Nx σ' F' L' → D.nx σ' H') → (∀ v F' H', Same F1 F' → At F' N H' → Rt v F' → D.rt v H') → t D σ H
section
variable {K : PySem.W.Frag} {σ : L2.St} {F : Hp} {L : Cells} {Nx Mid : L2.St → Hp → Cells → Prop} {Rt R : VP} {t u : TS} {te ta tb : TE} {tc : TT} {i j : Nat} {b : Bool}
theorem RunS.up {F1 : Hp} (h : RunS t σ F L Nx Rt) (e : Same F F1) : RunS t σ F1 L Nx Rt := fun F2 N H e2 A D q r => h F2 N H (e.trans e2) A D q r
theorem s_seq (h : RunS t σ F L Mid Rt) (h2 : ∀ σ' F' L', Same F F' → Mid σ' F' L' → RunS u σ' F' L' Nx Rt) : RunS (tSeq t u) σ F L Nx Rt := fun F1 N H e A D q r =>
  h F1 N H e A { D with nx := u D } (fun σ' F' L' H' e' A' m => h2 σ' F' L' (e.trans e') m F' N H' (Same.refl _) A' D (fun σ2 F2 L2 H2 e2 A2 n => q σ2 F2 L2 H2 (e'.trans e2) A2 n) fun v F2 H2 e2 A2 n => r v F2 H2 (e'.trans e2) A2 n) r
theorem s_next (h : ∀ F1, Same F F1 → Nx σ F1 L) : RunS tNext σ F L Nx Rt := fun F1 N H e A D q r => q σ F1 L H (Same.refl _) A (h F1 e)
theorem s_set (h : Run (te σ) F L R) (k : ∀ v F1, Same F F1 → R v F1 → Nx (σ.set i (some v)) F1 L) : RunS (tAsg te (gName i)) σ F L Nx Rt := fun F1 N H e A D q r =>
  h F1 N H e A _ fun v F2 H2 e2 A2 hv => q _ F2 L H2 e2 A2 (k v F2 (e.trans e2) hv)
theorem q_set (h : Run (te σ) F L R) (k : ∀ v F1, Same F F1 → R v F1 → RunS u (σ.set i (some v)) F1 L Nx Rt) : RunS (tSeq (tAsg te (gName i)) u) σ F L Nx Rt := fun F1 N H e A D q r =>
  h F1 N H e A _ fun v F2 H2 e2 A2 hv => k v F2 (e.trans e2) hv F2 N H2 (Same.refl _) A2 D (fun σ3 F3 L3 H3 e3 A3 n => q σ3 F3 L3 H3 (e2.trans e3) A3 n) fun w F3 H3 e3 A3 n => r w F3 H3 (e2.trans e3) A3 n
theorem s_ret (h : Run (te σ) F L Rt) : RunS (tRet te) σ F L Nx Rt := fun F1 N H e A D q r => h F1 N H e A _ fun v F2 H2 e2 A2 hv => r v F2 H2 e2 A2.drop hv
theorem s_retN (h : ∀ F1, Same F F1 → Rt .non F1) : RunS tRetN σ F L Nx Rt := fun F1 N H e A D q r => r .non F1 H (Same.refl _) A.drop (h F1 e)
theorem s_drop (h : Run (te σ) F L R) (k : ∀ F1, Same F F1 → Nx σ F1 L) : RunS (tDrop te) σ F L Nx Rt := fun F1 N H e A D q r =>
  h F1 N H e A _ fun v F2 H2 e2 A2 hv => q _ F2 L H2 e2 A2 (k F2 (e.trans e2))
theorem q_drop (h : Run (te σ) F L R) (k : ∀ F1, Same F F1 → RunS u σ F1 L Nx Rt) : RunS (tSeq (tDrop te) u) σ F L Nx Rt := s_seq (Mid := fun σ' F' L' => σ' = σ ∧ L' = L) (s_drop h fun _ _ => ⟨rfl, rfl⟩) fun σ' F' L' e ⟨h1, h2⟩ => by
  subst h1 h2
  exact k F' e
theorem s_if (h : Run (tc σ) F L (Eqv b)) (h1 : b = true → RunS t σ F L Nx Rt) (h2 : b = false → RunS u σ F L Nx Rt) : RunS (tIfS tc t u) σ F L Nx Rt := fun F1 N H e A D q r =>
  h F1 N H e A _ fun c F2 H2 e2 A2 hc => by
    cases hc
    cases b with
    | true => exact iteT (h1 rfl F2 N H2 (e.trans e2) A2 D (fun σ3 F3 L3 H3 e3 A3 n => q σ3 F3 L3 H3 (e2.trans e3) A3 n) fun w F3 H3 e3 A3 n => r w F3 H3 (e2.trans e3) A3 n)
    | false => exact iteF (h2 rfl F2 N H2 (e.trans e2) A2 D (fun σ3 F3 L3 H3 e3 A3 n => q σ3 F3 L3 H3 (e2.trans e3) A3 n) fun w F3 H3 e3 A3 n => r w F3 H3 (e2.trans e3) A3 n)
/-- if c: (a return, or on) ; then u -/
theorem q_if {w : TS} (h : Run (tc σ) F L (Eqv b)) (h1 : b = true → RunS (tSeq t w) σ F L Nx Rt) (h2 : b = false → RunS (tSeq u w) σ F L Nx Rt) : RunS (tSeq (tIfS tc t u) w) σ F L Nx Rt := fun F1 N H e A D q r =>
  h F1 N H e A _ fun c F2 H2 e2 A2 hc => by
    cases hc
    cases b with
    | true => exact iteT (h1 rfl F2 N H2 (e.trans e2) A2 D (fun σ3 F3 L3 H3 e3 A3 n => q σ3 F3 L3 H3 (e2.trans e3) A3 n) fun w F3 H3 e3 A3 n => r w F3 H3 (e2.trans e3) A3 n)
    | false => exact iteF (h2 rfl F2 N H2 (e.trans e2) A2 D (fun σ3 F3 L3 H3 e3 A3 n => q σ3 F3 L3 H3 (e2.trans e3) A3 n) fun w F3 H3 e3 A3 n => r w F3 H3 (e2.trans e3) A3 n)
theorem q_next (h : RunS u σ F L Nx Rt) : RunS (tSeq tNext u) σ F L Nx Rt := h
theorem q_ret (h : Run (te σ) F L Rt) : RunS (tSeq (tRet te) u) σ F L Nx Rt := fun F1 N H e A D q r => h F1 N H e A _ fun v F2 H2 e2 A2 hv => r v F2 H2 e2 A2.drop hv
theorem RunS.weak {Nx' : L2.St → Hp → Cells → Prop} (h : RunS t σ F L Nx Rt) (hn : ∀ σ' F' L', Same F F' → Nx σ' F' L' → Nx' σ' F' L') : RunS t σ F L Nx' Rt := fun F1 N H e A D q r =>
  h F1 N H e A D (fun σ' F' L' H' e' A' n => q σ' F' L' H' e' A' (hn σ' F' L' (e.trans e') n)) r
/-- the cells in another order -/
theorem RunS.perm {L' : Cells} (h : RunS t σ F L' Nx Rt) (p : L.Perm L') : RunS t σ F L Nx Rt := fun F1 N H e A D q r => h F1 N H e (A.perm (List.Perm.append_right N p)) D q r
/-- a cell stays from now on -/
theorem RunS.keep {a : Addr} {o : HO} (h : F a = none → RunS t σ (upd F a o) L Nx Rt) : RunS t σ F ((a, o) :: L) Nx Rt := fun F1 N H e A D q r => by
  have A1 : At F1 ((a, o) :: (L ++ N)) H := A
  have ha : F a = none := e.free A1.off1
  refine h ha (upd F1 a o) N H (fun c v z => ?_) A1.keep D (fun σ' F' L' H' e' A' n => q σ' F' L' H' ((same_new A1.off1).trans e') A' n) fun v F' H' e' A' n => r v F' H' ((same_new A1.off1).trans e') A' n
  by_cases hc : c = a
  · rw [hc, upd_same] at z ⊢; exact z
  · rw [upd_ne hc] at z ⊢; exact e c v z
/-! lists of one's own -/
/-- x = [..]: a list of one's own -/
theorem q_new {Rs : List VP} {ta : TA} [MonoL Rs] (h : Run (ta σ) F L (Each Rs)) (hl : Rs.length ≤ 100000) (k : ∀ p vs F1, Same F F1 → F1 p = none → Each Rs vs F1 → RunS u (σ.set i (some (.ref p))) F1 ((p, .lst vs) :: L) Nx Rt) :
    RunS (tSeq (tAsg (tLst ta) (gName i)) u) σ F L Nx Rt := fun F1 N H e A D q r =>
  h F1 N H e A _ fun vs F2 H2 e2 A2 hv => ⟨len_ok (by rw [each_length hv]; exact hl), fun p hp =>
    k p vs F2 (e.trans e2) (A2.free hp) hv F2 N _ (Same.refl _) (A2.cell hp) D (fun σ3 F3 L3 H3 e3 A3 n => q σ3 F3 L3 H3 (e2.trans e3) A3 n) fun w F3 H3 e3 A3 n => r w F3 H3 (e2.trans e3) A3 n⟩
/-- l.append(e), l a list of one's own -/
theorem q_app {l : Addr} {xs : List V} (hl : Run (ta σ) F ((l, .lst xs) :: L) (Eqv (.ref l))) (h : Run (te σ) F ((l, .lst xs) :: L) R) (hz : xs.length < 100000)
    (k : ∀ v F1, Same F F1 → R v F1 → RunS u σ F1 ((l, .lst (xs ++ [v])) :: L) Nx Rt) : RunS (tSeq (tDrop (tBM K "list" rAppend ta (tCons te tNil))) u) σ F ((l, .lst xs) :: L) Nx Rt := fun F1 N H e A D q r =>
  hl F1 N H e A _ fun v F2 H2 e2 A2 hv => by
    cases hv
    refine ⟨.inl ⟨rfl, xs, .inl (.inl (At.on1 A2))⟩, ?_⟩
    refine h F2 N H2 (e.trans e2) A2 _ fun v F3 H3 e3 A3 hv => ⟨l, xs, v, rfl, rfl, At.on1 A3, len_lt hz, ?_⟩
    exact k v F3 ((e.trans e2).trans e3) hv F3 N _ (Same.refl _) (At.put A3) D (fun σ4 F4 L4 H4 e4 A4 n => q σ4 F4 L4 H4 ((e2.trans e3).trans e4) A4 n) fun w F4 H4 e4 A4 n => r w F4 H4 ((e2.trans e3).trans e4) A4 n
theorem s_app {l : Addr} {xs : List V} (hl : Run (ta σ) F ((l, .lst xs) :: L) (Eqv (.ref l))) (h : Run (te σ) F ((l, .lst xs) :: L) R) (hz : xs.length < 100000)
    (k : ∀ v F1, Same F F1 → R v F1 → Nx σ F1 ((l, .lst (xs ++ [v])) :: L)) : RunS (tDrop (tBM K "list" rAppend ta (tCons te tNil))) σ F ((l, .lst xs) :: L) Nx Rt := fun F1 N H e A D q r =>
  hl F1 N H e A _ fun v F2 H2 e2 A2 hv => by
    cases hv
    refine ⟨.inl ⟨rfl, xs, .inl (.inl (At.on1 A2))⟩, ?_⟩
    refine h F2 N H2 (e.trans e2) A2 _ fun v F3 H3 e3 A3 hv => ⟨l, xs, v, rfl, rfl, At.on1 A3, len_lt hz, ?_⟩
    exact q _ F3 _ _ (e2.trans e3) (At.put A3) (k v F3 ((e.trans e2).trans e3) hv)
end

/-! ### loops -/
/-- the iterator gives things that say Rs, one behind the other -/
def Seqs (J : It) (Rs : List VP) (F1 : Hp) : Prop := ∃ G Y, Walk J Rs.length G Y ∧ (∀ F2 L H, Same F1 F2 → At F2 L H → G H) ∧
  (∀ F2 L H i x H', Same F1 F2 → At F2 L H → i < Rs.length → Y i H x H' → ∃ F3 R, Same F2 F3 ∧ At F3 L H' ∧ Rs[i]? = some R ∧ R x F3)
section
variable {K : PySem.W.Frag} {σ : L2.St} {F : Hp} {L : Cells} {Rs : List VP} {te : TE} {t : TA} {i j : Nat}
theorem each_at : ∀ {Rs : List VP} {vs : List V} {F : Hp} {i : Nat} {x : V}, Each Rs vs F → vs[i]? = some x → ∃ R, Rs[i]? = some R ∧ R x F
  | [], [], _, _, _, _, e => by simp at e
  | R :: Rs, v :: vs, F, 0, w, h, e => by
    have e' : v = w := by simpa using e
    subst e'
    exact ⟨R, rfl, h.1⟩
  | R :: Rs, v :: vs, F, i + 1, w, h, e => by
    obtain ⟨y, h1, h2⟩ := each_at (Rs := Rs) (vs := vs) (i := i) h.2 (by simpa using e)
    exact ⟨y, by simpa using h1, h2⟩
  | [], _ :: _, _, _, _, h, _ => h.elim
  | _ :: _, [], _, _, _, h, _ => h.elim
theorem seqs_tup {a : Addr} {vs : List V} {F1 : Hp} [MonoL Rs] (h : SqT K F1 a vs) (hv : Each Rs vs F1) : Seqs (Itt K a) Rs F1 := by
  rw [Seqs, ← each_length hv]
  refine ⟨_, _, walk_tup, fun F2 L H e A => sqT_up (e.trans A.ex) h, fun F2 L H i x H' e A hi y => ?_⟩
  obtain ⟨rfl, hx⟩ := y
  obtain ⟨R, h1, h2⟩ := each_at (MonoL.mono _ _ _ e hv) hx
  exact ⟨F2, R, Same.refl _, A, h1, h2⟩
theorem seqs_lst {a : Addr} {vs : List V} {F1 : Hp} [MonoL Rs] (h : SqL K F1 a vs) (hv : Each Rs vs F1) : Seqs (Itl K a) Rs F1 := by
  rw [Seqs, ← each_length hv]
  refine ⟨_, _, walk_list, fun F2 L H e A => sqL_up (e.trans A.ex) h, fun F2 L H i x H' e A hi y => ?_⟩
  obtain ⟨rfl, hx⟩ := y
  obtain ⟨R, h1, h2⟩ := each_at (MonoL.mono _ _ _ e hv) hx
  exact ⟨F2, R, Same.refl _, A, h1, h2⟩
theorem seqs_range {n : Nat} {F1 : Hp} : Seqs (Itr 0 n) ((List.range n).map fun i => Dt K (.int (i : Nat))) F1 := by
  rw [Seqs, List.length_map, List.length_range]
  refine ⟨_, _, walk_range, fun F2 L H e A => True.intro, fun F2 L H i x H' e A hi y => ?_⟩
  obtain ⟨rfl, rfl⟩ := y
  refine ⟨F2, Dt K (.int (i : Nat)), Same.refl _, A, by simp [hi], ?_⟩
  show Dp K F2 (.int (0 + (i : Int))) (.int (i : Nat))
  rw [Int.zero_add]
  exact .int _
theorem i_tup [MonoL Rs] (h : Run (te σ) F L (Tp K Rs)) : Run (iTup K te σ) F L (fun J F1 => Seqs J Rs F1) := run_bind (k := te σ) h fun v F1 e1 hv => by
  obtain ⟨a, vs, rfl, hs, hr⟩ := hv
  exact run_ex a (run_and (fun _ _ _ _ _ => rfl) (run_and (fun F2 N H e A => ⟨vs, sqT_up (e.trans A.ex) hs⟩) (run_ret fun F2 e => seqs_tup (sqT_up e hs) (MonoL.mono _ _ _ e hr))))
theorem i_lst [MonoL Rs] (h : Run (te σ) F L (Ls K Rs)) : Run (iList K te σ) F L (fun J F1 => Seqs J Rs F1) := run_bind (k := te σ) h fun v F1 e1 hv => by
  obtain ⟨a, vs, rfl, hs, hr⟩ := hv
  exact run_ex a (run_and (fun _ _ _ _ _ => rfl) (run_and (fun F2 N H e A => ⟨vs, sqL_up (e.trans A.ex) hs⟩) (run_ret fun F2 e => seqs_lst (sqL_up e hs) (MonoL.mono _ _ _ e hr))))
theorem i_range {n : Int} (h : Run (t σ) F L (Each [Dt K (.int n)])) (hn : n ≤ 100000) (h0 : -100000 ≤ n) : Run (iRng1 t σ) F L (fun J F1 => Seqs J ((List.range n.toNat).map fun i => Dt K (.int (i : Nat))) F1) := run_bind (k := t σ) h fun vs F1 e1 hv => by
  obtain ⟨v, rfl, hv1⟩ := each1 hv
  · obtain rfl := dt_int hv1
    exact run_ex n (run_and (fun _ _ _ _ _ => rfl) (run_and (fun _ _ _ _ _ => by omega) (run_and (fun _ _ _ _ _ => by omega) (run_ret fun F2 e => seqs_range))))
/-- a target takes what comes, then the rest -/
def bindG (g : TG) (x : V) (tb : TS) : TS := fun D σ H => g x σ H fun σ2 H2 => tb D σ2 H2
variable {Nx : L2.St → Hp → Cells → Prop} {Rt : VP} {tb u : TS} {g : TG} {wi : TI}
theorem g_name {x : V} (h : RunS tb (σ.set j (some x)) F L Nx Rt) : RunS (bindG (gName j) x tb) σ F L Nx Rt := h
theorem g_pair {j1 j2 : Nat} {x : V} {R1 R2 : VP} (hx : Tp K [R1, R2] x F) [Mono R1] [Mono R2] (h : ∀ v1 v2, R1 v1 F → R2 v2 F → RunS tb ((σ.set j1 (some v1)).set j2 (some v2)) F L Nx Rt) :
    RunS (bindG (gTup K 2 (gCons (gName j1) (gCons (gName j2) gNil))) x tb) σ F L Nx Rt := fun F1 N H e A D q r => by
  obtain ⟨a, vs, rfl, hs, hr⟩ := hx
  obtain ⟨v1, v2, rfl, h1, h2⟩ := each2 hr
  exact ⟨a, [v1, v2], rfl, sqT_up (e.trans A.ex) hs, rfl, v1, [v2], rfl, v2, [], rfl, rfl, h v1 v2 h1 h2 F1 N H e A D q r⟩
/-- for: Inv by the turn, the slots, what stays, the cells -/
theorem s_for (Inv : Nat → L2.St → Hp → Cells → Prop) (h : Run (wi σ) F L (fun J F1 => Seqs J Rs F1)) (h0 : ∀ F1, Same F F1 → Inv 0 σ F1 L)
    (hup : ∀ i σ' F1 F2 L', Same F1 F2 → Inv i σ' F1 L' → Inv i σ' F2 L')
    (hs : ∀ i R x σ' F' L', Same F F' → Rs[i]? = some R → R x F' → Inv i σ' F' L' → RunS (bindG g x tb) σ' F' L' (Inv (i + 1)) Rt)
    (hd : ∀ σ' F' L', Same F F' → Inv Rs.length σ' F' L' → Nx σ' F' L') : RunS (tFor wi g tb) σ F L Nx Rt := fun F1 N H e A D q r =>
  h F1 N H e A _ fun J F2 H2 e2 A2 ⟨G, Y, wk, hG, hY⟩ => by
    refine for_it wk (D := D) (fun i σ' H' => ∃ F' L', Same F2 F' ∧ At F' (L' ++ N) H' ∧ Inv i σ' F' L') ⟨F2, L, Same.refl _, A2, h0 F2 (e.trans e2)⟩ (fun i σ' H' _ ⟨F', L', e', A', _⟩ => hG F' (L' ++ N) H' e' A') ?_ ?_
    · rintro i x σ' H3 H4 hi ⟨F', L', e', A', I⟩ y
      obtain ⟨F3, R, e3, A3, hR, hx⟩ := hY F' (L' ++ N) H3 i x H4 e' A' hi y
      exact hs i R x σ' F3 L' (((e.trans e2).trans e').trans e3) hR hx (hup i σ' F' F3 L' e3 I) F3 N H4 (Same.refl _) A3 { D with nx := fun σ' H' => ∃ F' L', Same F2 F' ∧ At F' (L' ++ N) H' ∧ Inv (i + 1) σ' F' L', ct := fun σ' H' => ∃ F' L', Same F2 F' ∧ At F' (L' ++ N) H' ∧ Inv (i + 1) σ' F' L', bk := D.nx }
        (fun σ5 F5 L5 H5 e5 A5 n => ⟨F5, L5, (e'.trans e3).trans e5, A5, n⟩) fun w F5 H5 e5 A5 n => r w F5 H5 (((e2.trans e').trans e3).trans e5) A5 n
    · rintro σ' H3 ⟨F', L', e', A', I⟩
      exact q σ' F' L' H3 (e2.trans e') A' (hd σ' F' L' ((e.trans e2).trans e') I)
theorem q_for (Inv : Nat → L2.St → Hp → Cells → Prop) (h : Run (wi σ) F L (fun J F1 => Seqs J Rs F1)) (h0 : ∀ F1, Same F F1 → Inv 0 σ F1 L)
    (hup : ∀ i σ' F1 F2 L', Same F1 F2 → Inv i σ' F1 L' → Inv i σ' F2 L')
    (hs : ∀ i R x σ' F' L', Same F F' → Rs[i]? = some R → R x F' → Inv i σ' F' L' → RunS (bindG g x tb) σ' F' L' (Inv (i + 1)) Rt)
    (hd : ∀ σ' F' L', Same F F' → Inv Rs.length σ' F' L' → RunS u σ' F' L' Nx Rt) : RunS (tSeq (tFor wi g tb) u) σ F L Nx Rt :=
  s_seq (s_for (Nx := fun σ' F' L' => Inv Rs.length σ' F' L') Inv h h0 hup hs fun _ _ _ _ i => i) fun σ' F' L' e i => hd σ' F' L' e i
/-- while: W by a number that falls -/
theorem s_while {tc : TT} (W : Nat → L2.St → Hp → Cells → Prop) (m0 : Nat) (h0 : W m0 σ F L) (hup : ∀ m σ' F1 F2 L', Same F1 F2 → W m σ' F1 L' → W m σ' F2 L')
    (hs : ∀ m σ' F' L', Same F F' → W m σ' F' L' → ∃ b, Run (tc σ') F' L' (Eqv b) ∧ (b = true → RunS tb σ' F' L' (fun σ2 F2 L2 => ∃ m', m' < m ∧ W m' σ2 F2 L2) Rt) ∧ (b = false → Nx σ' F' L'))
    (hnx : ∀ σ' F1 F2 L', Same F1 F2 → Nx σ' F1 L' → Nx σ' F2 L') : RunS (tWhile tc tb) σ F L Nx Rt := fun F1 N H e A D q r => by
  refine ⟨fun m σ' H' => ∃ F' L', Same F1 F' ∧ At F' (L' ++ N) H' ∧ W m σ' F' L', ⟨m0, F1, L, Same.refl _, A, hup _ _ _ _ _ e h0⟩, ?_⟩
  rintro m σ' H' ⟨F', L', e', A', w⟩
  obtain ⟨b, hb, h1, h2⟩ := hs m σ' F' L' (e.trans e') w
  refine hb F' N H' (Same.refl _) A' _ fun c F2 H2 e2 A2 hc => ?_
  cases hc
  cases b with
  | true =>
    refine iteT ⟨fun σ2 H2 => ∃ F2 L2 m', m' < m ∧ Same F1 F2 ∧ At F2 (L2 ++ N) H2 ∧ W m' σ2 F2 L2, fun σ2 H2 ⟨F2, L2, m', hm, e3, A3, w3⟩ => ⟨m', hm, F2, L2, e3, A3, w3⟩, ?_⟩
    exact h1 rfl F2 N H2 e2 A2 _ (fun σ3 F3 L3 H3 e3 A3 ⟨m', hm, w3⟩ => ⟨F3, L3, m', hm, (e'.trans e2).trans e3, A3, w3⟩) fun v F3 H3 e3 A3 n => r v F3 H3 ((e'.trans e2).trans e3) A3 n
  | false => exact iteF (q σ' F2 L' H2 (e'.trans e2) A2 (hnx _ _ _ _ e2 (h2 rfl)))
theorem q_while {tc : TT} (W : Nat → L2.St → Hp → Cells → Prop) (m0 : Nat) (h0 : W m0 σ F L) (hup : ∀ m σ' F1 F2 L', Same F1 F2 → W m σ' F1 L' → W m σ' F2 L')
    (hs : ∀ m σ' F' L', Same F F' → W m σ' F' L' → ∃ b, Run (tc σ') F' L' (Eqv b) ∧ (b = true → RunS tb σ' F' L' (fun σ2 F2 L2 => ∃ m', m' < m ∧ W m' σ2 F2 L2) Rt) ∧ (b = false → RunS u σ' F' L' Nx Rt)) : RunS (tSeq (tWhile tc tb) u) σ F L Nx Rt :=
  s_seq (Mid := fun σ' F' L' => RunS u σ' F' L' Nx Rt) (s_while W m0 h0 hup hs fun σ' F1 F2 L' e n => n.up e) fun _ _ _ _ n => n

/-! ### comprehensions -/
/-- a target that takes what comes; then the slots are such -/
def RunG (g : TG) (x : V) (σ : L2.St) (F : Hp) (L : Cells) (P : L2.St → Hp → Prop) : Prop := ∀ F1 N H, Same F F1 → At F1 (L ++ N) H → ∀ Q : L2.St → Hp → Prop, (∀ σ2 F2 H2, Same F1 F2 → At F2 (L ++ N) H2 → P σ2 F2 → Q σ2 H2) → g x σ H Q
theorem rg_name {x : V} {P : L2.St → Hp → Prop} (h : ∀ F1, Same F F1 → P (σ.set j (some x)) F1) : RunG (gName j) x σ F L P := fun F1 N H e A Q q => q _ F1 H (Same.refl _) A (h F1 e)
theorem rg_pair {j1 j2 : Nat} {x : V} {R1 R2 : VP} {P : L2.St → Hp → Prop} [Mono R1] [Mono R2] (hx : Tp K [R1, R2] x F) (h : ∀ v1 v2 F1, Same F F1 → R1 v1 F1 → R2 v2 F1 → P ((σ.set j1 (some v1)).set j2 (some v2)) F1) :
    RunG (gTup K 2 (gCons (gName j1) (gCons (gName j2) gNil))) x σ F L P := fun F1 N H e A Q q => by
  obtain ⟨a, vs, rfl, hs, hr⟩ := hx
  obtain ⟨v1, v2, rfl, h1, h2⟩ := each2 hr
  exact ⟨a, [v1, v2], rfl, sqT_up (e.trans A.ex) hs, rfl, v1, [v2], rfl, v2, [], rfl, rfl, q _ F1 H (Same.refl _) A (h v1 v2 F1 e (Mono.go h1 e) (Mono.go h2 e))⟩
theorem filter_take {ι : Type} {f : ι → Bool} {xs : List ι} {i : Nat} {x : ι} (h : xs[i]? = some x) : (xs.take (i + 1)).filter f = (xs.take i).filter f ++ (if f x then [x] else []) := by
  obtain ⟨hl, hx⟩ := List.getElem?_eq_some_iff.mp h
  rw [List.take_succ_eq_append_getElem hl, List.filter_append, hx]
  congr 1
  rw [List.filter_cons]
  cases f x <;> simp
theorem r_lcG {ι : Type} {Ri Re : ι → VP} {f : ι → Bool} {xs : List ι} {tt : TT} {te : TE} {vs : List Nat} [∀ x, Mono (Re x)] (h : Run (wi σ) F L (fun J F1 => Seqs J (xs.map Ri) F1)) (hz : xs.length ≤ 40000)
    (ht : ∀ x v F1, Same F F1 → x ∈ xs → Ri x v F1 → RunG g v (wipe σ vs) F1 L fun σ2 F2 => wipe σ2 vs = wipe σ vs ∧ Run (tt σ2) F2 L (Eqv (f x)) ∧ (f x = true → Run (te σ2) F2 L (Re x))) :
    Run (tLc wi g tt te vs σ) F L (Ln ((xs.filter f).map Re)) := fun F1 N H e A Q q =>
  h F1 N H e A _ fun J F2 H2 e2 A2 ⟨G, Y, wk, hG, hY⟩ D hD => by
    rw [List.length_map] at wk
    refine lc_it wk (Qd := fun H => Q (.ref D) H) (fun i H' => ∃ F' acc, Same F2 F' ∧ At F' ((D, .lst acc) :: (L ++ N)) H' ∧ Each (((xs.take i).filter f).map Re) acc F') ⟨F2, [], Same.refl _, A2.cell hD, by simp [Each]⟩
      (fun i H' _ ⟨F', acc, e', A', _⟩ => hG F' _ H' e' A') ?_ ?_
    · rintro i x H3 H4 hi ⟨F', acc, e', A', hacc⟩ y
      obtain ⟨F3, R, e3, A3, hR, hx⟩ := hY F' _ H3 i x H4 e' A' (by rw [List.length_map]; exact hi) y
      rw [List.getElem?_map] at hR
      have hxi : xs[i]? = some xs[i] := List.getElem?_eq_getElem hi
      rw [hxi] at hR
      cases hR
      have P0 : ((D, HO.lst acc) :: (L ++ N)).Perm (L ++ ((D, .lst acc) :: N)) := List.perm_middle.symm
      have hlen : acc.length ≤ xs.length := by
        rw [each_length hacc, List.length_map]
        exact Nat.le_trans (List.length_filter_le _ _) (List.length_take_le' _ _)
      refine ht xs[i] x F3 (((e.trans e2).trans e').trans e3) (List.getElem_mem hi) hx F3 ((D, .lst acc) :: N) H4 (Same.refl _) (A3.perm P0) _ fun σ2 F4 H5 e4 A4 ⟨hw, hb, hv⟩ => ⟨hw, ?_⟩
      refine hb F4 ((D, .lst acc) :: N) H5 (Same.refl _) A4 _ fun b F5 H6 e5 A5 hb5 => ?_
      cases hb5
      cases hf : f xs[i] with
      | true =>
        refine iteT ?_
        refine (hv hf).up e5 F5 ((D, .lst acc) :: N) H6 (Same.refl _) A5 _ fun y F6 H7 e6 A6 hy => ?_
        have A7 := A6.perm P0.symm
        refine ⟨acc, A7.on1, len_lt (by omega), F6, acc ++ [y], (((e'.trans e3).trans e4).trans e5).trans e6, A7.put, ?_⟩
        rw [filter_take hxi, hf, if_pos rfl, List.map_append]
        exact each_app (Mono.go hacc (((e3.trans e4).trans e5).trans e6)) ⟨hy, True.intro⟩
      | false =>
        refine iteF ⟨F5, acc, ((e'.trans e3).trans e4).trans e5, A5.perm P0.symm, ?_⟩
        rw [filter_take hxi, hf, if_neg Bool.false_ne_true, List.append_nil]
        exact Mono.go hacc ((e3.trans e4).trans e5)
    · rintro H3 ⟨F', acc, e', A', hacc⟩
      rw [List.take_length] at hacc
      have A1 : At F' ((D, .lst acc) :: (L ++ N)) H3 := A'
      exact q (.ref D) (upd F' D (.lst acc)) H3 ((e2.trans e').trans (same_new A1.off1)) A1.keep ⟨D, acc, rfl, upd_same, Mono.go hacc (same_new A1.off1)⟩
end
end Rs

/-! Rs2: enumerate of a tuple, sets of a list, .. at the level of the machine. -/
namespace Rs
open PySem PySem.Spec PyProof.Rows L2
/-! ### enumerate(tuple) -/
set_option maxHeartbeats 1000000 in
theorem enum_new_tup (l : Addr) (items : Array Value) (n : Nat) (dct : Option Addr) (sl : Array (Option Value)) :
    Meets (Builtin.«enumerate.__new__» ⟨[.type "enumerate", .ref l], []⟩) (fun _ R s => s.heap.get? l = some { cls := .type "tuple", dict := dct, data := .seq items n, slots := sl } ∧
      R (.ok (.ret (.ref (s.heap.push { cls := .type "tuple_iterator", data := .fields #[.ref l, .int 0 0] }).objs.size)))
        { s with heap := (s.heap.push { cls := .type "tuple_iterator", data := .fields #[.ref l, .int 0 0] }).push { cls := .type "enumerate", data := .fields #[.none, .bool false, .ref s.heap.objs.size, rawInt 0, .none, .none] } }) :=
  .of_wp fun prog w A R s h => by
    obtain ⟨hp, g, d, tk, os⟩ := s
    obtain ⟨hl, h⟩ := h
    have hsub := sub_enumerate
    have isT : Heap.IsTuple (Shared.heap ⟨hp, g, d, tk, os⟩) l items := ⟨_, hl, rfl, n, rfl⟩
    wp_walk using AutoSeq1.wpAny_loadPart' hl
    refine wpAny_stack_any fun st => wpAny_pure ?_
    split
    · rename_i c _ _ _ _ _
      cases (c == Value.type "enumerate")
      all_goals
        wp_walk using AutoSeq1.wpAny_loadPart' hl, wpAny_pyIter_tuple isT
        exact ⟨_, rfl, h⟩
    · wp_walk using AutoSeq1.wpAny_loadPart' hl, wpAny_pyIter_tuple isT
      exact ⟨_, rfl, h⟩
section
variable {prog : Program} {w : World} {A : Around} {E : Value → Shared → Prop} {s : Shared}
theorem enum_tup {l : Addr} {items : Array Value} {Q : Value → Shared → Prop} (hL : s.heap.IsTuple l items)
    (h : ∀ h', IsEnum h' (s.heap.objs.size + 1) s.heap.objs.size 0 .none → h'.IsTupleIter s.heap.objs.size l 0 → h'.objs.size = s.heap.objs.size + 2 →
      (∀ b o, s.heap.get? b = some o → h'.get? b = some o) → Q (.ref (s.heap.objs.size + 1)) { s with heap := h' }) :
    wpAny (model prog w) A (call (.type "enumerate") [.ref l]) Q E s := by
  obtain ⟨⟨c, dct, dt, sl⟩, hl, hc, n, hd⟩ := hL
  obtain rfl : c = .type "tuple" := hc
  obtain rfl : dt = .seq items n := hd
  refine callType_new F.called_enumerate (by decide) (F.typeCall_enumerate_1 _) (F.newCall_enumerate_1 _) (fun obj => F.args_object_init_2 obj _) F.entry_enumerate_new (enum_new_tup l items n dct sl) ⟨hl, ?_⟩
  have hz : (s.heap.push { cls := .type "tuple_iterator", data := .fields #[.ref l, .int 0 0] }).objs.size = s.heap.objs.size + 1 := Heap.size_push ..
  show _ ∧ _
  rw [hz]
  have he : IsEnum ((s.heap.push { cls := .type "tuple_iterator", data := .fields #[.ref l, .int 0 0] }).push { cls := .type "enumerate", data := .fields #[.none, .bool false, .ref s.heap.objs.size, rawInt 0, .none, .none] }) (s.heap.objs.size + 1) s.heap.objs.size 0 .none := by
    have q := Heap.get?_push_size (s.heap.push { cls := .type "tuple_iterator", data := .fields #[.ref l, .int 0 0] }) (o := { cls := .type "enumerate", data := .fields #[.none, .bool false, .ref s.heap.objs.size, rawInt 0, .none, .none] }) rfl
    rw [hz] at q
    exact q
  exact ⟨⟨_, he, rfl⟩, h _ he ⟨_, Heap.get?_push_of_some _ (Heap.get?_push_size _ rfl), rfl, rfl⟩ (by rw [Heap.size_push, hz]) fun b o x => Heap.get?_push_of_some _ (Heap.get?_push_of_some _ x)⟩
end
/-- each item of the tuple at a in a new pair with its place -/
def ItEt (K : PySem.W.Frag) (a : Addr) : It :=
  ⟨fun i H => ∃ (xs : List V) (x : V), SqT K H a xs ∧ xs[i]? = some x, fun i H v H' => ∃ T x, v = .ref T ∧ H T = none ∧ H' = upd H T (.tup [.int (i : Nat), x]) ∧ ∀ xs, SqT K H a xs → xs[i]? = some x, fun i H => ∃ xs : List V, SqT K H a xs ∧ xs.length = i⟩
theorem turn_et {P : Program} {w : World} {K : PySem.W.Frag} {elts : List Expr} {kk : Nat} {tpos : Pos} (a e it : Addr) :
    Turn P w K (.Tuple elts kk tpos) (ItEt K a) [e, it] e (fun i h => (∃ old, IsEnum h e it ((i : Nat) : Int) old) ∧ h.IsTupleIter it a i ∧ e ≠ it ∧ a ≠ it ∧ a ≠ e) where
  mem := by simp
  obj := fun i h st b hb => by
    obtain ⟨⟨old, he⟩, ⟨o, ho, hc, hd⟩, _⟩ := st
    rcases (by simpa using hb : b = e ∨ b = it) with z | z
    · rw [z]; exact ⟨_, he, fun v q => nomatch q⟩
    · rw [z]; exact ⟨o, ho, fun v q => by rw [hd] at q; cases q⟩
  keep := fun i h h' st k => let ⟨⟨old, he⟩, hi, hne⟩ := st; ⟨⟨old, k e (by simp) _ he⟩, hi.at fun o q => k it (by simp) o q, hne⟩
  item := by
    intro X hP hw hK hc i pins s σ H E I hf st hg
    subst hP hw hK
    obtain ⟨⟨old, he⟩, hit, hne, hai, hae⟩ := st
    obtain ⟨xs, x, hq, hx⟩ := hg
    obtain ⟨its, rv, p, hz⟩ := I.tuple hq
    obtain ⟨u, hu, ru⟩ := rv.get hx
    have hel : e < s.heap.objs.size := Heap.lt_size he
    have hil : it < s.heap.objs.size := by obtain ⟨_, q, _⟩ := hit; exact Heap.lt_size q
    have hh : X.A.in1.handled = none := I.ok.hd hc
    have hlt : i < its.toArray.size := by
      rw [List.size_toArray]; exact (List.getElem?_eq_some_iff.mp hu).1
    have pT : s.heap.IsTuple a its.toArray := p
    refine wpAny_pyNext_enum_itemD (Draws.tuple hh it a hai its.toArray) he ⟨hit, pT⟩ hlt hne (by simp; exact ⟨hne, fun z => hae z.symm⟩) fun x' h' tk hx' ho st' hT hsz hk => ?_
    have exu : x' = u := by
      have q : its.toArray[i]? = some u := by simpa using hu
      rw [hx'] at q
      exact Option.some.inj q
    subst exu
    refine ⟨_, rfl, wpAny_letOwnedTupleGo_enum (s := { s with heap := h', toks := tk + 1 }) ho fun h'' he' sb => ?_⟩
    have hT2 : h''.get? s.heap.objs.size = some { cls := .type "tuple", data := .seq #[.int i tk, x'] } := (sb.2 _ (Nat.ne_of_gt hel)).trans hT
    have new : ObjOk X.prog X.w (upd H s.heap.objs.size (.tup [.int (i : Nat), x])) h'' s.heap.objs.size (.tup [.int (i : Nat), x]) :=
      ⟨by show 2 ≤ sizeLine; decide, [.int i tk, x'], .cons ⟨_, rfl⟩ (.cons ru .nil), ⟨_, hT2, rfl, _, rfl⟩⟩
    have I1 : Inv X pins σ (upd H s.heap.objs.size (.tup [.int (i : Nat), x])) { s with heap := h'', toks := tk + 1 } :=
      I.turnedNew (ch := [e, it]) (fun b ob hb q => (sb.2 b (fun z => hb (by simp [z]))).trans (hk b ob (fun z => hb (by simp [z])) (fun z => hb (by simp [z])) q)) hf (Nat.le_refl _) new
    refine ⟨.ref s.heap.objs.size, _, I1, rfl, ⟨_, x, rfl, I.hok.fresh (Nat.le_refl _), rfl, fun ys hy => by rw [I.tuple_inj hy hq]; exact hx⟩, ⟨⟨x', ?_⟩, st'.1.at fun o q => (sb.2 it (Ne.symm hne)).trans q, hne, hai, hae⟩, fun b hb => ?_⟩
    · rw [show ((i + 1 : Nat) : Int) = (i : Int) + 1 from by omega]
      exact he'
    · have hb' : b < s.heap.objs.size := by
        rcases (by simpa using hb : b = e ∨ b = it) with z | z
        · rw [z]; exact hel
        · rw [z]; exact hil
      rw [upd_ne (Nat.ne_of_lt hb')]
      exact (hf b hb).1
  done := by
    intro X hP hw hK hc i pins s σ H E I hf st hg
    subst hP hw hK
    obtain ⟨⟨old, he⟩, hit, hne, hai, hae⟩ := st
    obtain ⟨xs, hq, hx⟩ := hg
    obtain ⟨its, rv, p, hz⟩ := I.tuple hq
    obtain ⟨f0, f1, f2, f3, f4, f5⟩ := hf it (by simp)
    have hl := rv.length
    have hh : X.A.in1.handled = none := I.ok.hd hc
    have hi : its.toArray.size = i := by rw [List.size_toArray]; omega
    have pT : s.heap.IsTuple a its.toArray := p
    exact wpAny_pyNext_enum_endD (Draws.tuple hh it a hai its.toArray) he ⟨by rw [hi]; exact hit, pT⟩ fun h' eb => ⟨rfl, I.turned (t' := s.toks) (fun b o hb q => eb b o hb q) f0 f1 f3 f4 f5⟩
  self := fun A i s Q E st h => let ⟨⟨_, he⟩, _⟩ := st; wpAny_pyIter_enum he h
def iEnumT (K : PySem.W.Frag) (ta : TA) : TI := fun σ H R => ta σ H fun vs H1 => ∃ a xs, vs = [.ref a] ∧ SqT K H1 a xs ∧ R (ItEt K a) H1
theorem pi_enumT {X : Cx} {e : Expr} {ta : TA} {p pos tpos : Pos} {elts : List Expr} {kk : Nat} (hg : Gl X "enumerate") (hm : X.mg "enumerate" = none) (ha : PA X [e] ta) (hs : starEach [e] X.env = [(false, eval e X.env)] := by rfl) :
    PI X (.Tuple elts kk tpos) (.Call (.Name "enumerate" p) [e] [] pos) (iEnumT X.K ta) := by
  refine ⟨fun pins s σ H R I h => ?_⟩
  refine Call_ (ld_blt I hg hm boot_enumerate (PyProof.Rows.callWith_type1 (thn (ha.run pos pins s σ H _ I h) fun us s1 ⟨vs, H1, I1, r1, q1⟩ => ?_) hs rfl))
  obtain ⟨a, xs, ex, hq, q⟩ := q1
  subst ex
  obtain ⟨u, rfl, ru⟩ := r1.one
  cases (show u = Value.ref a from ru)
  obtain ⟨its, rv, p', hz⟩ := I1.tuple hq
  have pT : s1.heap.IsTuple a its.toArray := p'
  have haL : a < s1.heap.objs.size := p'.lt
  refine enum_tup pT fun h' he hit hsz hk => wpAny_pyIter_enum he ?_
  have I2 : Inv X pins σ H1 { s1 with heap := h' } := I1.kept (t' := s1.toks) hk
  refine ⟨s1.heap.objs.size + 1, [s1.heap.objs.size + 1, s1.heap.objs.size], _, _, H1, rfl, I2, turn_et a (s1.heap.objs.size + 1) s1.heap.objs.size, ⟨⟨.none, he⟩, hit, Nat.succ_ne_self _, Nat.ne_of_lt haL, Nat.ne_of_lt (Nat.lt_succ_of_lt haL)⟩, fun b hb => ?_, q⟩
  have hle : s1.heap.objs.size ≤ b := by
    rcases (by simpa using hb : b = s1.heap.objs.size + 1 ∨ b = s1.heap.objs.size) with z | z
    · rw [z]; exact Nat.le_add_right _ _
    · rw [z]; exact Nat.le_refl _
  exact I1.fpOk hle (I1.hok.fresh hle)
theorem walk_et {K : PySem.W.Frag} {a : Addr} {xs : List V} : Walk (ItEt K a) xs.length (fun H => SqT K H a xs) (YPair (fun i => some (.int (i : Nat))) (fun i => xs[i]?)) := by
  refine ⟨fun i _ hi q => ⟨xs, xs[i], q, by simp [hi]⟩, fun _ q => ⟨xs, q, rfl⟩, fun i H v H' _ q y => ?_⟩
  obtain ⟨T, x, h1, h2, h3, h4⟩ := y
  exact ⟨T, .int (i : Nat), x, h1, h2, h3, rfl, h4 xs q⟩
/-- pairs of a place and what stands there -/
def Pairs (K : PySem.W.Frag) (Rs : List VP) : List VP := Rs.mapIdx fun i R => Tp K [Dt K (.int (i : Nat)), R]
theorem seqs_et {K : PySem.W.Frag} {Rs : List VP} {a : Addr} {vs : List V} {F1 : Hp} [MonoL Rs] (h : SqT K F1 a vs) (hv : Each Rs vs F1) : Seqs (ItEt K a) (Pairs K Rs) F1 := by
  have hl : (Pairs K Rs).length = vs.length := by unfold Pairs; rw [List.length_mapIdx, each_length hv]
  rw [Seqs, hl]
  refine ⟨_, _, walk_et, fun F2 L H e A => sqT_up (e.trans A.ex) h, fun F2 L H i x H' e A hi y => ?_⟩
  obtain ⟨T, x1, x2, rfl, hT, rfl, h1, h2⟩ := y
  cases h1
  obtain ⟨R, g1, g2⟩ := each_at (MonoL.mono _ _ _ (e.trans (same_new (A.free hT))) hv) h2
  exact ⟨upd F2 T _, Tp K [Dt K (.int (i : Nat)), R], same_new (A.free hT), A.new hT, by unfold Pairs; rw [List.getElem?_mapIdx, g1]; rfl, T, _, rfl, .inl (.inl upd_same), .int _, g2, True.intro⟩
theorem i_enumT {K : PySem.W.Frag} {σ : L2.St} {F : Hp} {L : Cells} {Rs : List VP} {t : TA} [MonoL Rs] (h : Run (t σ) F L (Each [Tp K Rs])) : Run (iEnumT K t σ) F L (fun J F1 => Seqs J (Pairs K Rs) F1) := run_bind (k := t σ) h fun vs F1 e1 hv => by
  obtain ⟨v, rfl, a, ws, rfl, hs, hr⟩ := each1 hv
  · exact run_ex a (run_ex ws (run_and (fun _ _ _ _ _ => rfl) (run_and (fun F2 N H e A => sqT_up (e.trans A.ex) hs) (run_ret fun F2 e => seqs_et (sqT_up e hs) (MonoL.mono _ _ _ e hr)))))
end Rs

/-! Rs3: set(a list of ints), sorted of it. -/
namespace Rs
open PySem PySem.Spec PyProof.Rows L2
section
variable {P : Program} {w : World} {A : Around} {E : Value → Shared → Prop} {s : Shared}
/-- the heap with a fresh set at its end -/
def withSet (w : World) (h : Heap) : Heap := h.push { cls := .type "set", dict := none, data := .set #[] 0 (.fresh 0 0 (!w.params.followText "set-order")) }
set_option maxHeartbeats 3200000 in
theorem set_listI {l : Addr} {items : Array Value} (ns : List Int) {Q : Value → Shared → Prop} (hh : A.handled = none) (hl : s.heap.IsList l items) (hit : IntsAre items.toList ns) (hb : ns.length + 1 < scanBound)
    (h : ∀ (h' : Heap) (tk c : Nat), SetR w h' s.heap.objs.size (fun j => decide (j ∈ ns)) c → c ≤ ns.length → (∀ b o, s.heap.get? b = some o → h'.get? b = some o) → Q (.ref s.heap.objs.size) { s with heap := h', toks := tk }) :
    wpAny (model P w) A (call (.type "set") [.ref l]) Q E s := by
  have isz : items.size = ns.length := (Array.length_toList (xs := items)).symm.trans (IntsAre.length hit)
  obtain ⟨c0, tl0, hmro⟩ := F.called_set.mro
  have k1 := F.called_set.made
  have k2 := F.called_set.sub
  refine wpAny_call (codeAny_of_tree ?_)
  show wpAny _ _ (callAny (.type "set") _) _ _ _
  refine wpAny_pure ⟨Code.quiet_builtin _ (by decide +kernel), codeAny_builtin F.entry_type_call ?_⟩
  rw [Around.under_plain (weight_type_call_type "set" [.ref l] []) rfl]
  have k3 := F.called_set.notType
  have k4 := F.called_set.canCreate
  have k5 := F.typeCall_set_1 (.ref l)
  repeat (any_goals (first | assumption | wp_step))
  refine codeAny_mono (code_set_led1 (.ref l) (E := E) (Q₁ := fun obj s₁ => obj = .ref s.heap.objs.size ∧ s₁ = { s with heap := withSet w s.heap }) ⟨rfl, rfl⟩) fun r s₁ hr => ?_
  match r, hr with
  | .error e, hr => exact hr
  | .ok (.next), hr => exact hr.elim
  | .ok (.brk), hr => exact hr.elim
  | .ok (.cont), hr => exact hr.elim
  | .ok (.ret obj), hr =>
    obtain ⟨rfl, rfl⟩ := hr
    have atS : (withSet w s.heap).get? s.heap.objs.size = some { cls := .type "set", dict := none, data := .set #[] 0 (.fresh 0 0 (!w.params.followText "set-order")) } := Heap.get?_push_size _ rfl
    have tyS : Shared.TypeIs { s with heap := withSet w s.heap } (.ref s.heap.objs.size) "set" := ⟨_, atS, rfl⟩
    have k6 := F.called_set.init.lookup
    have k7 := F.called_set.init.bind (.ref s.heap.objs.size)
    repeat (any_goals (first | assumption | wp_step))
    refine codeAny_mono (codeAny_call_builtin (R := wants (fun r s₂ => r = .none ∧ ∃ h' tk c, s₂ = { s with heap := h', toks := tk } ∧ SetR w h' s.heap.objs.size (fun j => decide (j ∈ ns)) c ∧ c ≤ ns.length ∧
        (∀ b o, s.heap.get? b = some o → h'.get? b = some o)) E) F.called_set.init.plain F.entry_set_init (check_set_init_1 tyS ?_)) fun r₂ s₂ hr₂ => ?_
    · obtain ⟨⟨oc, od, odt, osl⟩, hol, hcl, nl, hdl⟩ := hl
      obtain rfl : oc = .type "list" := hcl
      obtain rfl : odt = .seq items nl := hdl
      have kept : ∀ b o, s.heap.get? b = some o → (withSet w s.heap).get? b = some o := fun b o e => Heap.get?_push_of_some _ e
      have hol' := kept _ _ hol
      have k8 := F.sub_list_set
      have k9 := F.sub_list_frozenset
      have k10 : (Value.type "list" == Value.type "dict") = false := by decide
      have isL : (withSet w s.heap).IsList l items := ⟨_, hol', rfl, nl, rfl⟩
      have sz1 : (withSet w s.heap).objs.size = s.heap.objs.size + 1 := Heap.size_push ..
      unfold Builtin.«set.__init__» noKeywords Builtin.Frozenset.updateFrom
      generalize hPI : pyIter = PI
      wp_walk
      subst hPI
      refine wpAny_pyIter_list isL ?_
      refine wpAny_bind (wpAny_runValue ?_)
      have lS : l < s.heap.objs.size := Heap.lt_size hol
      have hh3 : A.in1.in1.in1.handled = none := hh
      have neI : l ≠ (withSet w s.heap).objs.size := by rw [sz1]; exact Nat.ne_of_lt (Nat.lt_succ_of_lt lS)
      have nfp : s.heap.objs.size ∉ [(withSet w s.heap).objs.size, l] := by
        rw [sz1]
        simp only [List.mem_cons, List.not_mem_nil, or_false, not_or]
        exact ⟨Nat.ne_of_lt (Nat.lt_succ_self _), Nat.ne_of_gt lS⟩
      have vals : ∀ (i : Nat) (v : Value), items[i]? = some v → ∃ k t, ns[i]? = some k ∧ v = .int k t := fun i v hv => by
        have hi : i < ns.length := isz ▸ (Array.getElem?_eq_some_iff.mp hv).1
        obtain ⟨t, e⟩ := IntsAre.int_at hit i v (by rw [Array.getElem?_toList]; exact hv)
        exact ⟨ns[i], t, List.getElem?_eq_getElem hi, by rw [e, List.getD_eq_getElem?_getD, List.getElem?_eq_getElem hi]; rfl⟩
      refine set_update_ints ((Walks.list hh3 _ l neI items).toS) s.heap.objs.size nfp ns isz hb vals (items.size - 0) 0 _ (by omega) (Nat.zero_le _) ⟨⟨_, Heap.get?_push_size _ rfl, rfl, rfl⟩, (isL.push _)⟩ ?S0 ?S1
      case S0 => exact ⟨0, Nat.le_refl 0, setR_new_at (Heap.get?_push_of_some _ atS)⟩
      case S1 =>
        intro s' c' hm hc' hS'
        obtain ⟨h', g2, d', tk', os'⟩ := s'
        obtain rfl : g2 = s.gens := hm.gens
        obtain rfl : d' = s.drawn := hm.drawn
        obtain rfl : os' = s.os := hm.os
        show wpAny _ _ _ _ _ _
        refine wpAny_pure ?_
        show wpAny _ _ (ret Value.none) _ _ _
        refine wpAny_pure ⟨rfl, h', tk', c', rfl, hS', isz ▸ hc', fun b o e => ?_⟩
        have hb0 : b < s.heap.objs.size := Heap.lt_size e
        refine hm.heap b o ?_ (Heap.get?_push_of_some _ (kept b o e))
        simp only [List.mem_cons, List.not_mem_nil, or_false, not_or]
        exact ⟨Nat.ne_of_lt hb0, by rw [sz1]; exact Nat.ne_of_lt (Nat.lt_succ_of_lt hb0)⟩
    · match r₂, hr₂ with
      | .error e, hr₂ => exact hr₂
      | .ok (.next), hr₂ => exact hr₂.elim
      | .ok (.brk), hr₂ => exact hr₂.elim
      | .ok (.cont), hr₂ => exact hr₂.elim
      | .ok (.ret r), hr₂ =>
        obtain ⟨rfl, h', tk, c', rfl, hS', hc', hk'⟩ := hr₂
        repeat (any_goals (first | assumption | wp_step))
        exact h _ _ _ hS' hc' hk'
end
section
variable {X : Cx}
theorem len_scan {n : Nat} (h : n ≤ 1000) : n + 1 < scanBound := Nat.lt_of_le_of_lt (Nat.succ_le_succ h) (by decide)
theorem ints_of {ns : List Int} {us : List Value} (r : Vals (ns.map V.int) us) : IntsAre us ns := Vals.ints r
/-- set(xs), xs a list or a tuple of at most 1000 ints -/
def rSetI (K : PySem.W.Frag) (w : World) : List V → Hp → VK → Prop := fun vs H Q => ∃ (a : Addr) (ns : List Int), vs = [.ref a] ∧ (SqL K H a (ns.map V.int) ∨ SqT K H a (ns.map V.int)) ∧ ns.length ≤ 1000 ∧
  ∀ p c, c ≤ ns.length → H p = none → Q (.ref p) (upd H p (SetO w p (fun j => decide (j ∈ ns)) c))
theorem cr_setI (hc : X.calm = true) : CallR X (.type "set") (rSetI X.K X.w) := by
  intro pins s σ H vs us Q I r h
  obtain ⟨a, ns, rfl, hs, hl, q⟩ := h
  rw [Vals.ref1 r]
  have fin : ∀ (h' : Heap) (tk c : Nat), SetR X.w h' s.heap.objs.size (fun j => decide (j ∈ ns)) c → c ≤ ns.length → (∀ b o, s.heap.get? b = some o → h'.get? b = some o) → EP X pins σ Q (.ref s.heap.objs.size) { s with heap := h', toks := tk } := fun h' tk c hS hc' hk =>
    ⟨.ref _, _, I.laid (t' := tk) hk (Nat.le_refl _) (setO_new hS), rfl, q _ c hc' (I.hok.fresh (Nat.le_refl _))⟩
  rcases hs with hs | hs
  · obtain ⟨its, rv, ⟨o, n, e, c, d, hd⟩, _⟩ := I.list hs
    exact set_listI ns (I.ok.hd hc) ⟨o, e, c, n, hd⟩ (ints_of rv) (len_scan hl) fin
  · obtain ⟨its, rv, p, _⟩ := I.tuple hs
    exact call_set_tupI ns (I.ok.hd hc) (show s.heap.IsTuple a its.toArray from p) (ints_of rv) (len_scan hl) fin
end
/-- a set of ints that stands -/
def St (w : World) (ns : List Int) : VP := fun v F => ∃ a c, v = .ref a ∧ c ≤ ns.length ∧ F a = some (SetO w a (fun j => decide (j ∈ ns)) c)
instance {w : World} {ns : List Int} : Mono (St w ns) := ⟨fun _ _ _ e ⟨a, c, h, l, r⟩ => ⟨a, c, h, l, e _ _ r⟩⟩
/-- a row of ints, as a list or a tuple -/
def seqI (ns : List Int) (v : V) (F : Hp) (K : PySem.W.Frag) : Prop := ∃ a, v = .ref a ∧ (SqL K F a (ns.map V.int) ∨ SqT K F a (ns.map V.int))
theorem seqI_t {K : PySem.W.Frag} {ns : List Int} {v : V} {F : Hp} (h : Dt K (.tuple (ns.map .int)) v F) : seqI ns v F K := by
  cases h with
  | tup s r => exact ⟨_, rfl, .inr (vs_ints r ▸ s)⟩
theorem seqI_l {K : PySem.W.Frag} {ns : List Int} {v : V} {F : Hp} (h : Dt K (.list (ns.map .int)) v F) : seqI ns v F K := by
  cases h with
  | lst s r => exact ⟨_, rfl, .inl (vs_ints r ▸ s)⟩
section
variable {K : PySem.W.Frag} {w : World} {σ : L2.St} {F : Hp} {L : Cells} {t : TA} {ns : List Int}
theorem r_set {R : VP} (h : Run (t σ) F L (Each [R])) (hr : ∀ v F1, R v F1 → seqI ns v F1 K) (hl : ns.length ≤ 1000) : Run (tCB (rSetI K w) t σ) F L (St w ns) := r_cb h fun vs F1 e1 hv => by
  obtain ⟨v, rfl, hv1⟩ := each1 hv
  obtain ⟨a, rfl, hs⟩ := hr v F1 hv1
  refine run_ex a (run_ex ns (run_and (fun _ _ _ _ _ => rfl) (run_and (fun F2 N H e A => hs.imp (sqL_up (e.trans A.ex)) (sqT_up (e.trans A.ex))) (run_and (fun _ _ _ _ _ => hl) ?_))))
  exact fun F2 N H e2 A Q q p c hc hp => q _ (upd F2 p _) _ (same_new (A.free hp)) (A.new hp) ⟨p, c, rfl, hc, upd_same⟩
theorem r_sortedSet (h : Run (t σ) F L (Each [St w ns])) (hl : ns.length < 64) (os : List Int) (h1 : os.Pairwise (· < ·)) (h2 : ∀ k, k ∈ os ↔ k ∈ ns) : Run (tCB (rSortedSet w) t σ) F L (Dt K (.list (os.map .int))) := r_cb h fun vs F1 e1 hv => by
  obtain ⟨v, rfl, a, c, rfl, hc, hs⟩ := each1 hv
  refine run_ex a (run_ex _ (run_ex c (run_and (fun _ _ _ _ _ => rfl) (run_and (fun F2 N H e A => A.ex _ _ (e _ _ hs)) (run_and (fun _ _ _ _ _ => by omega) ?_)))))
  refine fun F2 N H e2 A Q q ms p hp hm hlen hn => q _ (upd F2 p _) _ (same_new (A.free hn)) (A.new hn) ?_
  have e : ms = os := by
    refine List.Perm.eq_of_pairwise (le := (· < ·)) (fun a b _ _ x y => absurd x (Int.lt_asymm y)) hp h1 ((List.perm_ext_iff_of_nodup (hp.imp fun x => Int.ne_of_lt x) (h1.imp fun x => Int.ne_of_lt x)).mpr fun k => ?_)
    rw [hm k, h2 k, decide_eq_true_eq]
  rw [e]
  exact .lst (.inl (.inl upd_same)) ints_vs
end
end Rs

/-! Rs4: short words for calls of what is built in, of defs, of classes with slots. -/
namespace Rs
open PySem PySem.Spec PyProof.Rows L2 SlX
/-- the names that are still the built-in ones -/
structure Bf (mg : Str → Option Value) : Prop where
  len : mg "len" = none
  range : mg "range" = none
  list : mg "list" = none
  tuple : mg "tuple" = none
  set : mg "set" = none
  sorted : mg "sorted" = none
  all : mg "all" = none
  isinstance : mg "isinstance" = none
  int : mg "int" = none
  bool : mg "bool" = none
  enumerate : mg "enumerate" = none
  zip : mg "zip" = none
  min : mg "min" = none
  max : mg "max" = none
  abs : mg "abs" = none
  str : mg "str" = none
  repr : mg "repr" = none
  dict : mg "dict" = none
section
variable {X : Cx} {e o : Expr} {es : List Expr} {ta te : TE} {t : TA} {p pos apos : Pos} {f m x : Str} {K : PySem.W.Frag}
/-- len of a text, a list, a tuple, a dict by ints and texts -/
def rLn (K : PySem.W.Frag) : List V → Hp → VK → Prop := fun xs H Q => (∃ x n, xs = [x] ∧ LenV K x H n ∧ Q (.int n) H) ∨ ∃ a kvs, xs = [V.ref a] ∧ H a = some (.dK kvs) ∧ Q (.int kvs.length) H
theorem p_len (B : Bf X.mg) (ha : PA X (e :: es) t) (hg : Gl X "len" := by rfl) (he : starEach (e :: es) X.env = (false, eval e X.env) :: starEach es X.env := by rfl) (hpl : (backTo pos (starEach es X.env)).any (·.1) = false := by rfl) :
    PE X (.Call (.Name "len" p) (e :: es) [] pos) (tCB (rLn X.K) t) := pe_callB (CallR.or call_len call_lenD) hg B.len PySem.boot_len ha (by decide) (by decide) he hpl
theorem p_all (hc : X.calm = true) (B : Bf X.mg) (ha : PA X (e :: es) t) (hg : Gl X "all" := by rfl) (he : starEach (e :: es) X.env = (false, eval e X.env) :: starEach es X.env := by rfl) (hpl : (backTo pos (starEach es X.env)).any (·.1) = false := by rfl) :
    PE X (.Call (.Name "all" p) (e :: es) [] pos) (tCB (rAll X.K) t) := pe_callB (cr_all hc) hg B.all boot_all ha (by decide) (by decide) he hpl
theorem p_isi (B : Bf X.mg) (ha : PA X (e :: es) t) (hg : Gl X "isinstance" := by rfl) (he : starEach (e :: es) X.env = (false, eval e X.env) :: starEach es X.env := by rfl) (hpl : (backTo pos (starEach es X.env)).any (·.1) = false := by rfl) :
    PE X (.Call (.Name "isinstance" p) (e :: es) [] pos) (tCB (rIsi X.K) t) := pe_callB call_isi hg B.isinstance PyProof.Rows.boot_isinstance ha (by decide) (by decide) he hpl
theorem p_isiS (u : Value) (B : Bf X.mg) (ha : PA X (e :: es) t) (hg : Gl X "isinstance" := by rfl) (he : starEach (e :: es) X.env = (false, eval e X.env) :: starEach es X.env := by rfl) (hpl : (backTo pos (starEach es X.env)).any (·.1) = false := by rfl) :
    PE X (.Call (.Name "isinstance" p) (e :: es) [] pos) (tCB (fun xs H Q => rIsi X.K xs H Q ∨ rIsiSl X.K u xs H Q) t) := pe_callB (CallR.or call_isi (call_isiSl u)) hg B.isinstance PyProof.Rows.boot_isinstance ha (by decide) (by decide) he hpl
theorem p_set (hc : X.calm = true) (B : Bf X.mg) (ha : PA X (e :: es) t) (hg : Gl X "set" := by rfl) (he : starEach (e :: es) X.env = (false, eval e X.env) :: starEach es X.env := by rfl) (hpl : (backTo pos (starEach es X.env)).any (·.1) = false := by rfl) :
    PE X (.Call (.Name "set" p) (e :: es) [] pos) (tCB (rSetI X.K X.w) t) := pe_callTy (cr_setI hc) hg B.set PyProof.Rows.boot_set ha (by decide) (by decide) he hpl
theorem p_sortedSet (hc : X.calm = true) (B : Bf X.mg) (ha : PA X (e :: es) t) (hg : Gl X "sorted" := by rfl) (he : starEach (e :: es) X.env = (false, eval e X.env) :: starEach es X.env := by rfl) (hpl : (backTo pos (starEach es X.env)).any (·.1) = false := by rfl) :
    PE X (.Call (.Name "sorted" p) (e :: es) [] pos) (tCB (rSortedSet X.w) t) := pe_callB (cr_sortedSet hc) hg B.sorted boot_sorted ha (by decide) (by decide) he hpl
theorem p_sortedL (B : Bf X.mg) (ha : PA X (e :: es) t) (hg : Gl X "sorted" := by rfl) (he : starEach (e :: es) X.env = (false, eval e X.env) :: starEach es X.env := by rfl) (hpl : (backTo pos (starEach es X.env)).any (·.1) = false := by rfl) :
    PE X (.Call (.Name "sorted" p) (e :: es) [] pos) (tCB (rSorted X.K) t) := pe_callB cr_sorted hg B.sorted boot_sorted ha (by decide) (by decide) he hpl
/-- sorted of a dict by ints -/
def rSortedDI : List V → Hp → VK → Prop := fun xs H Q => ∃ (a : Addr) (kvs : List (Key × V)) (ks : List Int), xs = [.ref a] ∧ Rd H a (.dK kvs) ∧ kvs.map (·.1) = ks.map Sum.inl ∧ ks.length < 64 ∧
    ∀ (ys : List Int) (p : Addr), ys.Perm ks → ys.Pairwise (· ≤ ·) → H p = none → Q (.ref p) (upd H p (.lst (ys.map V.int)))
theorem p_sortedDI (hc : X.calm = true) (B : Bf X.mg) (ha : PA X (e :: es) t) (hg : Gl X "sorted" := by rfl) (he : starEach (e :: es) X.env = (false, eval e X.env) :: starEach es X.env := by rfl) (hpl : (backTo pos (starEach es X.env)).any (·.1) = false := by rfl) :
    PE X (.Call (.Name "sorted" p) (e :: es) [] pos) (tCB rSortedDI t) := pe_callB (call_sortedDI hc) hg B.sorted boot_sorted ha (by decide) (by decide) he hpl
def rListOf (K : PySem.W.Frag) : List V → Hp → VK → Prop := fun xs H Q => ∃ p ys, xs = [.ref p] ∧ (SqL K H p ys ∨ SqT K H p ys) ∧ ∀ l, H l = none → Q (.ref l) (upd H l (.lst ys))
theorem p_list (B : Bf X.mg) (ha : PA X (e :: es) t) (hg : Gl X "list" := by rfl) (he : starEach (e :: es) X.env = (false, eval e X.env) :: starEach es X.env := by rfl) (hpl : (backTo pos (starEach es X.env)).any (·.1) = false := by rfl) :
    PE X (.Call (.Name "list" p) (e :: es) [] pos) (tCB (rListOf X.K) t) := pe_callTy call_list_of hg B.list PyProof.Rows.boot_list ha (by decide) (by decide) he hpl
def rTupOf (K : PySem.W.Frag) : List V → Hp → VK → Prop := fun xs H Q => ∃ p ys, xs = [.ref p] ∧ ((SqL K H p ys ∧ ∀ l, H l = none → Q (.ref l) (upd H l (.tup ys))) ∨ (SqT K H p ys ∧ Q (.ref p) H))
theorem p_tuple (B : Bf X.mg) (ha : PA X (e :: es) t) (hg : Gl X "tuple" := by rfl) (he : starEach (e :: es) X.env = (false, eval e X.env) :: starEach es X.env := by rfl) (hpl : (backTo pos (starEach es X.env)).any (·.1) = false := by rfl) :
    PE X (.Call (.Name "tuple" p) (e :: es) [] pos) (tCB (rTupOf X.K) t) := pe_callTy call_tuple_of hg B.tuple PyProof.Rows.boot_tuple ha (by decide) (by decide) he hpl
def rIntOf : List V → Hp → VK → Prop := fun xs H Q => (∃ i, xs = [.int i] ∧ Q (.int i) H) ∨ ∃ k, xs = [.bl k] ∧ Q (.int (if k then 1 else 0)) H
theorem p_int (B : Bf X.mg) (ha : PA X (e :: es) t) (hg : Gl X "int" := by rfl) (he : starEach (e :: es) X.env = (false, eval e X.env) :: starEach es X.env := by rfl) (hpl : (backTo pos (starEach es X.env)).any (·.1) = false := by rfl) :
    PE X (.Call (.Name "int" p) (e :: es) [] pos) (tCB rIntOf t) := pe_callTy call_int1 hg B.int PyProof.Rows.boot_int ha (by decide) (by decide) he hpl
def rAbs : List V → Hp → VK → Prop := fun xs H Q => ∃ i, xs = [.int i] ∧ Q (.int (if i < 0 then -i else i)) H
theorem p_abs (B : Bf X.mg) (ha : PA X (e :: es) t) (hg : Gl X "abs" := by rfl) (he : starEach (e :: es) X.env = (false, eval e X.env) :: starEach es X.env := by rfl) (hpl : (backTo pos (starEach es X.env)).any (·.1) = false := by rfl) :
    PE X (.Call (.Name "abs" p) (e :: es) [] pos) (tCB rAbs t) := pe_callB call_abs hg B.abs PyProof.Rows.boot_abs ha (by decide) (by decide) he hpl
def rMin2 : List V → Hp → VK → Prop := fun xs H Q => ∃ i j, xs = [.int i, .int j] ∧ Q (.int (if j < i then j else i)) H
theorem p_min2 (hc : X.calm = true) (B : Bf X.mg) (ha : PA X (e :: es) t) (hg : Gl X "min" := by rfl) (he : starEach (e :: es) X.env = (false, eval e X.env) :: starEach es X.env := by rfl) (hpl : (backTo pos (starEach es X.env)).any (·.1) = false := by rfl) :
    PE X (.Call (.Name "min" p) (e :: es) [] pos) (tCB rMin2 t) := pe_callB (call_min2 hc) hg B.min PyProof.Rows.boot_min ha (by decide) (by decide) he hpl
def rMax2 : List V → Hp → VK → Prop := fun xs H Q => ∃ i j, xs = [.int i, .int j] ∧ Q (.int (if j > i then j else i)) H
theorem p_max2 (hc : X.calm = true) (B : Bf X.mg) (ha : PA X (e :: es) t) (hg : Gl X "max" := by rfl) (he : starEach (e :: es) X.env = (false, eval e X.env) :: starEach es X.env := by rfl) (hpl : (backTo pos (starEach es X.env)).any (·.1) = false := by rfl) :
    PE X (.Call (.Name "max" p) (e :: es) [] pos) (tCB rMax2 t) := pe_callB (call_max2 hc) hg B.max PyProof.Rows.boot_max ha (by decide) (by decide) he hpl
/-- a built-in type's name -/
theorem p_ty {T : String} {x : Str} (hg : Gl X x) (hm : X.mg x = none) (hv : bootBuiltins x = some (.type T)) (hn : x ≠ "__name__" := by decide) (hd : (x == ("__debug__" : Str)) = false := by decide) : PE X (.Name x pos) (tC (.ty T)) := pe_bltn hg hm hv rfl hn hd
theorem p_cls {C : Addr} {x : Str} (hg : Gl X x) (hm : X.mg x = some (.ref C)) (hd : (x == ("__debug__" : Str)) = false := by decide) : PE X (.Name x pos) (tC (.ref C)) := pe_glob hg hm rfl hd
/-- a module's own int -/
def GInt (mg : Str → Option Value) (x : Str) (i : Int) : Prop := ∃ t, mg x = some (.int i t)
theorem p_gint {i : Int} {x : Str} (h : GInt X.mg x i) (hg : Gl X x := by rfl) (hd : (x == ("__debug__" : Str)) = false := by decide) : PE X (.Name x pos) (tC (.int i)) := by
  obtain ⟨t, h⟩ := h
  exact pe_glob hg h ⟨t, rfl⟩ hd
/-- a def called -/
structure Gf (P : Program) (w : World) (K : PySem.W.Frag) (mg : Str → Option Value) (base : Heap) (k : Nat) (x : Str) (sp : Sp) : Prop where
  ex : ∃ f fd ps, FnOk P w K mg base CX0 k f fd ps sp ∧ mg x = some (.ref f) ∧ PySem.W.keepIn K (.ref f) = true ∧ Binds K fd ps []
theorem p_call {k j : Nat} {sp : Sp} (c : Gf X.prog X.w X.K X.mg X.base k f sp) (hr : Room j X.A) (hk : k ≤ j) (ha : PA X (e :: es) t) (hg : Gl X f := by rfl)
    (hdb : (f == ("__debug__" : Str)) = false := by decide) (he : starEach (e :: es) X.env = (false, eval e X.env) :: starEach es X.env := by rfl) (hpl : (backTo pos (starEach es X.env)).any (·.1) = false := by rfl) :
    PE X (.Call (.Name f p) (e :: es) [] pos) (tCall sp [] E0 t) := by
  obtain ⟨g, fd, ps, F, hm, kp, b⟩ := c.ex
  exact pe_call F (hr.mono hk) hg hm kp b .nil pass0 ha hdb he hpl
/-- a method, a property of a class with slots -/
structure MetS (P : Program) (w : World) (K : PySem.W.Frag) (mg : Str → Option Value) (base : Heap) (k : Nat) (C : Addr) (m : Str) (sp : Sp) : Prop where
  ex : ∃ g, SCls K C ∧ Meth K C m g ∧ FnR P w K mg base CX0 k g sp
structure PrpS (P : Program) (w : World) (K : PySem.W.Frag) (mg : Str → Option Value) (base : Heap) (k : Nat) (C : Addr) (m : Str) (sp : Sp) : Prop where
  ex : ∃ p g, SCls K C ∧ PySem.W.findIn K (.ref C) m = some (some (.ref p)) ∧ PySem.W.specialIn K (.ref p) "__get__" = some (some (.builtin "property.__get__")) ∧ PySem.W.takesIn K (.ref p) = some true ∧
    (∃ rest, PySem.W.recIn K p "property" = some (.ref g :: rest)) ∧ FnR P w K mg base CX0 k g sp
theorem p_met {k j : Nat} {C : Addr} {sp : Sp} {pl : Sem Bool} (c : MetS X.prog X.w X.K X.mg X.base k C m sp) (hr : Room j X.A) (hk : k ≤ j) (he : PE X o ta) (ha : PA X (e :: es) t)
    (hst : starEach (e :: es) X.env = (false, eval e X.env) :: starEach es X.env := by rfl) (hpl : (backTo pos (starEach es X.env)).any (·.1) = false := by rfl)
    (ht : eval (.Call (.Attribute o m apos) (e :: es) [] pos) X.env = (do
      let ov ← eval o X.env
      standAt apos.atName
      let (f, first) ← holding [ov] (getMethod ov m pl)
      callWith pos f first (backTo pos (starEach (e :: es) X.env)) (backToKw pos (keywordEach [] X.env))) := by rfl) :
    PE X (.Call (.Attribute o m apos) (e :: es) [] pos) (tMethSl C sp E0 ta t) := by
  obtain ⟨g, sc, me, F⟩ := c.ex
  exact pe_methSl (pl := pl) he sc me F (hr.mono hk) pass0 ha hst hpl ht
theorem p_prp {k j : Nat} {C : Addr} {sp : Sp} (c : PrpS X.prog X.w X.K X.mg X.base k C f sp) (hr : Room j X.A) (hk : k + 1 ≤ j) (he : PE X e ta) (hb : attributeBase e f X.env (eval e X.env) = eval e X.env := by rfl) :
    PE X (.Attribute e f pos) (tPropSl C sp E0 ta) := by
  obtain ⟨p, g, sc, h1, h2, h3, h4, F⟩ := c.ex
  exact pe_propSl he sc h1 h2 h3 h4 F (hr.mono hk) (fun _ _ _ _ h => h.elim) hb
end
end Rs

/-! Rs5: a def keeps its promise; runs of the short words. -/
namespace Rs
open PySem PySem.Spec PyProof.Rows L2 SlX StX
section
variable {P : Program} {w : World} {K : PySem.W.Frag} {mg : Str → Option Value} {base : Heap}
theorem gf_ok {x qual : Str} {st : Stmt} {f : Addr} {fd : FuncData} {N ps : List Str} {k : Nat} {γ : Type} {pre : γ → Prop} {Rs : γ → List VP} {R : γ → VP} (F : Fun K x qual st f fd) (S : FnScope N ps (defScope st)) (len : ∀ g, (Rs g).length = ps.length)
    (body : ∀ (cdv : Value) (A : Around) (outer : List Env) (s : Shared) (H : Hp) (E : XK) (g : γ) (vs : List V) (F0 : Hp), Room k (A.deeper (envOfC qual (defScope st) s.heap.objs.size f cdv)) → pre g → Each (Rs g) vs F0 →
      ∃ t, PSs (cxOf CX0 P w K mg base N qual (defScope st) f cdv A outer s H E).nox (defBody st) t ∧ RunS t (start N vs) F0 [] (fun _ F' _ => R g .non F') (R g)) : FnOk P w K mg base CX0 (k + 1) f fd ps (SpF pre Rs R) := by
  refine F.ok S (fun vs H Q E ⟨g, F0, N0, hp, A, hv, q⟩ => (each_length hv).trans (len g)) fun cdv A outer s H vs Q E hr ⟨g, F0, N0, hp, A0, hv, q⟩ => ?_
  obtain ⟨t, h1, h2⟩ := body cdv A outer s H E g vs F0 hr hp hv
  exact ⟨t, h1, h2 F0 N0 H (Same.refl _) A0 _ (fun _ F' L' H' e' A' n => q .non F' H' e' A'.drop n) fun v F' H' e' A' r => q v F' H' e' A' r⟩
theorem gf_mk {x : Str} {st : Stmt} {f : Addr} {fd : FuncData} {N ps : List Str} {k : Nat} {γ : Type} {pre : γ → Prop} {Rs : γ → List VP} {R : γ → VP} (F : Fun K x x st f fd) (hm : mg x = some (.ref f)) (b : Binds K fd ps []) (S : FnScope N ps (defScope st)) (len : ∀ g, (Rs g).length = ps.length)
    (body : ∀ (cdv : Value) (A : Around) (outer : List Env) (s : Shared) (H : Hp) (E : XK) (g : γ) (vs : List V) (F0 : Hp), Room k (A.deeper (envOfC x (defScope st) s.heap.objs.size f cdv)) → pre g → Each (Rs g) vs F0 →
      ∃ t, PSs (cxOf CX0 P w K mg base N x (defScope st) f cdv A outer s H E).nox (defBody st) t ∧ RunS t (start N vs) F0 [] (fun _ F' _ => R g .non F') (R g)) : Gf P w K mg base (k + 1) x (SpF pre Rs R) :=
  ⟨f, fd, ps, gf_ok F S len body, hm, F.kp, b⟩
end
section
variable {K : PySem.W.Frag} {w : World} {σ : L2.St} {F : Hp} {L : Cells} {R : VP} {Rs : List VP} {t : TA} {te : TE}
/-! len, all, isinstance, list, tuple, sorted -/
theorem r_lnT (h : Run (t σ) F L (Each [Tp K Rs])) : Run (tCB (rLn K) t σ) F L (Dt K (.int Rs.length)) := r_cb h fun vs F1 e1 hv => by
  obtain ⟨v, rfl, a, ws, rfl, hs, hr⟩ := each1 hv
  exact fun F2 N H e A Q q => .inl ⟨.ref a, ws.length, rfl, .inr ⟨ws, sqT_up (e.trans A.ex) hs, rfl⟩, q _ F2 H (Same.refl _) A (by rw [each_length hr]; exact .int _)⟩
theorem r_lnL (h : Run (t σ) F L (Each [Ls K Rs])) : Run (tCB (rLn K) t σ) F L (Dt K (.int Rs.length)) := r_cb h fun vs F1 e1 hv => by
  obtain ⟨v, rfl, a, ws, rfl, hs, hr⟩ := each1 hv
  exact fun F2 N H e A Q q => .inl ⟨.ref a, ws.length, rfl, .inl ⟨ws, sqL_up (e.trans A.ex) hs, rfl⟩, q _ F2 H (Same.refl _) A (by rw [each_length hr]; exact .int _)⟩
theorem r_lnTD {ds : List PyData} (h : Run (t σ) F L (Each [Dt K (.tuple ds)])) : Run (tCB (rLn K) t σ) F L (Dt K (.int ds.length)) := by
  have := r_lnT (K := K) (Rs := ds.map (Dt K)) (h.weak fun vs F1 e hv => by
    obtain ⟨v, rfl, h1⟩ := each1 hv
    exact ⟨tp_dt.mpr h1, True.intro⟩)
  rwa [List.length_map] at this
/-- len of a list of one's own -/
theorem r_lnC {l : Addr} {xs : List V} (hm : (l, HO.lst xs) ∈ L) (h : Run (t σ) F L (Each [Eqv (.ref l)])) : Run (tCB (rLn K) t σ) F L (Dt K (.int xs.length)) := r_cb h fun vs F1 e1 hv => by
  obtain ⟨v, rfl, hv1⟩ := each1 hv
  cases hv1
  exact fun F2 N H e A Q q => .inl ⟨.ref l, xs.length, rfl, .inl ⟨xs, .inl (.inl (A.on _ (List.mem_append_left _ hm))), rfl⟩, q _ F2 H (Same.refl _) A (.int _)⟩
theorem each_bls : ∀ {bs : List Bool} {vs : List V} {F : Hp}, Each (bs.map fun b => Dt K (.bool b)) vs F → vs = bs.map V.bl
  | [], vs, F, h => by rw [each0 h]; rfl
  | b :: bs, vs, F, h => by
    obtain ⟨v, ws, rfl, h1, h2⟩ := each_cons h
    rw [dt_bl h1, each_bls h2]; rfl
theorem r_all {bs : List Bool} (h : Run (t σ) F L (Each [Ls K (bs.map fun b => Dt K (.bool b))])) : Run (tCB (rAll K) t σ) F L (Dt K (.bool (bs.all id))) := r_cb h fun vs F1 e1 hv => by
  obtain ⟨v, rfl, a, ws, rfl, hs, hr⟩ := each1 hv
  rw [each_bls hr] at hs
  exact fun F2 N H e A Q q => ⟨a, bs, rfl, sqL_up (e.trans A.ex) hs, q _ F2 H (Same.refl _) A (.bl _)⟩
/-- isinstance(x, T) by the kind of the value -/
theorem r_isi {T : String} {ty : Value} {b : Bool} (h : Run (t σ) F L (Each [R, Eqv (.ty T)])) (hr : ∀ v F1 F2 H, R v F1 → Same F1 F2 → Same F2 H → TyX K H v ty) (hb : PySem.W.kitOne K ty (.type T) = some b) : Run (tCB (rIsi K) t σ) F L (Dt K (.bool b)) := r_cb h fun vs F1 e1 hv => by
  obtain ⟨v, u, rfl, h1, h2⟩ := each2 hv
  cases h2
  exact fun F2 N H e A Q q => ⟨v, .ty T, ty, .type T, b, rfl, .ty T, hr v F1 F2 H h1 e A.ex, hb, q _ F2 H (Same.refl _) A (.bl _)⟩
theorem r_listT [MonoL Rs] (h : Run (t σ) F L (Each [Tp K Rs])) : Run (tCB (rListOf K) t σ) F L (Ln Rs) := r_cb h fun vs F1 e1 hv => by
  obtain ⟨v, rfl, a, ws, rfl, hs, hr⟩ := each1 hv
  exact fun F2 N H e A Q q => ⟨a, ws, rfl, .inr (sqT_up (e.trans A.ex) hs), fun l hl => q _ (upd F2 l _) _ (same_new (A.free hl)) (A.new hl) ⟨l, ws, rfl, upd_same, MonoL.mono _ _ _ (e.trans (same_new (A.free hl))) hr⟩⟩
/-- list(xs) as a list of one's own -/
theorem q_listL {u : TS} {i : Nat} {Nx : L2.St → Hp → Cells → Prop} {Rt : VP} [MonoL Rs] (h : Run (t σ) F L (Each [Ls K Rs])) (k : ∀ p vs F1, Same F F1 → F1 p = none → Each Rs vs F1 → RunS u (σ.set i (some (.ref p))) F1 ((p, .lst vs) :: L) Nx Rt) :
    RunS (tSeq (tAsg (tCB (rListOf K) t) (gName i)) u) σ F L Nx Rt := fun F1 N H e A D q r => h F1 N H e A _ fun vs F2 H2 e2 A2 hv => by
  obtain ⟨v, rfl, a, ws, rfl, hs, hr⟩ := each1 hv
  exact ⟨a, ws, rfl, .inl (sqL_up A2.ex hs), fun p hp =>
    k p ws F2 (e.trans e2) (A2.free hp) hr F2 N _ (Same.refl _) (A2.cell hp) D (fun σ3 F3 L3 H3 e3 A3 n => q σ3 F3 L3 H3 (e2.trans e3) A3 n) fun w F3 H3 e3 A3 n => r w F3 H3 (e2.trans e3) A3 n⟩
theorem r_tupL [MonoL Rs] (h : Run (t σ) F L (Each [Ls K Rs])) : Run (tCB (rTupOf K) t σ) F L (Tp K Rs) := r_cb h fun vs F1 e1 hv => by
  obtain ⟨v, rfl, a, ws, rfl, hs, hr⟩ := each1 hv
  exact fun F2 N H e A Q q => ⟨a, ws, rfl, .inl ⟨sqL_up (e.trans A.ex) hs, fun l hl => q _ (upd F2 l _) _ (same_new (A.free hl)) (A.new hl) ⟨l, ws, rfl, .inl (.inl upd_same), MonoL.mono _ _ _ (e.trans (same_new (A.free hl))) hr⟩⟩⟩
theorem r_tupD {ds : List PyData} (h : Run (t σ) F L (Each [Dt K (.list ds)])) : Run (tCB (rTupOf K) t σ) F L (Dt K (.tuple ds)) :=
  (r_tupL (K := K) (Rs := ds.map (Dt K)) (h.weak fun vs F1 e hv => by
    obtain ⟨v, rfl, h1⟩ := each1 hv
    exact ⟨ls_dt.mpr h1, True.intro⟩)).weak fun v F1 e hv => tp_dt.mp hv
/-- tuple(l), l a list of one's own -/
theorem r_tupC {l : Addr} {xs : List V} [MonoL Rs] (hm : (l, HO.lst xs) ∈ L) (h : Run (t σ) F L (Each [Eqv (.ref l)])) (hr : Each Rs xs F) : Run (tCB (rTupOf K) t σ) F L (Tp K Rs) := r_cb h fun vs F1 e1 hv => by
  obtain ⟨v, rfl, hv1⟩ := each1 hv
  cases hv1
  exact fun F2 N H e A Q q => ⟨l, xs, rfl, .inl ⟨.inl (.inl (A.on _ (List.mem_append_left _ hm))), fun p hp => q _ (upd F2 p _) _ (same_new (A.free hp)) (A.new hp) ⟨p, xs, rfl, .inl (.inl upd_same), MonoL.mono _ _ _ ((e1.trans e).trans (same_new (A.free hp))) hr⟩⟩⟩
theorem r_sortedI {ns : List Int} (h : Run (t σ) F L (Each [R])) (hr : ∀ v F1, R v F1 → ∃ a, v = .ref a ∧ SqL K F1 a (ns.map V.int)) (hl : ns.length < 64) (os : List Int) (h1 : os.Perm ns) (h2 : os.Pairwise (· ≤ ·)) : Run (tCB (rSorted K) t σ) F L (Dt K (.list (os.map .int))) := r_cb h fun vs F1 e1 hv => by
  obtain ⟨v, rfl, hv1⟩ := each1 hv
  obtain ⟨a, rfl, hs⟩ := hr v F1 hv1
  refine fun F2 N H e A Q q => ⟨a, ns, rfl, sqL_up (e.trans A.ex) hs, hl, fun ms p hp hm hn => q _ (upd F2 p _) _ (same_new (A.free hn)) (A.new hn) ?_⟩
  have e : ms = os := List.Perm.eq_of_pairwise (le := (· ≤ ·)) (fun a b _ _ x y => Int.le_antisymm x y) hm h2 (hp.trans h1.symm)
  rw [e]
  exact .lst (.inl (.inl upd_same)) ints_vs
/-! ==, in -/
theorem r_eqD {ta tb : TE} {d e : PyData} (ha : Run (ta σ) F L (Dt K d)) (hb : Run (tb σ) F L (Dt K e)) (h1 : SeqAt.shaped d = true) (h2 : SeqAt.shaped e = true) : Run (tOp (rEqD K) ta tb σ) F L (Dt K (.bool (PyData.eqv d e))) :=
  r_op ha hb fun x y F1 e1 hx hy => fun F2 N H e2 A Q q => ⟨d, e, dp_up (e2.trans A.ex) hx, dp_up (e2.trans A.ex) hy, h1, h2, q _ F2 H (Same.refl _) A (.bl _)⟩
theorem r_neD {ta tb : TE} {d e : PyData} (ha : Run (ta σ) F L (Dt K d)) (hb : Run (tb σ) F L (Dt K e)) (h1 : SeqAt.shaped d = true) (h2 : SeqAt.shaped e = true) : Run (tOp (rNeD K) ta tb σ) F L (Dt K (.bool (!PyData.eqv d e))) :=
  r_op ha hb fun x y F1 e1 hx hy => fun F2 N H e2 A Q q => ⟨d, e, dp_up (e2.trans A.ex) hx, dp_up (e2.trans A.ex) hy, h1, h2, q _ F2 H (Same.refl _) A (.bl _)⟩
theorem inV_ints {i : Int} : ∀ {ns : List Int}, inV (.int i) (ns.map V.int) = decide (i ∈ ns)
  | [] => rfl
  | n :: ns => by
    have ih := inV_ints (i := i) (ns := ns)
    unfold inV at ih ⊢
    rw [List.map_cons, List.any_cons, ih]
    have e : eqV (.int n) (.int i) = decide (n = i) := by rfl
    rw [e]
    by_cases h : n = i
    · subst h; simp
    · have h' : ¬ i = n := fun z => h z.symm
      simp [h, h']
theorem flat_ints : ∀ {ns : List Int}, (ns.map V.int).all flatV = true
  | [] => rfl
  | n :: ns => by rw [List.map_cons, List.all_cons, flat_ints (ns := ns)]; rfl
theorem r_in {ta tb : TE} {i : Int} {ns : List Int} (ha : Run (ta σ) F L (Dt K (.int i))) (hb : Run (tb σ) F L R) (hr : ∀ v F1, R v F1 → seqI ns v F1 K) : Run (tOp (rIn K false) ta tb σ) F L (Dt K (.bool (decide (i ∈ ns)))) :=
  r_op ha hb fun x y F1 e1 hx hy => by
    cases hx
    obtain ⟨a, rfl, hs⟩ := hr y F1 hy
    refine fun F2 N H e2 A Q q => ⟨a, _, rfl, hs.imp (sqL_up (e2.trans A.ex)) (sqT_up (e2.trans A.ex)), rfl, flat_ints, q _ F2 H (Same.refl _) A ?_⟩
    rw [if_neg Bool.false_ne_true, inV_ints]
    exact .bl _
theorem r_notIn {ta tb : TE} {i : Int} {ns : List Int} (ha : Run (ta σ) F L (Dt K (.int i))) (hb : Run (tb σ) F L R) (hr : ∀ v F1, R v F1 → seqI ns v F1 K) : Run (tOp (rIn K true) ta tb σ) F L (Dt K (.bool (!decide (i ∈ ns)))) :=
  r_op ha hb fun x y F1 e1 hx hy => by
    cases hx
    obtain ⟨a, rfl, hs⟩ := hr y F1 hy
    refine fun F2 N H e2 A Q q => ⟨a, _, rfl, hs.imp (sqL_up (e2.trans A.ex)) (sqT_up (e2.trans A.ex)), rfl, flat_ints, q _ F2 H (Same.refl _) A ?_⟩
    rw [if_pos rfl, inV_ints]
    exact .bl _
/-! numbers equal -/
theorem r_eqI {ta tb : TE} {i j : Int} (ha : Run (ta σ) F L (Dt K (.int i))) (hb : Run (tb σ) F L (Dt K (.int j))) : Run (tOp rEq ta tb σ) F L (Dt K (.bool (decide (i = j)))) :=
  r_op ha hb fun x y F1 e1 hx hy => by
    cases hx; cases hy
    refine fun F2 N H e2 A Q q => ⟨rfl, q _ F2 H (Same.refl _) A ?_⟩
    have e : decide (V.int i = V.int j) = decide (i = j) := by
      by_cases h : i = j
      · subst h; simp
      · simp [h]
    rw [e]; exact .bl _
theorem r_neI {ta tb : TE} {i j : Int} (ha : Run (ta σ) F L (Dt K (.int i))) (hb : Run (tb σ) F L (Dt K (.int j))) : Run (tOp rNe ta tb σ) F L (Dt K (.bool (!decide (i = j)))) :=
  r_op ha hb fun x y F1 e1 hx hy => by
    cases hx; cases hy
    refine fun F2 N H e2 A Q q => ⟨rfl, q _ F2 H (Same.refl _) A ?_⟩
    have e : decide (V.int i = V.int j) = decide (i = j) := by
      by_cases h : i = j
      · subst h; simp
      · simp [h]
    rw [e]; exact .bl _
/-! items -/
theorem r_ixT {ta tb : TE} {ds : List PyData} {n : Nat} {d : PyData} (ha : Run (ta σ) F L (Dt K (.tuple ds))) (hb : Run (tb σ) F L (Dt K (.int (n : Nat)))) (hd : ds[n]? = some d) : Run (tOp (rIxT K) ta tb σ) F L (Dt K d) :=
  r_op ha hb fun x y F1 e1 hx hy => by
    obtain ⟨a, vs, rfl, hs, hr⟩ := tp_dt.mpr hx
    cases hy
    have hn : n < vs.length := by rw [each_length hr, List.length_map]; exact (List.getElem?_eq_some_iff.mp hd).1
    obtain ⟨R', g1, g2⟩ := each_at hr (List.getElem?_eq_getElem hn)
    rw [List.getElem?_map, hd] at g1
    cases g1
    exact fun F2 N H e2 A Q q => ⟨a, vs, (n : Int), _, rfl, rfl, sqT_up (e2.trans A.ex) hs, atI_nat (List.getElem?_eq_getElem hn), q _ F2 H (Same.refl _) A (dp_up e2 g2)⟩
theorem r_ixL {ta tb : TE} {ds : List PyData} {n : Nat} {d : PyData} (ha : Run (ta σ) F L (Dt K (.list ds))) (hb : Run (tb σ) F L (Dt K (.int (n : Nat)))) (hd : ds[n]? = some d) : Run (tOp (rIxL K) ta tb σ) F L (Dt K d) :=
  r_op ha hb fun x y F1 e1 hx hy => by
    obtain ⟨a, vs, rfl, hs, hr⟩ := ls_dt.mpr hx
    cases hy
    have hn : n < vs.length := by rw [each_length hr, List.length_map]; exact (List.getElem?_eq_some_iff.mp hd).1
    obtain ⟨R', g1, g2⟩ := each_at hr (List.getElem?_eq_getElem hn)
    rw [List.getElem?_map, hd] at g1
    cases g1
    exact fun F2 N H e2 A Q q => ⟨a, vs, (n : Int), _, rfl, rfl, sqL_up (e2.trans A.ex) hs, atI_nat (List.getElem?_eq_getElem hn), q _ F2 H (Same.refl _) A (dp_up e2 g2)⟩
/-- arguments that a star hands on -/
theorem r_star {ta : TE} {ds : List PyData} (ha : Run (ta σ) F L (Dt K (.tuple ds))) (h : Run (t σ) F L (Each Rs)) : Run (tStar K ta t σ) F L (Each (ds.map (Dt K) ++ Rs)) := fun F1 N H e A Q q =>
  ha F1 N H e A _ fun x F2 H2 e2 A2 hx => by
    obtain ⟨a, vs, rfl, hs, hr⟩ := tp_dt.mpr hx
    exact ⟨a, vs, rfl, .inl (sqT_up A2.ex hs), h F2 N H2 (e.trans e2) A2 _ fun ys F3 H3 e3 A3 hy => q _ F3 H3 (e2.trans e3) A3 (each_app (Mono.go hr e3) hy)⟩
/-! comprehensions in short -/
section
variable {ι : Type} {Ri Re : ι → VP} {f : ι → Bool} {xs : List ι} {tt : TT} {wi : TI} {vs : List Nat} {j j1 j2 : Nat}
theorem r_lcN [∀ x, Mono (Re x)] (h : Run (wi σ) F L (fun J F1 => Seqs J (xs.map Ri) F1)) (hz : xs.length ≤ 40000) (hw : ∀ v, wipe ((wipe σ vs).set j (some v)) vs = wipe σ vs)
    (he : ∀ x v F1, Same F F1 → x ∈ xs → Ri x v F1 → Run (te ((wipe σ vs).set j (some v))) F1 L (Re x)) : Run (tLc wi (gName j) tYes te vs σ) F L (Ln (xs.map Re)) := by
  have q := r_lcG (f := fun _ => true) (g := gName j) (tt := tYes) (te := te) (vs := vs) h hz fun x v F1 e hx hv => rg_name (σ := wipe σ vs) fun F2 e2 => ⟨hw v, t_yes, fun _ => (he x v F1 e hx hv).up e2⟩
  rwa [show xs.filter (fun _ => true) = xs from List.filter_eq_self.mpr fun _ _ => rfl] at q
theorem r_lcF [∀ x, Mono (Re x)] (h : Run (wi σ) F L (fun J F1 => Seqs J (xs.map Ri) F1)) (hz : xs.length ≤ 40000) (hw : ∀ v, wipe ((wipe σ vs).set j (some v)) vs = wipe σ vs)
    (ht : ∀ x v F1, Same F F1 → x ∈ xs → Ri x v F1 → Run (tt ((wipe σ vs).set j (some v))) F1 L (Eqv (f x)))
    (he : ∀ x v F1, Same F F1 → x ∈ xs → Ri x v F1 → f x = true → Run (te ((wipe σ vs).set j (some v))) F1 L (Re x)) : Run (tLc wi (gName j) tt te vs σ) F L (Ln ((xs.filter f).map Re)) :=
  r_lcG (f := f) (g := gName j) (tt := tt) (te := te) (vs := vs) h hz fun x v F1 e hx hv => rg_name (σ := wipe σ vs) fun F2 e2 => ⟨hw v, (ht x v F1 e hx hv).up e2, fun hf => (he x v F1 e hx hv hf).up e2⟩
theorem r_lcP {R1 R2 : ι → VP} [∀ x, Mono (Re x)] [∀ x, Mono (R1 x)] [∀ x, Mono (R2 x)] (h : Run (wi σ) F L (fun J F1 => Seqs J (xs.map fun x => Tp K [R1 x, R2 x]) F1)) (hz : xs.length ≤ 40000) (hw : ∀ v u, wipe (((wipe σ vs).set j1 (some v)).set j2 (some u)) vs = wipe σ vs)
    (ht : ∀ x v u F1, Same F F1 → x ∈ xs → R1 x v F1 → R2 x u F1 → Run (tt (((wipe σ vs).set j1 (some v)).set j2 (some u))) F1 L (Eqv (f x)))
    (he : ∀ x v u F1, Same F F1 → x ∈ xs → R1 x v F1 → R2 x u F1 → f x = true → Run (te (((wipe σ vs).set j1 (some v)).set j2 (some u))) F1 L (Re x)) : Run (tLc wi (gTup K 2 (gCons (gName j1) (gCons (gName j2) gNil))) tt te vs σ) F L (Ln ((xs.filter f).map Re)) :=
  r_lcG (f := f) (tt := tt) (te := te) (vs := vs) h hz fun x v F1 e hx hv => rg_pair (σ := wipe σ vs) (R1 := R1 x) (R2 := R2 x) hv fun v1 v2 F2 e2 h1 h2 => ⟨hw v1 v2, ht x v1 v2 F2 (e.trans e2) hx h1 h2, fun hf => he x v1 v2 F2 (e.trans e2) hx h1 h2 hf⟩
theorem pairs_map {R0 : ι → VP} : Pairs K (xs.map R0) = xs.zipIdx.map fun p => Tp K [Dt K (.int ((p.2 : Nat) : Int)), R0 p.1] := by
  unfold Pairs
  rw [List.mapIdx_eq_zipIdx_map, List.zipIdx_map, List.map_map]
  rfl
end
end
end Rs

/-! Rs6: kinds of data, equality of rows. -/
namespace Rs
open PySem PySem.Spec PyProof.Rows L2 SlX StX
def tyName : PyData → String
  | .none => "NoneType" | .bool _ => "bool" | .int _ => "int" | .str _ => "str" | .list _ => "list" | .tuple _ => "tuple" | .dict _ => "dict"
theorem ty_dt {K : PySem.W.Frag} {F : Hp} {d : PyData} {v : V} (h : Dp K F v d) : TyX K F v (.type (tyName d)) := by
  cases h with
  | non => exact .base .non
  | bl b => exact .base (.bl b)
  | int i => exact .base (.int i)
  | str x => exact .base (.str x)
  | lst s t =>
    rcases s with (s | ⟨o, s⟩) | ⟨o, its, n, hk, hc, hd, hs, hz, r⟩
    · exact .base (.lst s)
    · exact .base (.frz s)
    · exact .kList hk hc
  | tup s t =>
    rcases s with (s | ⟨o, s⟩) | ⟨o, its, n, hk, hc, hs, hz, r⟩
    · exact .base (.tup s)
    · exact .fTuple s
    · exact .kTuple hk hc
section
variable {K : PySem.W.Frag} {σ : L2.St} {F : Hp} {L : Cells} {t : TA}
theorem r_isiD {T : String} {d : PyData} {b : Bool} (h : Run (t σ) F L (Each [Dt K d, Eqv (.ty T)])) (hb : kitB (tyName d) T = some b) : Run (tCB (rIsi K) t σ) F L (Dt K (.bool b)) :=
  r_isi h (fun v F1 F2 H hv e1 e2 => ty_dt (dp_up e2 (dp_up e1 hv))) (kit_ty hb)
end
/-! ### rows of ints -/
theorem eqvAll_ints : ∀ {ns ms : List Int}, PyData.eqvAll (ns.map .int) (ms.map .int) = decide (ns = ms)
  | [], [] => rfl
  | [], _ :: _ => rfl
  | _ :: _, [] => rfl
  | n :: ns, m :: ms => by
    have ih := eqvAll_ints (ns := ns) (ms := ms)
    rw [List.map_cons, List.map_cons, PyData.eqvAll, ih, PyData.eqv]
    by_cases h : n = m
    · subst h; simp
    · simp [h]
theorem eqv_listI {ns ms : List Int} : PyData.eqv (.list (ns.map .int)) (.list (ms.map .int)) = decide (ns = ms) := by rw [PyData.eqv]; exact eqvAll_ints
theorem eqv_tupI {ns ms : List Int} : PyData.eqv (.tuple (ns.map .int)) (.tuple (ms.map .int)) = decide (ns = ms) := by rw [PyData.eqv]; exact eqvAll_ints
theorem eqvAll_of {α : Type} {f : α → PyData} [DecidableEq α] (h : ∀ a b, PyData.eqv (f a) (f b) = decide (a = b)) : ∀ {xs ys : List α}, PyData.eqvAll (xs.map f) (ys.map f) = decide (xs = ys)
  | [], [] => by simp [PyData.eqvAll]
  | [], _ :: _ => by simp [PyData.eqvAll]
  | _ :: _, [] => by simp [PyData.eqvAll]
  | n :: ns, m :: ms => by
    have ih := eqvAll_of h (xs := ns) (ys := ms)
    rw [List.map_cons, List.map_cons, PyData.eqvAll, ih, h]
    by_cases h : n = m
    · subst h; simp
    · simp [h]
theorem lay_ints : ∀ {ns : List Int}, PyData.canLayAll0 (ns.map .int) = true
  | [] => rfl
  | n :: ns => by rw [List.map_cons, PyData.canLayAll0, lay_ints]; rfl
theorem dep_ints : ∀ {ns : List Int}, PyData.depthAll (ns.map .int) = 0
  | [] => rfl
  | n :: ns => by rw [List.map_cons, PyData.depthAll, dep_ints]; rfl
theorem lay_all {α : Type} {f : α → PyData} (h : ∀ a, (f a).canLay0 = true) : ∀ {xs : List α}, PyData.canLayAll0 (xs.map f) = true
  | [] => rfl
  | x :: xs => by rw [List.map_cons, PyData.canLayAll0, h, lay_all h]; rfl
theorem dep_all {α : Type} {f : α → PyData} {k : Nat} (h : ∀ a, (f a).depth ≤ k) : ∀ {xs : List α}, PyData.depthAll (xs.map f) ≤ k
  | [] => Nat.zero_le _
  | x :: xs => by
    rw [List.map_cons, PyData.depthAll]
    exact Nat.max_le.mpr ⟨h x, dep_all h⟩
theorem shaped_of {d : PyData} (h1 : d.canLay0 = true) (h2 : d.depth ≤ 64) : SeqAt.shaped d = true := by
  unfold SeqAt.shaped; rw [h1, Bool.true_and]; exact decide_eq_true h2
theorem sh_listI {ns : List Int} : SeqAt.shaped (.list (ns.map .int)) = true := shaped_of (by rw [PyData.canLay0]; exact lay_ints) (by rw [PyData.depth, dep_ints]; decide)
theorem sh_tupI {ns : List Int} : SeqAt.shaped (.tuple (ns.map .int)) = true := shaped_of (by rw [PyData.canLay0]; exact lay_ints) (by rw [PyData.depth, dep_ints]; decide)
end Rs

/-! Rs7: runs that change cells; dicts of one's own. -/
namespace Rs
open PySem PySem.Spec PyProof.Rows L2 SlX StX
/-- k runs, the cells may be others behind it -/
def RunX {α : Type} (k : Hp → (α → Hp → Prop) → Prop) (F : Hp) (L : Cells) (P : α → Hp → Cells → Prop) : Prop :=
  ∀ F1 N H, Same F F1 → At F1 (L ++ N) H → ∀ Q : α → Hp → Prop, (∀ v F2 L2 H2, Same F1 F2 → At F2 (L2 ++ N) H2 → P v F2 L2 → Q v H2) → k H Q
section
variable {α β : Type} {k : Hp → (α → Hp → Prop) → Prop} {F F1 : Hp} {L : Cells} {R : α → Hp → Prop} {P P' : α → Hp → Cells → Prop}
theorem RunX.up (h : RunX k F L P) (e : Same F F1) : RunX k F1 L P := fun F2 N H e2 A Q q => h F2 N H (e.trans e2) A Q q
theorem Run.x (h : Run k F L R) (hp : ∀ v F2, Same F F2 → R v F2 → P v F2 L) : RunX k F L P := fun F1 N H e A Q q => h F1 N H e A Q fun v F2 H2 e2 A2 r => q v F2 L H2 e2 A2 (hp v F2 (e.trans e2) r)
theorem x_bind {k2 : α → Hp → (β → Hp → Prop) → Prop} {S : β → Hp → Cells → Prop} (h1 : RunX k F L P) (h2 : ∀ v F1 L1, Same F F1 → P v F1 L1 → RunX (k2 v) F1 L1 S) : RunX (fun H Q => k H fun v H1 => k2 v H1 Q) F L S := fun F1 N H e A Q q =>
  h1 F1 N H e A _ fun v F2 L2 H2 e2 A2 r => h2 v F2 L2 (e.trans e2) r F2 N H2 (Same.refl _) A2 Q fun w F3 L3 H3 e3 A3 s => q w F3 L3 H3 (e2.trans e3) A3 s
theorem x_ret {v : α} (h : ∀ F1, Same F F1 → P v F1 L) : RunX (fun H Q => Q v H) F L P := fun F1 N H e A Q q => q v F1 L H (Same.refl _) A (h F1 e)
theorem RunX.perm {L' : Cells} (h : RunX k F L' P) (p : L.Perm L') : RunX k F L P := fun F1 N H e A Q q => h F1 N H e (A.perm (List.Perm.append_right N p)) Q q
theorem At.mem {H : Hp} {N : Cells} {p : Addr × HO} (A : At F (L ++ N) H) (h : p ∈ L) : H p.1 = some p.2 := A.on p (List.mem_append_left _ h)
end
section
variable {K : PySem.W.Frag} {σ : L2.St} {F : Hp} {L : Cells} {R : VP} {Rs : List VP} {t tr ta : TA} {te td ty tv : TE} {Px : V → Hp → Cells → Prop} {Pa : List V → Hp → Cells → Prop} {Nx : L2.St → Hp → Cells → Prop} {Rt : VP} {u : TS} {i j : Nat}
theorem x_nil : RunX (tNil σ) F L (fun vs _ L' => vs = [] ∧ L' = L) := x_ret fun _ _ => ⟨rfl, rfl⟩
theorem x_cons {S : List V → Hp → Cells → Prop} (h : RunX (te σ) F L Px) (hr : ∀ v F1 L1, Same F F1 → Px v F1 L1 → RunX (tr σ) F1 L1 (fun vs F2 L2 => S (v :: vs) F2 L2)) : RunX (tCons te tr σ) F L S := fun F1 N H e A Q q =>
  h F1 N H e A _ fun v F2 L2 H2 e2 A2 p => hr v F2 L2 (e.trans e2) p F2 N H2 (Same.refl _) A2 _ fun vs F3 L3 H3 e3 A3 s => q (v :: vs) F3 L3 H3 (e2.trans e3) A3 s
/-- [..], a list of one's own -/
theorem x_lst [MonoL Rs] (h : Run (t σ) F L (Each Rs)) (hl : Rs.length ≤ 100000) : RunX (tLst t σ) F L (fun v F1 L1 => ∃ p vs, v = .ref p ∧ Each Rs vs F1 ∧ L1 = (p, .lst vs) :: L) := fun F1 N H e A Q q =>
  h F1 N H e A _ fun vs F2 H2 e2 A2 hv => ⟨len_ok (by rw [each_length hv]; exact hl), fun p hp => q _ F2 ((p, .lst vs) :: L) _ e2 (A2.cell hp) ⟨p, vs, rfl, hv, rfl⟩⟩
/-- {k: v}, a dict of one's own -/
theorem x_disp1 {n : Int} {v : V} (hk : Run (ty σ) F L (Dt K (.int n))) (hv : Run (tv σ) F L (Eqv v)) : RunX (tDisp [(ty, tv)] σ) F L (fun x F1 L1 => ∃ p, x = .ref p ∧ L1 = (p, .dK [(Sum.inl n, v)]) :: L) := fun F1 N H e A Q q p hp => by
  have A1 : At F1 (L ++ ((p, .dK []) :: N)) (upd H p (.dK [])) := (A.cell (o := .dK []) hp).perm List.perm_middle.symm
  refine hk F1 _ _ e A1 _ fun x F2 H2 e2 A2 hx => hv F2 _ H2 (e.trans e2) A2 _ fun y F3 H3 e3 A3 hy => ?_
  cases hx
  cases hy
  have A4 : At F3 ((p, .dK []) :: (L ++ N)) H3 := A3.perm List.perm_middle
  refine ⟨A4.on1, [(Sum.inl n, v)], rfl, by simp, ?_⟩
  exact q _ F3 ((p, .dK [(Sum.inl n, v)]) :: L) _ (e2.trans e3) A4.put ⟨p, rfl, rfl⟩
theorem s_setX (h : RunX (te σ) F L Px) (k : ∀ v F1 L1, Same F F1 → Px v F1 L1 → Nx (σ.set i (some v)) F1 L1) : RunS (tAsg te (gName i)) σ F L Nx Rt := fun F1 N H e A D q r =>
  h F1 N H e A _ fun v F2 L2 H2 e2 A2 hv => q _ F2 L2 H2 e2 A2 (k v F2 L2 (e.trans e2) hv)
theorem q_setX (h : RunX (te σ) F L Px) (k : ∀ v F1 L1, Same F F1 → Px v F1 L1 → RunS u (σ.set i (some v)) F1 L1 Nx Rt) : RunS (tSeq (tAsg te (gName i)) u) σ F L Nx Rt := fun F1 N H e A D q r =>
  h F1 N H e A _ fun v F2 L2 H2 e2 A2 hv => k v F2 L2 (e.trans e2) hv F2 N H2 (Same.refl _) A2 D (fun σ3 F3 L3 H3 e3 A3 n => q σ3 F3 L3 H3 (e2.trans e3) A3 n) fun w F3 H3 e3 A3 n => r w F3 H3 (e2.trans e3) A3 n
theorem q_dropX (h : RunX (te σ) F L Px) (k : ∀ v F1 L1, Same F F1 → Px v F1 L1 → RunS u σ F1 L1 Nx Rt) : RunS (tSeq (tDrop te) u) σ F L Nx Rt := fun F1 N H e A D q r =>
  h F1 N H e A _ fun v F2 L2 H2 e2 A2 hv => k v F2 L2 (e.trans e2) hv F2 N H2 (Same.refl _) A2 D (fun σ3 F3 L3 H3 e3 A3 n => q σ3 F3 L3 H3 (e2.trans e3) A3 n) fun w F3 H3 e3 A3 n => r w F3 H3 (e2.trans e3) A3 n
theorem s_dropX (h : RunX (te σ) F L Px) (k : ∀ v F1 L1, Same F F1 → Px v F1 L1 → Nx σ F1 L1) : RunS (tDrop te) σ F L Nx Rt := fun F1 N H e A D q r =>
  h F1 N H e A _ fun v F2 L2 H2 e2 A2 hv => q _ F2 L2 H2 e2 A2 (k v F2 L2 (e.trans e2) hv)
theorem q_par {S : V → V → Hp → Cells → Prop} (h : RunX (t σ) F L (fun vs F1 L1 => ∃ v w, vs = [v, w] ∧ S v w F1 L1)) (k : ∀ v w F1 L1, Same F F1 → S v w F1 L1 → RunS u ((σ.set i (some v)).set j (some w)) F1 L1 Nx Rt) : RunS (tSeq (tPar i j t) u) σ F L Nx Rt := fun F1 N H e A D q r =>
  h F1 N H e A _ fun vs F2 L2 H2 e2 A2 ⟨v, w, hvs, hs⟩ => ⟨v, w, hvs, k v w F2 L2 (e.trans e2) hs F2 N H2 (Same.refl _) A2 D (fun σ3 F3 L3 H3 e3 A3 n => q σ3 F3 L3 H3 (e2.trans e3) A3 n) fun w F3 H3 e3 A3 n => r w F3 H3 (e2.trans e3) A3 n⟩
/-- l.pop() -/
theorem x_pop {l : Addr} {xs : List V} {y : V} (hl : Run (te σ) F ((l, .lst (xs ++ [y])) :: L) (Eqv (.ref l))) : RunX (tBM0 K "list" rPop te σ) F ((l, .lst (xs ++ [y])) :: L) (fun v F1 L1 => v = y ∧ L1 = (l, .lst xs) :: L) := fun F1 N H e A Q q =>
  hl F1 N H e A _ fun v F2 H2 e2 A2 hv => by
    cases hv
    refine ⟨.inl ⟨rfl, _, .inl (.inl (At.on1 A2))⟩, l, _, y, rfl, rfl, At.on1 A2, by simp, ?_⟩
    have q2 := q y F2 ((l, .lst xs) :: L) _ e2 (At.put (u := .lst xs) A2) ⟨rfl, rfl⟩
    rwa [List.dropLast_concat]
/-- l.pop(i) -/
theorem x_popAt {l : Addr} {xs : List V} {n : Nat} {y : V} (hl : Run (te σ) F ((l, .lst xs) :: L) (Eqv (.ref l))) (hi : Run (t σ) F ((l, .lst xs) :: L) (Each [Dt K (.int (n : Nat))])) (hn : xs[n]? = some y) (hz : n < 100000) :
    RunX (tBM K "list" rPopAt te t σ) F ((l, .lst xs) :: L) (fun v F1 L1 => v = y ∧ L1 = (l, .lst (xs.eraseIdx n)) :: L) := fun F1 N H e A Q q =>
  hl F1 N H e A _ fun v F2 H2 e2 A2 hv => by
    cases hv
    refine ⟨.inl ⟨rfl, _, .inl (.inl (At.on1 A2))⟩, hi F2 N H2 (e.trans e2) A2 _ fun vs F3 H3 e3 A3 hvs => ?_⟩
    obtain ⟨v, rfl, hv1⟩ := each1 hvs
    cases hv1
    have hlt := (List.getElem?_eq_some_iff.mp hn).1
    refine ⟨l, xs, (n : Int), n, y, rfl, rfl, At.on1 A3, by omega, by omega, ?_, hn, q y F3 ((l, .lst (xs.eraseIdx n)) :: L) _ (e2.trans e3) (At.put A3) ⟨rfl, rfl⟩⟩
    exact (ixN_seq (by unfold ixN; rw [if_pos (by omega), if_pos (by omega)]; simp)).1
/-- k in d, d a dict of one's own -/
theorem r_din {d : Addr} {kvs : List (Key × V)} {n : Int} (hm : (d, HO.dK kvs) ∈ L) (hk : Run (ty σ) F L (Dt K (.int n))) (hd : Run (td σ) F L (Eqv (.ref d))) : Run (tDIn ty td σ) F L (Dt K (.bool (valV kvs (Sum.inl n)).isSome)) := fun F1 N H e A Q q =>
  hk F1 N H e A _ fun x F2 H2 e2 A2 hx => hd F2 N H2 (e.trans e2) A2 _ fun y F3 H3 e3 A3 hy => by
    cases hx
    cases hy
    exact ⟨d, _, rfl, DGet.k (k := Sum.inl n) (At.mem A3 hm), q _ F3 H3 (e2.trans e3) A3 (.bl _)⟩
theorem r_dnotin {d : Addr} {kvs : List (Key × V)} {n : Int} (hm : (d, HO.dK kvs) ∈ L) (hk : Run (ty σ) F L (Dt K (.int n))) (hd : Run (td σ) F L (Eqv (.ref d))) : Run (tDNotIn ty td σ) F L (Dt K (.bool (!(valV kvs (Sum.inl n)).isSome))) := fun F1 N H e A Q q =>
  hk F1 N H e A _ fun x F2 H2 e2 A2 hx => hd F2 N H2 (e.trans e2) A2 _ fun y F3 H3 e3 A3 hy => by
    cases hx
    cases hy
    exact ⟨d, _, rfl, DGet.k (k := Sum.inl n) (At.mem A3 hm), q _ F3 H3 (e2.trans e3) A3 (.bl _)⟩
/-- d[k] = v -/
theorem q_dput {d : Addr} {kvs : List (Key × V)} {n : Int} {v : V} (hv : Run (tv σ) F ((d, .dK kvs) :: L) (Eqv v)) (hd : Run (td σ) F ((d, .dK kvs) :: L) (Eqv (.ref d))) (hk : Run (ty σ) F ((d, .dK kvs) :: L) (Dt K (.int n))) (hl : kvs.length < 100000)
    (k : ∀ F1, Same F F1 → RunS u σ F1 ((d, .dK (putK kvs (Sum.inl n) v)) :: L) Nx Rt) : RunS (tSeq (sDPut td ty tv) u) σ F ((d, .dK kvs) :: L) Nx Rt := fun F1 N H e A D q r =>
  hv F1 N H e A _ fun x F2 H2 e2 A2 hx => hd F2 N H2 (e.trans e2) A2 _ fun y F3 H3 e3 A3 hy => hk F3 N H3 ((e.trans e2).trans e3) A3 _ fun z F4 H4 e4 A4 hz => by
    cases hx
    cases hy
    cases hz
    refine ⟨d, _, rfl, DPut.k (k := Sum.inl n) (At.on1 A4) (len_lt hl), ?_⟩
    exact k F4 (((e.trans e2).trans e3).trans e4) F4 N _ (Same.refl _) (At.put A4) D (fun σ5 F5 L5 H5 e5 A5 n => q σ5 F5 L5 H5 (((e2.trans e3).trans e4).trans e5) A5 n) fun w F5 H5 e5 A5 n => r w F5 H5 (((e2.trans e3).trans e4).trans e5) A5 n
/-- sorted(d), d by ints -/
theorem r_sortedDI {d : Addr} {kvs : List (Key × V)} {ks : List Int} (hm : (d, HO.dK kvs) ∈ L) (h : Run (t σ) F L (Each [Eqv (.ref d)])) (hk : kvs.map (·.1) = ks.map Sum.inl) (hl : ks.length < 64) (os : List Int) (h1 : os.Perm ks) (h2 : os.Pairwise (· ≤ ·)) : Run (tCB rSortedDI t σ) F L (Dt K (.list (os.map .int))) := r_cb h fun vs F1 e1 hv => by
  obtain ⟨v, rfl, hv1⟩ := each1 hv
  cases hv1
  refine fun F2 N H e A Q q => ⟨d, kvs, ks, rfl, .inl (At.mem A hm), hk, hl, fun ms p hp hmm hn => q _ (upd F2 p _) _ (same_new (A.free hn)) (A.new hn) ?_⟩
  have e : ms = os := List.Perm.eq_of_pairwise (le := (· ≤ ·)) (fun a b _ _ x y => Int.le_antisymm x y) hmm h2 (hp.trans h1.symm)
  rw [e]
  exact .lst (.inl (.inl upd_same)) ints_vs
end
end Rs

/-! Ma: rows of houses, ways. -/
namespace Ma
open PySem
abbrev Rows := List (List Nat)
abbrev nI (n : Nat) : PyData := .int (n : Int)
abbrev dRow (r : List Nat) : PyData := .tuple (r.map nI)
abbrev dRows (rs : Rows) : PyData := .tuple (rs.map dRow)
abbrev Asc (r : List Nat) : Prop := r.Pairwise (· < ·)
/-- the rows of a web -/
structure Ok (rs : Rows) : Prop where
  pos : 1 ≤ rs.length
  le : rs.length ≤ 5
  asc : ∀ r ∈ rs, Asc r
  lt : ∀ r ∈ rs, ∀ x ∈ r, x < rs.length
  ne : ∀ (i : Nat) r, rs[i]? = some r → i ∉ r
abbrev row (rs : Rows) (y : Nat) : List Nat := rs.getD y []
theorem row_get {rs : Rows} {y : Nat} {r : List Nat} (h : rs[y]? = some r) : row rs y = r := by
  rw [row, List.getD_eq_getElem?_getD, h]; rfl
theorem get_row {rs : Rows} {y : Nat} (h : y < rs.length) : rs[y]? = some (row rs y) := by
  rw [row, List.getD_eq_getElem?_getD, List.getElem?_eq_getElem h]; rfl
theorem Ok.row_asc {rs : Rows} (o : Ok rs) (y : Nat) : Asc (row rs y) := by
  by_cases h : y < rs.length
  · exact o.asc _ (List.mem_of_getElem? (get_row h))
  · rw [row, List.getD_eq_getElem?_getD, List.getElem?_eq_none (by omega)]; exact .nil
theorem Ok.row_lt {rs : Rows} (o : Ok rs) {y x : Nat} (h : x ∈ row rs y) : x < rs.length := by
  by_cases hy : y < rs.length
  · exact o.lt _ (List.mem_of_getElem? (get_row hy)) x h
  · rw [row, List.getD_eq_getElem?_getD, List.getElem?_eq_none (by omega)] at h; cases h
theorem Ok.row_ne {rs : Rows} (o : Ok rs) {y : Nat} : y ∉ row rs y := by
  by_cases hy : y < rs.length
  · exact o.ne y _ (get_row hy)
  · rw [row, List.getD_eq_getElem?_getD, List.getElem?_eq_none (by omega)]; simp
/-- ways lead from h to y -/
inductive Reach (rs : Rows) (h : Nat) : Nat → Prop
  | refl : Reach rs h h
  | step {x y : Nat} : Reach rs h x → y < rs.length → x ∈ row rs y → Reach rs h y
open Classical in
noncomputable def reachL (rs : Rows) (h : Nat) : List Nat := (List.range rs.length).filter fun y => decide (Reach rs h y)
open Classical in
theorem mem_reachL {rs : Rows} {h y : Nat} : y ∈ reachL rs h ↔ y < rs.length ∧ Reach rs h y := by
  unfold reachL
  rw [List.mem_filter, List.mem_range, decide_eq_true_eq]
theorem asc_range (n : Nat) : Asc (List.range n) := List.pairwise_lt_range
theorem asc_reachL {rs : Rows} {h : Nat} : Asc (reachL rs h) := (asc_range _).filter _
theorem asc_nodup {l : List Nat} (h : Asc l) : l.Nodup := h.imp fun x => Nat.ne_of_lt x
theorem asc_one {l m : List Nat} (h1 : Asc l) (h2 : Asc m) (h : ∀ k, k ∈ l ↔ k ∈ m) : l = m :=
  List.Perm.eq_of_pairwise (le := (· < ·)) (fun a b _ _ x y => absurd x (Nat.lt_asymm y)) h1 h2 ((List.perm_ext_iff_of_nodup (asc_nodup h1) (asc_nodup h2)).mpr h)
theorem len_reachL {rs : Rows} {h : Nat} : (reachL rs h).length ≤ rs.length := by
  unfold reachL
  exact Nat.le_trans (List.length_filter_le _ _) (by rw [List.length_range]; exact Nat.le_refl _)
/-! ### the search -/
open Classical in
/-- who hears here among the first i houses, and is not found -/
noncomputable def newOf (rs : Rows) (here : Nat) (f : List Nat) (i : Nat) : List Nat := (List.range i).filter fun y => decide (here ∈ row rs y ∧ y ∉ f)
theorem mem_new {rs : Rows} {here : Nat} {f : List Nat} {i y : Nat} : y ∈ newOf rs here f i ↔ y < i ∧ here ∈ row rs y ∧ y ∉ f := by
  unfold newOf
  rw [List.mem_filter, List.mem_range, decide_eq_true_eq]
theorem new_yes {rs : Rows} {here : Nat} {f : List Nat} {i : Nat} (h : here ∈ row rs i ∧ i ∉ f) : newOf rs here f (i + 1) = newOf rs here f i ++ [i] := by
  unfold newOf
  rw [List.range_succ, List.filter_append]
  congr 1
  rw [List.filter_cons, decide_eq_true h]; rfl
theorem new_no {rs : Rows} {here : Nat} {f : List Nat} {i : Nat} (h : ¬ (here ∈ row rs i ∧ i ∉ f)) : newOf rs here f (i + 1) = newOf rs here f i := by
  unfold newOf
  rw [List.range_succ, List.filter_append, List.filter_cons, decide_eq_false h]
  simp
structure Dfs (rs : Rows) (h : Nat) (f wt : List Nat) : Prop where
  nd : f.Nodup
  mem : h ∈ f
  lt : ∀ x ∈ f, x < rs.length
  re : ∀ x ∈ f, Reach rs h x
  sub : ∀ x ∈ wt, x ∈ f
  cl : ∀ x ∈ f, x ∉ wt → ∀ y, y < rs.length → x ∈ row rs y → y ∈ f
theorem Dfs.start {rs : Rows} {h : Nat} (hh : h < rs.length) : Dfs rs h [h] [h] :=
  ⟨by simp, by simp, by simp [hh], fun x hx => by rw [List.mem_singleton.mp hx]; exact .refl, fun x hx => hx, fun x hx hn => absurd hx hn⟩
theorem Dfs.next {rs : Rows} {h here : Nat} {f wt : List Nat} (D : Dfs rs h f (wt ++ [here])) : Dfs rs h (f ++ newOf rs here f rs.length) (wt ++ newOf rs here f rs.length) := by
  have hf : here ∈ f := D.sub _ (by simp)
  refine ⟨?_, List.mem_append_left _ D.mem, fun x hx => ?_, fun x hx => ?_, fun x hx => ?_, fun x hx hn y hy hxy => ?_⟩
  · refine List.nodup_append.mpr ⟨D.nd, ?_, fun a ha b hb e => ?_⟩
    · unfold newOf; exact List.nodup_range.filter _
    · subst e; exact (mem_new.mp hb).2.2 ha
  · rcases List.mem_append.mp hx with z | z
    · exact D.lt x z
    · exact (mem_new.mp z).1
  · rcases List.mem_append.mp hx with z | z
    · exact D.re x z
    · have q := mem_new.mp z
      exact .step (D.re _ hf) q.1 q.2.1
  · rcases List.mem_append.mp hx with z | z
    · exact List.mem_append_left _ (D.sub x (List.mem_append_left _ z))
    · exact List.mem_append_right _ z
  · rw [List.mem_append, not_or] at hn
    rcases List.mem_append.mp hx with z | z
    · by_cases e : x = here
      · subst e
        by_cases hyf : y ∈ f
        · exact List.mem_append_left _ hyf
        · exact List.mem_append_right _ (mem_new.mpr ⟨hy, hxy, hyf⟩)
      · refine List.mem_append_left _ (D.cl x z (fun w => ?_) y hy hxy)
        rcases List.mem_append.mp w with w | w
        · exact hn.1 w
        · exact e (List.mem_singleton.mp w)
    · exact absurd z hn.2
theorem nodup_len : ∀ (n : Nat) (f : List Nat), f.Nodup → (∀ x ∈ f, x < n) → f.length ≤ n
  | 0, [], _, _ => Nat.le_refl _
  | 0, x :: _, _, h => absurd (h x List.mem_cons_self) (Nat.not_lt_zero _)
  | n + 1, f, h1, h2 => by
    have ih := nodup_len n (f.erase n) (h1.erase n) fun x hx => by
      have q := (List.Nodup.mem_erase_iff h1).mp hx
      have := h2 x q.2
      omega
    rw [List.length_erase] at ih
    split at ih <;> omega
theorem Dfs.len {rs : Rows} {h : Nat} {f wt : List Nat} (D : Dfs rs h f wt) : f.length ≤ rs.length := nodup_len _ _ D.nd D.lt
theorem Dfs.done {rs : Rows} {h : Nat} {f : List Nat} (D : Dfs rs h f []) {x : Nat} : x ∈ f ↔ x ∈ reachL rs h := by
  rw [mem_reachL]
  constructor
  · exact fun hx => ⟨D.lt x hx, D.re x hx⟩
  · rintro ⟨h0, r⟩
    clear h0
    induction r with
    | refl => exact D.mem
    | step r hy hxy ih => exact D.cl _ ih (by simp) _ hy hxy
theorem Dfs.perm {rs : Rows} {h : Nat} {f : List Nat} (D : Dfs rs h f []) : (reachL rs h).Perm f :=
  (List.perm_ext_iff_of_nodup (asc_nodup asc_reachL) D.nd).mpr fun x => D.done.symm
end Ma

/-! Rn: runs over rows of houses. -/
namespace Rs
open PySem PySem.Spec PyProof.Rows L2 SlX StX Ma
abbrev cI (r : List Nat) : List Int := r.map fun (n : Nat) => (n : Int)
theorem row_int {r : List Nat} : r.map nI = (cI r).map PyData.int := by rw [List.map_map]; rfl
theorem dRow_int {r : List Nat} : dRow r = .tuple ((cI r).map PyData.int) := congrArg PyData.tuple row_int
theorem mem_cI {r : List Nat} {n : Nat} : ((n : Int) ∈ cI r) ↔ n ∈ r := by
  rw [cI, List.mem_map]
  constructor
  · rintro ⟨a, h, e⟩
    have e' : a = n := by omega
    rw [← e']; exact h
  · exact fun h => ⟨n, h, rfl⟩
theorem asc_cI {r : List Nat} (h : Asc r) : (cI r).Pairwise (· < ·) := List.pairwise_map.mpr (h.imp fun x => by omega)
theorem cI_inj {r q : List Nat} : cI r = cI q ↔ r = q := by
  constructor
  · intro h
    have := congrArg (List.map Int.toNat) h
    simpa [cI, List.map_map, Function.comp_def] using this
  · intro h; rw [h]
section
variable {K : PySem.W.Frag} {w : World} {σ : L2.St} {F : Hp} {L : Cells} {R : VP} {Rs : List VP} {t : TA} {te ta tb : TE}
theorem seqI_row {r : List Nat} {v : V} {F1 : Hp} (h : Dt K (dRow r) v F1) : seqI (cI r) v F1 K := seqI_t (dRow_int ▸ h)
theorem r_inN {i : Nat} {r : List Nat} (ha : Run (ta σ) F L (Dt K (nI i))) (hb : Run (tb σ) F L (Dt K (dRow r))) : Run (tOp (rIn K false) ta tb σ) F L (Dt K (.bool (decide (i ∈ r)))) :=
  r_is (r_in ha hb fun v F1 h => seqI_row h) (congrArg PyData.bool (decide_eq_decide.mpr mem_cI))
theorem r_notInN {i : Nat} {r : List Nat} (ha : Run (ta σ) F L (Dt K (nI i))) (hb : Run (tb σ) F L (Dt K (dRow r))) : Run (tOp (rIn K true) ta tb σ) F L (Dt K (.bool (!decide (i ∈ r)))) :=
  r_is (r_notIn ha hb fun v F1 h => seqI_row h) (congrArg (fun b => PyData.bool (!b)) (decide_eq_decide.mpr mem_cI))
theorem r_eqN {i j : Nat} (ha : Run (ta σ) F L (Dt K (nI i))) (hb : Run (tb σ) F L (Dt K (nI j))) : Run (tOp rEq ta tb σ) F L (Dt K (.bool (decide (i = j)))) :=
  r_is (r_eqI ha hb) (congrArg PyData.bool (decide_eq_decide.mpr (by omega)))
theorem r_neN {i j : Nat} (ha : Run (ta σ) F L (Dt K (nI i))) (hb : Run (tb σ) F L (Dt K (nI j))) : Run (tOp rNe ta tb σ) F L (Dt K (.bool (!decide (i = j)))) :=
  r_is (r_neI ha hb) (congrArg (fun b => PyData.bool (!b)) (decide_eq_decide.mpr (by omega)))
theorem r_lnN {α : Type} {f : α → PyData} {xs : List α} (h : Run (t σ) F L (Each [Dt K (.tuple (xs.map f))])) : Run (tCB (rLn K) t σ) F L (Dt K (nI xs.length)) := by
  have q := r_lnTD h
  rwa [List.length_map] at q
/-- the row of a house -/
theorem r_rowN {rs : Rows} {n : Nat} (ha : Run (ta σ) F L (Dt K (dRows rs))) (hb : Run (tb σ) F L (Dt K (nI n))) (hn : n < rs.length) : Run (tOp (rIxT K) ta tb σ) F L (Dt K (dRow (row rs n))) :=
  r_ixT ha hb (by rw [List.getElem?_map, get_row hn]; rfl)
theorem pairs_get {ds : List PyData} {i : Nat} {S : VP} (h : (Pairs K (ds.map (Dt K)))[i]? = some S) : ∃ d, ds[i]? = some d ∧ S = Tp K [Dt K (nI i), Dt K d] := by
  unfold Pairs at h
  rw [List.getElem?_mapIdx, List.getElem?_map] at h
  cases e : ds[i]? with
  | none => rw [e] at h; cases h
  | some d =>
    rw [e] at h
    cases h
    exact ⟨d, rfl, rfl⟩
theorem pairs_len {Rs : List VP} : (Pairs K Rs).length = Rs.length := by unfold Pairs; rw [List.length_mapIdx]
end
/-! ### dicts by houses -/
def kvT (f : List Nat) : List (Key × V) := f.map fun (x : Nat) => ((Sum.inl (x : Int) : Key), V.bl true)
theorem kvT_val {f : List Nat} {n : Nat} : (valV (kvT f) (Sum.inl (n : Int))).isSome = decide (n ∈ f) := by
  induction f with
  | nil => rfl
  | cons a f ih =>
    show (valV (((Sum.inl (a : Int) : Key), V.bl true) :: kvT f) _).isSome = _
    by_cases h : a = n
    · subst h; rw [valV_pos rfl]; simp
    · rw [valV_neg (fun z => h (by have := Sum.inl.inj z; omega)), ih]
      have h' : ¬ n = a := fun z => h z.symm
      simp [h']
theorem kvT_put {f : List Nat} {n : Nat} (h : n ∉ f) : putK (kvT f) (Sum.inl (n : Int)) (V.bl true) = kvT (f ++ [n]) := by
  rw [putK_new _ (by
    cases e : valV (kvT f) (Sum.inl (n : Int) : Key) with
    | none => rfl
    | some v =>
      have q := kvT_val (f := f) (n := n)
      rw [e, decide_eq_false h] at q
      cases q)]
  unfold kvT
  rw [List.map_append]; rfl
theorem kvT_len {f : List Nat} : (kvT f).length = f.length := by unfold kvT; rw [List.length_map]
abbrev vN (w : List Nat) : List V := w.map fun (n : Nat) => V.int (n : Int)
end Rs

/-! Rs8: objects with slots: made, told, asked. -/
namespace Rs
open PySem PySem.Spec PyProof.Rows L2 SlX StX
/-- the slots is of vs are xs -/
def Got (is : List Nat) (xs : List V) (vs : List (Option V)) : Prop := is.length = xs.length ∧ ∀ (k i : Nat) (x : V), is[k]? = some i → xs[k]? = some x → vs[i]? = some (some x)
theorem got_nil : Got [] [] [] := ⟨rfl, fun k i x h => by cases h⟩
theorem Got.put {is : List Nat} {xs : List V} {vs : List (Option V)} {i : Nat} {x : V} (g : Got is xs vs) (h : i ∉ is) : Got (is ++ [i]) (xs ++ [x]) (putS i x vs) := by
  refine ⟨by rw [List.length_append, List.length_append, g.1]; rfl, fun k j y hk hy => ?_⟩
  by_cases hl : k < is.length
  · rw [List.getElem?_append_left hl] at hk
    rw [List.getElem?_append_left (by rw [← g.1]; exact hl)] at hy
    have hne : j ≠ i := fun z => h (z ▸ List.mem_of_getElem? hk)
    exact (putS_ne hne).mpr (g.2 k j y hk hy)
  · rw [List.getElem?_append_right (by omega)] at hk
    rw [List.getElem?_append_right (by rw [← g.1]; omega)] at hy
    have e0 : k - is.length = 0 := by
      cases z : k - is.length with
      | zero => rfl
      | succ m => rw [z] at hk; cases hk
    rw [e0] at hk
    rw [← g.1, e0] at hy
    cases hk; cases hy
    exact putS_get i x vs
/-- an object of the class at C with slots stands -/
def Ob (C : Addr) (is : List Nat) (Rs : List VP) : VP := fun v F => ∃ a dx vs xs, v = .ref a ∧ F a = some (SlO a C dx vs) ∧ F dx = some (.xd []) ∧ Got is xs vs ∧ Each Rs xs F
instance {C : Addr} {is : List Nat} {Rs : List VP} [MonoL Rs] : Mono (Ob C is Rs) := ⟨fun _ _ _ e ⟨a, dx, vs, xs, h, h1, h2, g, r⟩ => ⟨a, dx, vs, xs, h, e _ _ h1, e _ _ h2, g, MonoL.mono _ _ _ e r⟩⟩
def IsOb (C : Addr) : VP := fun v F => ∃ a dx vs, v = .ref a ∧ F a = some (SlO a C dx vs) ∧ F dx = some (.xd [])
instance {C : Addr} : Mono (IsOb C) := ⟨fun _ _ _ e ⟨a, dx, vs, h, h1, h2⟩ => ⟨a, dx, vs, h, e _ _ h1, e _ _ h2⟩⟩
theorem Ob.is {C : Addr} {is : List Nat} {Rs : List VP} {v : V} {F : Hp} (h : Ob C is Rs v F) : IsOb C v F := by
  obtain ⟨a, dx, vs, xs, h, h1, h2, _⟩ := h
  exact ⟨a, dx, vs, h, h1, h2⟩
theorem at_slt {C a dx : Addr} {vs : List (Option V)} {F H : Hp} {L : Cells} (A : At F L H) (h1 : F a = some (SlO a C dx vs)) (h2 : F dx = some (.xd [])) : Slt H a C dx vs := .inr ⟨A.ex _ _ h1, A.ex _ _ h2⟩
/-- a slot of the text -/
def SlF (K : PySem.W.Frag) (C : Addr) (f : Str) (i : Nat) : Prop := SCls K C ∧ ∃ p, Slot1 K C f p i
section
variable {K : PySem.W.Frag} {σ : L2.St} {F : Hp} {L : Cells} {Nx : L2.St → Hp → Cells → Prop} {Rt R : VP} {Rs : List VP} {t u : TS} {ta tv te : TE} {tt : TA} {C : Addr} {is : List Nat} {f : Str} {i : Nat} {E : XK}
theorem r_fld [MonoL Rs] {k : Nat} (s : SlF K C f i) (h : Run (ta σ) F L (Ob C is Rs)) (hk : is[k]? = some i) (hR : Rs[k]? = some R) : Run (tSl K ta f σ) F L R := fun F1 N H e A Q q => by
  refine h F1 N H e A _ fun v F2 H2 e2 A2 hv => ?_
  obtain ⟨a, dx, vs, xs, rfl, h1, h2, g, r⟩ := hv
  obtain ⟨sc, p, sp⟩ := s
  have hl : k < xs.length := by rw [← g.1]; exact (List.getElem?_eq_some_iff.mp hk).1
  obtain ⟨R', hR', hx⟩ := each_at r (List.getElem?_eq_getElem hl)
  rw [hR] at hR'
  cases hR'
  exact ⟨a, C, dx, p, vs, i, xs[k], rfl, at_slt A2 h1 h2, sc, sp, g.2 k i _ hk (List.getElem?_eq_getElem hl), q _ F2 H2 e2 A2 hx⟩
/-- of an object that is still one's own -/
theorem r_sown {a dx : Addr} {vs : List (Option V)} {v : V} [Mono R] (s : SlF K C f i) (h : Run (ta σ) F L (Eqv (.ref a))) (m1 : (a, SlO a C dx vs) ∈ L) (m2 : (dx, HO.xd []) ∈ L) (hv : vs[i]? = some (some v)) (hR : R v F) : Run (tSl K ta f σ) F L R := fun F1 N H e A Q q => by
  refine h F1 N H e A _ fun v F2 H2 e2 A2 hv' => ?_
  obtain rfl : v = .ref a := hv'
  obtain ⟨sc, p, sp⟩ := s
  exact ⟨a, C, dx, p, vs, i, _, rfl, .inr ⟨A2.mem m1, A2.mem m2⟩, sc, sp, hv, q _ F2 H2 e2 A2 (Mono.go hR (e.trans e2))⟩
inductive SCell (a C dx : Addr) : List (Option V) → HO → HO → Prop
  | new : SCell a C dx [] (.ins C dx []) (.own a)
  | old (vs : List (Option V)) : SCell a C dx vs (SlO a C dx vs) (.xd [])
theorem SCell.slt {a C dx : Addr} {vs : List (Option V)} {o o2 : HO} {H : Hp} (c : SCell a C dx vs o o2) (h1 : H a = some o) (h2 : H dx = some o2) : Slt H a C dx vs := by
  cases c with
  | new => exact .inl ⟨h1, rfl⟩
  | old => exact .inr ⟨h1, h2⟩
theorem s_slset [Mono R] {a dx : Addr} {vs : List (Option V)} {o o2 : HO} (s : SlF K C f i) (hc : SCell a C dx vs o o2) (ho : Run (ta σ) F ((a, o) :: (dx, o2) :: L) (Eqv (.ref a))) (hv : Run (tv σ) F ((a, o) :: (dx, o2) :: L) R)
    (k : ∀ v F1, Same F F1 → R v F1 → Nx σ F1 ((a, SlO a C dx (putS i v vs)) :: (dx, .xd []) :: L)) : RunS (sSl K ta tv f) σ F ((a, o) :: (dx, o2) :: L) Nx Rt := fun F1 N H e A D q r => by
  refine hv F1 N H e A _ fun v F2 H2 e2 A2 hv => ?_
  refine (ho.up (e.trans e2)) F2 N H2 (Same.refl _) A2 _ fun x F3 H3 e3 A3 hx => ?_
  obtain rfl : x = .ref a := hx
  obtain ⟨sc, p, sp⟩ := s
  refine ⟨a, C, dx, p, vs, i, rfl, hc.slt (A3.on _ List.mem_cons_self) (A3.on _ (List.mem_cons_of_mem _ List.mem_cons_self)), sc, sp, ?_⟩
  have A4 : At F3 ((a, SlO a C dx (putS i v vs)) :: (dx, .xd []) :: (L ++ N)) (slH H3 a C dx (putS i v vs)) := At.put (((A3.perm (List.Perm.swap _ _ _)).put (u := .xd [])).perm (List.Perm.swap _ _ _)) (by intro _ z; unfold SlO at z; nomatch z)
  exact q σ F3 _ _ (e2.trans e3) A4 (k v F3 (e.trans (e2.trans e3)) (Mono.go hv e3))
theorem q_slset [Mono R] {a dx : Addr} {vs : List (Option V)} {o o2 : HO} (s : SlF K C f i) (hc : SCell a C dx vs o o2) (ho : Run (ta σ) F ((a, o) :: (dx, o2) :: L) (Eqv (.ref a))) (hv : Run (tv σ) F ((a, o) :: (dx, o2) :: L) R)
    (k : ∀ v F1, Same F F1 → R v F1 → RunS u σ F1 ((a, SlO a C dx (putS i v vs)) :: (dx, .xd []) :: L) Nx Rt) : RunS (tSeq (sSl K ta tv f) u) σ F ((a, o) :: (dx, o2) :: L) Nx Rt :=
  s_seq (Mid := fun σ' F' L' => ∃ v, σ' = σ ∧ R v F' ∧ L' = (a, SlO a C dx (putS i v vs)) :: (dx, .xd []) :: L) (s_slset s hc ho hv fun v F1 e hr => ⟨v, rfl, hr, rfl⟩) fun σ' F' L' e ⟨v, h1, h2, h3⟩ => by
    subst h1; subst h3; exact k v F' e h2
/-! made -/
def SpI {γ : Type} (C : Addr) (pre : γ → Prop) (Rs : γ → List VP) (R : γ → VP) : Sp := fun vs H Q _ => ∃ g F N a dx ws, vs = .ref a :: ws ∧ pre g ∧ At F ((a, .ins C dx []) :: (dx, .own a) :: N) H ∧ Each (Rs g) ws F ∧ ∀ F' H', Same F F' → At F' N H' → R g (.ref a) F' → Q .non H'
theorem r_mk {γ : Type} {pre : γ → Prop} {Rs : γ → List VP} {R : γ → VP} (g : γ) (hp : pre g) [MonoL (Rs g)] (h : Run (tt σ) F L (Each (Rs g))) : Run (tMake C (SpI C pre Rs R) [] E tt σ) F L (R g) := run_bind (k := tt σ) h fun vs F1 e1 hv => fun F2 N H e2 A Q q x dx h1 h2 h3 => by
  rw [List.append_nil]
  refine ⟨g, F2, L ++ N, x, dx, vs, rfl, hp, ?_, MonoL.mono _ _ _ e2 hv, fun F' H' e' A' hr => ⟨rfl, q _ F' H' e' A' hr⟩⟩
  refine (A.cell (o := .own x) h2).cell (o := .ins C dx []) (a := x) ?_
  rw [upd_ne h3.symm]; exact h1
end
structure MkF (P : Program) (w : World) (K : PySem.W.Frag) (mg : Str → Option Value) (base : Heap) (k : Nat) (x : Str) (C : Addr) (sp : Sp) : Prop where
  ex : ∃ f fd ps, Mk K C f ∧ FnOk P w K mg base CX0 k f fd ps sp ∧ mg x = some (.ref C) ∧ Binds K fd ps []
section
variable {X : Cx} {e o : Expr} {es : List Expr} {t : TA} {ta : TE} {p pos apos : Pos} {f x m : Str}
theorem p_mk {k j : Nat} {C : Addr} {sp : Sp} (c : MkF X.prog X.w X.K X.mg X.base k x C sp) (hr : Room j X.A) (hk : k + 1 ≤ j) (ha : PA X (e :: es) t) (hg : Gl X x := by rfl)
    (hdb : (x == ("__debug__" : Str)) = false := by decide) (he : starEach (e :: es) X.env = (false, eval e X.env) :: starEach es X.env := by rfl) (hpl : (backTo pos (starEach es X.env)).any (·.1) = false := by rfl) :
    PE X (.Call (.Name x p) (e :: es) [] pos) (tMake C sp [] E0 t) := by
  obtain ⟨f, fd, ps, M, F, hm, b⟩ := c.ex
  exact pe_make M F (hr.mono hk) hg hm b .nil pass0 ha hdb he hpl
theorem p_met0 {k j : Nat} {C : Addr} {sp : Sp} {pl : Sem Bool} (c : MetS X.prog X.w X.K X.mg X.base k C m sp) (hr : Room j X.A) (hk : k ≤ j) (he : PE X o ta)
    (ht : eval (.Call (.Attribute o m apos) [] [] pos) X.env = (do
      let ov ← eval o X.env
      standAt apos.atName
      let (f, first) ← holding [ov] (getMethod ov m pl)
      callWith pos f first (backTo pos (starEach [] X.env)) (backToKw pos (keywordEach [] X.env))) := by rfl) :
    PE X (.Call (.Attribute o m apos) [] [] pos) (tMethSl C sp E0 ta tNil) := by
  obtain ⟨g, sc, me, F⟩ := c.ex
  exact pe_methSl0 (pl := pl) he sc me F (hr.mono hk) pass0 ht
end
section
variable {P : Program} {w : World} {K : PySem.W.Frag} {mg : Str → Option Value} {base : Heap}
theorem init_ok {x qual : Str} {st : Stmt} {f C : Addr} {fd : FuncData} {N ps : List Str} {k : Nat} {γ : Type} {pre : γ → Prop} {Rs : γ → List VP} {R : γ → VP} (F : Fun K x qual st f fd) (S : FnScope N ps (defScope st)) (len : ∀ g, (Rs g).length + 1 = ps.length)
    (body : ∀ (cdv : Value) (A : Around) (outer : List Env) (s : Shared) (H : Hp) (E : XK) (g : γ) (a dx : Addr) (vs : List V) (F0 : Hp), Room k (A.deeper (envOfC qual (defScope st) s.heap.objs.size f cdv)) → pre g → Each (Rs g) vs F0 →
      ∃ t, PSs (cxOf CX0 P w K mg base N qual (defScope st) f cdv A outer s H E).nox (defBody st) t ∧ RunS t (start N (.ref a :: vs)) F0 [(a, .ins C dx []), (dx, .own a)] (fun _ F' L' => ∃ o o2, L' = [(a, o), (dx, o2)] ∧ ∀ F2, Same F' F2 → F2 a = some o → F2 dx = some o2 → R g (.ref a) F2) (fun _ _ => False)) :
    FnOk P w K mg base CX0 (k + 1) f fd ps (SpI C pre Rs R) := by
  refine F.ok S (fun vs H Q E ⟨g, F0, N0, a, dx, ws, e, hp, A, hv, q⟩ => ?_) fun cdv A outer s H vs Q E hr ⟨g, F0, N0, a, dx, ws, e, hp, A0, hv, q⟩ => ?_
  · subst e
    rw [List.length_cons, each_length hv]; exact len g
  · subst e
    obtain ⟨t, h1, h2⟩ := body cdv A outer s H E g a dx ws F0 hr hp hv
    refine ⟨t, h1, h2 F0 N0 H (Same.refl _) A0 _ (fun _ F' L' H' e' A' n => ?_) fun v F' H' e' A' r => r.elim⟩
    obtain ⟨o, o2, rfl, n⟩ := n
    have A1 : At (upd F' a o) ((dx, o2) :: N0) H' := At.keep A'
    have A2 : At (upd (upd F' a o) dx o2) N0 H' := At.keep A1
    have hne : a ≠ dx := fun z => by
      have := A1.off1
      rw [z, upd_same] at this; cases this
    have s1 : Same F' (upd (upd F' a o) dx o2) := (same_new A'.off1).trans (same_new A1.off1)
    exact q _ H' (e'.trans s1) A2 (n _ s1 (by rw [upd_ne hne, upd_same]) upd_same)
/-- by values alone -/
theorem fnr_mk {f : Addr} {fd : FuncData} {ps : List Str} {k : Nat} {sp : Sp} (G : FnOk P w K mg base CX0 k f fd ps sp) (b : Binds K fd ps []) : FnR P w K mg base CX0 k f sp :=
  (G.raw b .nil).imp fun vs H Q E h => by rw [List.append_nil]; exact h
end
section
variable {K : PySem.W.Frag} {σ : L2.St} {F : Hp} {L : Cells} {γ : Type} {pre : γ → Prop} {Rs : γ → List VP} {R : γ → VP} {S : VP} {Ss : List VP} {ta : TE} {tt : TA} {C : Addr} {E : XK}
theorem r_met (g : γ) (hp : pre g) [MonoL (Rs g)] [Mono S] (hg : Rs g = S :: Ss) (ho : Run (ta σ) F L S) (hS : ∀ v F1, S v F1 → IsOb C v F1) (h : Run (tt σ) F L (Each Ss)) : Run (tMethSl C (SpF pre Rs R) E ta tt σ) F L (R g) := fun F1 N H e A Q q => by
  refine ho F1 N H e A _ fun v F2 H2 e2 A2 hv => ?_
  obtain ⟨a, dx, vs, rfl, h1, h2⟩ := hS _ _ hv
  refine ⟨a, dx, vs, rfl, at_slt A2 h1 h2, ?_⟩
  refine (h.up (e.trans e2)) F2 N H2 (Same.refl _) A2 _ fun ws F3 H3 e3 A3 hw => ?_
  refine ⟨g, F3, L ++ N, hp, A3, ?_, fun v F4 H4 e4 A4 r => q v F4 H4 (e2.trans (e3.trans e4)) A4 r⟩
  rw [hg]
  exact ⟨Mono.go hv e3, hw⟩
theorem r_prp (g : γ) (hp : pre g) (hg : Rs g = [S]) (ho : Run (ta σ) F L S) (hS : ∀ v F1, S v F1 → IsOb C v F1) : Run (tPropSl C (SpF pre Rs R) E ta σ) F L (R g) := fun F1 N H e A Q q => by
  refine ho F1 N H e A _ fun v F2 H2 e2 A2 hv => ?_
  obtain ⟨a, dx, vs, rfl, h1, h2⟩ := hS _ _ hv
  refine ⟨a, dx, vs, rfl, at_slt A2 h1 h2, ?_⟩
  refine ⟨g, F2, L ++ N, hp, A2, ?_, fun v F4 H4 e4 A4 r => q v F4 H4 (e2.trans e4) A4 r⟩
  rw [hg]
  exact ⟨hv, True.intro⟩
end
end Rs

/-! Rs9: a comprehension of two fors. -/
namespace Rs
open PySem PySem.Spec PyProof.Rows L2 SlX StX
def flat {ι κ : Type} (ys : ι → List κ) (xs : List ι) : List (ι × κ) := xs.flatMap fun x => (ys x).map fun y => (x, y)
theorem flat_take {ι κ : Type} {ys : ι → List κ} {xs : List ι} {i : Nat} {x : ι} (h : xs[i]? = some x) : flat ys (xs.take (i + 1)) = flat ys (xs.take i) ++ (ys x).map fun y => (x, y) := by
  unfold flat
  rw [List.take_succ, h, List.flatMap_append]
  simp
theorem flat_le {ι κ : Type} {ys : ι → List κ} {xs : List ι} {i : Nat} : (flat ys (xs.take i)).length ≤ (flat ys xs).length := by
  conv => rhs; rw [← List.take_append_drop i xs]
  unfold flat
  rw [List.flatMap_append, List.length_append]
  omega
section
variable {K : PySem.W.Frag} {σ : L2.St} {F : Hp} {L : Cells} {wi wi1 : TI} {g g1 : TG} {te : TE} {vs vs1 : List Nat}
theorem r_lc2 {ι κ : Type} {Ri : ι → VP} {Rj Re : ι → κ → VP} {xs : List ι} {ys : ι → List κ} [∀ x y, Mono (Re x y)] (h : Run (wi σ) F L (fun J F1 => Seqs J (xs.map Ri) F1)) (hz : (flat ys xs).length ≤ 40000)
    (ht : ∀ x v F1, Same F F1 → x ∈ xs → Ri x v F1 → RunG g v (wipe σ vs) F1 L fun σ2 F2 => wipe σ2 vs = wipe σ vs ∧ Run (wi1 σ2) F2 L (fun J F3 => Seqs J ((ys x).map (Rj x)) F3) ∧
      ∀ y u F3, Same F2 F3 → y ∈ ys x → Rj x y u F3 → RunG g1 u (wipe σ2 vs1) F3 L fun σ3 F4 => wipe σ3 vs1 = wipe σ2 vs1 ∧ Run (te σ3) F4 L (Re x y)) :
    Run (tLc2 wi g tYes wi1 g1 tYes te vs vs1 σ) F L (Ln ((flat ys xs).map fun p => Re p.1 p.2)) := fun F1 N H e A Q q =>
  h F1 N H e A _ fun J F2 H2 e2 A2 ⟨G, Y, wk, hG, hY⟩ D hD => by
    rw [List.length_map] at wk
    let Pv : Nat → Hp → Prop := fun i H' => ∃ F' acc, Same F2 F' ∧ At F' ((D, .lst acc) :: (L ++ N)) H' ∧ Each ((flat ys (xs.take i)).map fun p => Re p.1 p.2) acc F'
    refine ⟨fun i m H => m = xs.length - i ∧ i ≤ xs.length ∧ Pv i H, ⟨xs.length, by simp, Nat.zero_le _, F2, [], Same.refl _, A2.cell hD, by simp [flat, Each]⟩, ?_⟩
    rintro i m H0 ⟨rfl, hi0, F', acc, e', A', hacc⟩
    have q0 := hG F' _ H0 e' A'
    by_cases hi : i < xs.length
    · refine .inr ⟨wk.goes i H0 hi q0, Pv (i + 1), fun H' p' => ⟨xs.length - (i + 1), by omega, rfl, hi, p'⟩, fun x H4 y0 => ?_⟩
      have y := wk.yields i H0 x H4 hi q0 y0
      obtain ⟨F3, R, e3, A3, hR, hx⟩ := hY F' _ H0 i x H4 e' A' (by rw [List.length_map]; exact hi) y
      rw [List.getElem?_map] at hR
      have hxi : xs[i]? = some xs[i] := List.getElem?_eq_getElem hi
      rw [hxi] at hR
      cases hR
      have P0 : ∀ ac : List V, ((D, HO.lst ac) :: (L ++ N)).Perm (L ++ ((D, .lst ac) :: N)) := fun ac => List.perm_middle.symm
      refine ht xs[i] x F3 (((e.trans e2).trans e').trans e3) (List.getElem_mem hi) hx F3 ((D, .lst acc) :: N) H4 (Same.refl _) (A3.perm (P0 _)) _ fun σ2 F4 H5 e4 A4 ⟨hw, hi1, hin⟩ => ⟨hw, ?_⟩
      unfold tYes
      refine iteT ?_
      refine hi1 F4 ((D, .lst acc) :: N) H5 (Same.refl _) A4 _ fun J1 F5 H6 e5 A5 ⟨G1, Y1, wk1, hG1, hY1⟩ => ?_
      rw [List.length_map] at wk1
      let Pw : Nat → Hp → Prop := fun j H' => ∃ F' acc, Same F5 F' ∧ At F' ((D, .lst acc) :: (L ++ N)) H' ∧ Each ((flat ys (xs.take i) ++ ((ys xs[i]).take j).map fun y => (xs[i], y)).map fun p => Re p.1 p.2) acc F'
      refine ⟨fun j k H => k = (ys xs[i]).length - j ∧ j ≤ (ys xs[i]).length ∧ Pw j H, ⟨_, rfl, Nat.zero_le _, F5, acc, Same.refl _, A5.perm (P0 _).symm, ?_⟩, ?_⟩
      · rw [List.take_zero, List.map_nil, List.append_nil]
        exact Mono.go hacc ((e3.trans e4).trans e5)
      · rintro j k H7 ⟨rfl, hj0, F7, ac7, e7, A7, hac7⟩
        have q7 := hG1 F7 _ H7 e7 A7
        by_cases hj : j < (ys xs[i]).length
        · refine .inr ⟨wk1.goes j H7 hj q7, Pw (j + 1), fun H' p' => ⟨_, by omega, rfl, hj, p'⟩, fun u H8 y8 => ?_⟩
          have y9 := wk1.yields j H7 u H8 hj q7 y8
          obtain ⟨F8, R, e8, A8, hR, hu⟩ := hY1 F7 _ H7 j u H8 e7 A7 (by rw [List.length_map]; exact hj) y9
          rw [List.getElem?_map] at hR
          have hyj : (ys xs[i])[j]? = some (ys xs[i])[j] := List.getElem?_eq_getElem hj
          rw [hyj] at hR
          cases hR
          refine hin (ys xs[i])[j] u F8 ((e5.trans e7).trans e8) (List.getElem_mem hj) hu F8 ((D, .lst ac7) :: N) H8 (Same.refl _) (A8.perm (P0 _)) _ fun σ3 F9 H9 e9 A9 ⟨hw3, hv⟩ => ⟨hw3, ?_⟩
          refine iteT ?_
          refine hv F9 ((D, .lst ac7) :: N) H9 (Same.refl _) A9 _ fun z F10 H10 e10 A10 hz10 => ?_
          have A11 := A10.perm (P0 _).symm
          have hlen : ac7.length ≤ (flat ys xs).length := by
            rw [each_length hac7, List.length_map]
            refine Nat.le_trans ?_ (flat_le (i := i + 1))
            rw [flat_take hxi, List.length_append, List.length_append, List.length_map, List.length_map, List.length_take]
            omega
          refine ⟨ac7, A11.on1, len_lt (by omega), F10, ac7 ++ [z], ((e7.trans e8).trans e9).trans e10, A11.put, ?_⟩
          rw [List.take_succ, hyj, Option.toList_some, List.map_append, List.map_append, List.map_append, ← List.append_assoc, ← List.map_append]
          exact each_app (Mono.go hac7 ((e8.trans e9).trans e10)) ⟨hz10, True.intro⟩
        · have ej : j = (ys xs[i]).length := by omega
          subst ej
          refine .inl ⟨wk1.stops H7 q7, F7, ac7, (((e'.trans e3).trans e4).trans e5).trans e7, A7, ?_⟩
          rw [flat_take hxi]
          rw [List.take_length] at hac7
          exact hac7
    · have ei : i = xs.length := by omega
      subst ei
      rw [List.take_length] at hacc
      refine .inl ⟨wk.stops H0 q0, ?_⟩
      have A1 : At F' ((D, .lst acc) :: (L ++ N)) H0 := A'
      exact q (.ref D) (upd F' D (.lst acc)) H0 ((e2.trans e').trans (same_new A1.off1)) A1.keep ⟨D, acc, rfl, upd_same, Mono.go hacc (same_new A1.off1)⟩
end
end Rs

/-! Rw: what a web is. -/
namespace Rs
open PySem PySem.Spec PyProof.Rows L2 SlX StX Ma
noncomputable def reachs (rs : Rows) : Rows := (List.range rs.length).map (reachL rs)
noncomputable def rootsN (rs : Rows) : List Nat := (List.range rs.length).filter fun h => decide ((reachL rs h).length = rs.length)
def pairsN (rs : Rows) : List (Nat × Nat) := (flat (fun p : List Nat × Nat => p.1) rs.zipIdx).map fun q => (q.1.2, q.2)
abbrev dPair (p : Nat × Nat) : PyData := .tuple [nI p.1, nI p.2]
abbrev wIx : List Nat := [0, 4, 2, 3, 1]
noncomputable def webVs (K : PySem.W.Frag) (rs : Rows) : List VP := [Dt K (dRows rs), Dt K (nI rs.length), Dt K (dRows (reachs rs)), Dt K (dRow (rootsN rs)), Dt K (.tuple ((pairsN rs).map dPair))]
instance {K : PySem.W.Frag} {rs : Rows} : MonoL (webVs K rs) := by unfold webVs; infer_instance
noncomputable def webP (C : Addr) (K : PySem.W.Frag) (rs : Rows) : VP := fun v F => Ok rs ∧ Ob C wIx (webVs K rs) v F
instance {C : Addr} {K : PySem.W.Frag} {rs : Rows} : Mono (webP C K rs) := ⟨fun _ _ _ e h => ⟨h.1, Mono.go h.2 e⟩⟩
structure WebK (K : PySem.W.Frag) (C : Addr) : Prop where
  sc : SCls K C
  si : SIsi K C
  kit : PySem.W.kitOne K (.ref C) (.ref C) = some true
  heard : SlF K C "own_heard" 0
  size : SlF K C "own_size" 4
  reached : SlF K C "own_reached" 2
  roots : SlF K C "own_roots" 3
  pairs : SlF K C "own_pairs" 1
section
variable {K : PySem.W.Frag} {w : World} {σ : L2.St} {F : Hp} {L : Cells} {R : VP} {Rs : List VP} {t : TA} {te ta tb : TE} {C : Addr} {rs : Rows}
theorem each_map_dt {α : Type} {f : α → PyData} {xs : List α} {vs : List V} {F : Hp} : Each (xs.map fun x => Dt K (f x)) vs F ↔ Each ((xs.map f).map (Dt K)) vs F := by
  rw [List.map_map]; rfl
theorem r_tpD {α : Type} {f : α → PyData} {xs : List α} (h : Run (te σ) F L (Tp K (xs.map fun x => Dt K (f x)))) : Run (te σ) F L (Dt K (.tuple (xs.map f))) :=
  h.weak fun v F1 e hv => tp_dt.mp (by rw [List.map_map]; exact hv)
theorem r_lnD {α : Type} {f : α → PyData} {xs : List α} (h : Run (te σ) F L (Ln (xs.map fun x => Dt K (f x)))) : Run (te σ) F L (Dt K (.list (xs.map f))) :=
  h.weak fun v F1 e hv => ls_dt.mp (Ln.ls (by rw [List.map_map]; exact hv))
theorem r_tupLn {α : Type} {f : α → PyData} {xs : List α} (h : Run (te σ) F L (Ln (xs.map fun x => Dt K (f x)))) : Run (tCB (rTupOf K) (tCons te tNil) σ) F L (Dt K (.tuple (xs.map f))) :=
  r_tpD (r_tupL (r_cons (r_ls h) r_nil))
theorem i_enumRows {α : Type} {f : α → PyData} {xs : List α} (h : Run (te σ) F L (Dt K (.tuple (xs.map f)))) : Run (iEnumT K (tCons te tNil) σ) F L (fun J F1 => Seqs J (xs.zipIdx.map fun p => Tp K [Dt K (nI p.2), Dt K (f p.1)]) F1) := by
  have q := i_enumT (Rs := xs.map fun x => Dt K (f x)) (r_cons (h.weak fun v F1 e hv => by have := tp_dt.mpr hv; rwa [List.map_map] at this) r_nil)
  rwa [pairs_map] at q
theorem i_rangeN {n : Nat} (h : Run (te σ) F L (Dt K (nI n))) (hn : n ≤ 1000) : Run (iRng1 (tCons te tNil) σ) F L (fun J F1 => Seqs J ((List.range n).map fun i => Dt K (nI i)) F1) :=
  i_range (n := (n : Int)) (r_cons h r_nil) (by omega) (by omega)
theorem i_tupN {α : Type} {f : α → PyData} {xs : List α} (h : Run (te σ) F L (Dt K (.tuple (xs.map f)))) : Run (iTup K te σ) F L (fun J F1 => Seqs J (xs.map fun x => Dt K (f x)) F1) :=
  i_tup (h.weak fun v F1 e hv => by have := tp_dt.mpr hv; rwa [List.map_map] at this)
theorem i_lstN {α : Type} {f : α → PyData} {xs : List α} (h : Run (te σ) F L (Dt K (.list (xs.map f)))) : Run (iList K te σ) F L (fun J F1 => Seqs J (xs.map fun x => Dt K (f x)) F1) :=
  i_lst (h.weak fun v F1 e hv => by have := ls_dt.mpr hv; rwa [List.map_map] at this)
/-! what a web tells -/
theorem r_heard (W : WebK K C) (h : Run (ta σ) F L (webP C K rs)) : Run (tSl K ta "own_heard" σ) F L (Dt K (dRows rs)) := r_fld (k := 0) W.heard (h.weak fun _ _ _ q => q.2) rfl rfl
theorem r_size (W : WebK K C) (h : Run (ta σ) F L (webP C K rs)) : Run (tSl K ta "own_size" σ) F L (Dt K (nI rs.length)) := r_fld (k := 1) W.size (h.weak fun _ _ _ q => q.2) rfl rfl
theorem r_reached (W : WebK K C) (h : Run (ta σ) F L (webP C K rs)) : Run (tSl K ta "own_reached" σ) F L (Dt K (dRows (reachs rs))) := r_fld (k := 2) W.reached (h.weak fun _ _ _ q => q.2) rfl rfl
theorem r_roots (W : WebK K C) (h : Run (ta σ) F L (webP C K rs)) : Run (tSl K ta "own_roots" σ) F L (Dt K (dRow (rootsN rs))) := r_fld (k := 3) W.roots (h.weak fun _ _ _ q => q.2) rfl rfl
theorem r_pairs (W : WebK K C) (h : Run (ta σ) F L (webP C K rs)) : Run (tSl K ta "own_pairs" σ) F L (Dt K (.tuple ((pairsN rs).map dPair))) := r_fld (k := 4) W.pairs (h.weak fun _ _ _ q => q.2) rfl rfl
theorem webP.is {v : V} {F : Hp} (h : webP C K rs v F) : IsOb C v F := h.2.is
end
theorem reachs_data {rs : Rows} : PyData.tuple ((List.range rs.length).map fun i => dRow (reachL rs i)) = dRows (reachs rs) := by
  unfold reachs dRows; rw [List.map_map]; rfl
theorem reachs_len {rs : Rows} : (reachs rs).length = rs.length := by unfold reachs; rw [List.length_map, List.length_range]
theorem reachs_row {rs : Rows} {h : Nat} (hh : h < rs.length) : row (reachs rs) h = reachL rs h := row_get (by unfold reachs; rw [List.getElem?_map, List.getElem?_range hh]; rfl)
theorem zip_range {α : Type} {g : Nat → α} {n : Nat} : ((List.range n).map g).zipIdx = (List.range n).map fun i => (g i, i) := by
  apply List.ext_getElem
  · simp
  · intro i h1 h2
    simp
theorem roots_zip {rs : Rows} : ((reachs rs).zipIdx.filter fun p => decide (p.1.length = rs.length)).map (·.2) = rootsN rs := by
  unfold reachs rootsN
  rw [zip_range, List.filter_map, List.map_map]
  show List.map (fun x => x) _ = _
  rw [List.map_id']
  rfl
theorem roots_data {rs : Rows} : PyData.tuple (((reachs rs).zipIdx.filter fun p => decide (p.1.length = rs.length)).map fun p => nI p.2) = dRow (rootsN rs) := by
  rw [← roots_zip, dRow, List.map_map]; rfl
theorem pairs_flat {rs : Rows} : ((flat (fun p : List Nat × Nat => p.1) rs.zipIdx).map fun q => dPair (q.1.2, q.2)) = (pairsN rs).map dPair := by
  unfold pairsN; rw [List.map_map]; rfl
theorem flat_len {rs : Rows} (ok : Ok rs) : (flat (fun p : List Nat × Nat => p.1) rs.zipIdx).length ≤ 40000 := by
  unfold flat
  rw [List.length_flatMap]
  have h1 : ∀ x ∈ rs.zipIdx.map fun p : List Nat × Nat => (p.1.map fun y => (p, y)).length, x ≤ 5 := by
    intro x hx
    obtain ⟨p, hp, rfl⟩ := List.mem_map.mp hx
    rw [List.length_map]
    have hm : p.1 ∈ rs := by
      have := List.mem_zipIdx hp
      simp only [Nat.zero_le, Nat.sub_zero, true_and] at this
      rw [this.2]; exact List.getElem_mem _
    exact Nat.le_trans (nodup_len _ _ (asc_nodup (ok.asc _ hm)) (ok.lt _ hm)) ok.le
  have h2 : ∀ (l : List Nat), (∀ x ∈ l, x ≤ 5) → l.sum ≤ 5 * l.length := by
    intro l
    induction l with
    | nil => intro _; simp
    | cons a l ih =>
      intro h
      have := ih fun x hx => h x (List.mem_cons_of_mem _ hx)
      have := h a List.mem_cons_self
      simp only [List.sum_cons, List.length_cons]
      omega
  have h3 := h2 _ h1
  rw [List.length_map, List.length_zipIdx] at h3
  show (List.map (fun p : List Nat × Nat => (p.1.map fun y => (p, y)).length) rs.zipIdx).sum ≤ 40000
  have := ok.le
  omega
end Rs

/-! RsK: the words with K told, for blocks within a block. -/
namespace Rs
open PySem PySem.Spec PyProof.Rows L2 SlX StX
section
variable {X : Cx} {e o : Expr} {es : List Expr} {ta te : TE} {t : TA} {p pos apos : Pos} {f m x : Str} {tg l : Expr}

theorem p_lenK (K : PySem.W.Frag) (B : Bf X.mg) (ha : PA X (e :: es) t) (hg : Gl X "len" := by rfl) (he : starEach (e :: es) X.env = (false, eval e X.env) :: starEach es X.env := by rfl) (hpl : (backTo pos (starEach es X.env)).any (·.1) = false := by rfl) (hK : X.K = K := by rfl) :
    PE X (.Call (.Name "len" p) (e :: es) [] pos) (tCB (rLn K) t) := by
  subst hK; exact p_len B ha hg he hpl

theorem p_allK (K : PySem.W.Frag) (hc : X.calm = true) (B : Bf X.mg) (ha : PA X (e :: es) t) (hg : Gl X "all" := by rfl) (he : starEach (e :: es) X.env = (false, eval e X.env) :: starEach es X.env := by rfl) (hpl : (backTo pos (starEach es X.env)).any (·.1) = false := by rfl) (hK : X.K = K := by rfl) :
    PE X (.Call (.Name "all" p) (e :: es) [] pos) (tCB (rAll K) t) := by
  subst hK; exact p_all hc B ha hg he hpl

theorem p_isiK (K : PySem.W.Frag) (B : Bf X.mg) (ha : PA X (e :: es) t) (hg : Gl X "isinstance" := by rfl) (he : starEach (e :: es) X.env = (false, eval e X.env) :: starEach es X.env := by rfl) (hpl : (backTo pos (starEach es X.env)).any (·.1) = false := by rfl) (hK : X.K = K := by rfl) :
    PE X (.Call (.Name "isinstance" p) (e :: es) [] pos) (tCB (rIsi K) t) := by
  subst hK; exact p_isi B ha hg he hpl

theorem p_isiSK (K : PySem.W.Frag) (u : Value) (B : Bf X.mg) (ha : PA X (e :: es) t) (hg : Gl X "isinstance" := by rfl) (he : starEach (e :: es) X.env = (false, eval e X.env) :: starEach es X.env := by rfl) (hpl : (backTo pos (starEach es X.env)).any (·.1) = false := by rfl) (hK : X.K = K := by rfl) :
    PE X (.Call (.Name "isinstance" p) (e :: es) [] pos) (tCB (fun xs H Q => rIsi K xs H Q ∨ rIsiSl K u xs H Q) t) := by
  subst hK; exact p_isiS u B ha hg he hpl

theorem p_setK (K : PySem.W.Frag) (hc : X.calm = true) (B : Bf X.mg) (ha : PA X (e :: es) t) (hg : Gl X "set" := by rfl) (he : starEach (e :: es) X.env = (false, eval e X.env) :: starEach es X.env := by rfl) (hpl : (backTo pos (starEach es X.env)).any (·.1) = false := by rfl) (hK : X.K = K := by rfl) :
    PE X (.Call (.Name "set" p) (e :: es) [] pos) (tCB (rSetI K X.w) t) := by
  subst hK; exact p_set hc B ha hg he hpl

theorem p_sortedSetK (K : PySem.W.Frag) (hc : X.calm = true) (B : Bf X.mg) (ha : PA X (e :: es) t) (hg : Gl X "sorted" := by rfl) (he : starEach (e :: es) X.env = (false, eval e X.env) :: starEach es X.env := by rfl) (hpl : (backTo pos (starEach es X.env)).any (·.1) = false := by rfl) (hK : X.K = K := by rfl) :
    PE X (.Call (.Name "sorted" p) (e :: es) [] pos) (tCB (rSortedSet X.w) t) := by
  subst hK; exact p_sortedSet hc B ha hg he hpl

theorem p_sortedLK (K : PySem.W.Frag) (B : Bf X.mg) (ha : PA X (e :: es) t) (hg : Gl X "sorted" := by rfl) (he : starEach (e :: es) X.env = (false, eval e X.env) :: starEach es X.env := by rfl) (hpl : (backTo pos (starEach es X.env)).any (·.1) = false := by rfl) (hK : X.K = K := by rfl) :
    PE X (.Call (.Name "sorted" p) (e :: es) [] pos) (tCB (rSorted K) t) := by
  subst hK; exact p_sortedL B ha hg he hpl

theorem p_listK (K : PySem.W.Frag) (B : Bf X.mg) (ha : PA X (e :: es) t) (hg : Gl X "list" := by rfl) (he : starEach (e :: es) X.env = (false, eval e X.env) :: starEach es X.env := by rfl) (hpl : (backTo pos (starEach es X.env)).any (·.1) = false := by rfl) (hK : X.K = K := by rfl) :
    PE X (.Call (.Name "list" p) (e :: es) [] pos) (tCB (rListOf K) t) := by
  subst hK; exact p_list B ha hg he hpl

theorem p_tupleK (K : PySem.W.Frag) (B : Bf X.mg) (ha : PA X (e :: es) t) (hg : Gl X "tuple" := by rfl) (he : starEach (e :: es) X.env = (false, eval e X.env) :: starEach es X.env := by rfl) (hpl : (backTo pos (starEach es X.env)).any (·.1) = false := by rfl) (hK : X.K = K := by rfl) :
    PE X (.Call (.Name "tuple" p) (e :: es) [] pos) (tCB (rTupOf K) t) := by
  subst hK; exact p_tuple B ha hg he hpl

theorem pi_tupK (K : PySem.W.Frag) (hl : PE X l ta) (hK : X.K = K := by rfl) : PI X tg l (iTup K ta) := by
  subst hK; exact pi_tup hl
theorem pi_listK (K : PySem.W.Frag) (hl : PE X l ta) (hK : X.K = K := by rfl) : PI X tg l (iList K ta) := by
  subst hK; exact pi_list hl
theorem pi_enumTK (K : PySem.W.Frag) {tpos : Pos} {elts : List Expr} {kk : Nat} (hg : Gl X "enumerate") (hm : X.mg "enumerate" = none) (ha : PA X [e] t) (hs : starEach [e] X.env = [(false, eval e X.env)] := by rfl) (hK : X.K = K := by rfl) :
    PI X (.Tuple elts kk tpos) (.Call (.Name "enumerate" p) [e] [] pos) (iEnumT K t) := by
  subst hK; exact pi_enumT hg hm ha hs
theorem ix_tupK (K : PySem.W.Frag) (hK : X.K = K := by rfl) : IxR X (rIxT K) := by subst hK; exact ix_tup
theorem ix_listK (K : PySem.W.Frag) (hK : X.K = K := by rfl) : IxR X (rIxL K) := by subst hK; exact ix_list
theorem op_in_seqK (K : PySem.W.Frag) (hK : X.K = K := by rfl) : OpR X (compareOp .In) (rIn K false) := by subst hK; exact op_in_seq
theorem op_notIn_seqK (K : PySem.W.Frag) (hK : X.K = K := by rfl) : OpR X (compareOp .NotIn) (rIn K true) := by subst hK; exact op_notIn_seq
theorem op_eqDK (K : PySem.W.Frag) (hu : X.A.units + 64 < cLine) (hK : X.K = K := by rfl) : OpR X (compareOp .Eq) (rEqD K) := by subst hK; exact op_eqD hu
theorem op_neDK (K : PySem.W.Frag) (hu : X.A.units + 64 < cLine) (hK : X.K = K := by rfl) : OpR X (compareOp .NotEq) (rNeD K) := by subst hK; exact op_neD hu
theorem pa_starK (K : PySem.W.Frag) (he : PE X e te) (hr : PA X es t) (hs : starEach (.Starred e p :: es) X.env = (true, eval e X.env) :: starEach es X.env := by rfl) (hK : X.K = K := by rfl) : PA X (.Starred e p :: es) (tStar K te t) := by
  subst hK; exact pa_star he hr hs
theorem pe_slK (K : PySem.W.Frag) (he : PE X e ta) (hb : attributeBase e f X.env (eval e X.env) = eval e X.env := by rfl) (hK : X.K = K := by rfl) : PE X (.Attribute e f pos) (tSl K ta f) := by
  subst hK; exact pe_sl he hb
end
end Rs

/-! RsT: tuple * int, once too. -/
namespace L2
open PySem PySem.Spec PyProof.Rows
theorem tuple_mul1 (l : Addr) (items : Array Value) (n : Nat) (dd : Option Addr) (sl : Array (Option Value)) (u : Tok) :
    Meets (Builtin.«tuple.__mul__» ⟨[.ref l, .int 1 u], []⟩) (fun _ R s => s.heap.get? l = some { cls := .type "tuple", dict := dd, data := .seq items n, slots := sl } ∧
      ∀ tk, R (.ok (.ret (Value.ref l))) { s with toks := tk }) :=
  .of_wp fun prog w A R s h => by
    obtain ⟨hp, g, d, tk, os⟩ := s
    obtain ⟨hl, h⟩ := h
    have f1 := AutoSeq1.idx_int
    wp_walk using wpAny_loadPart' hl
    repeat (first
      | exact ⟨_, rfl, h _⟩
      | (refine wpAny_ite_false (by decide) ?_; wp_walk using wpAny_loadPart' hl)
      | (refine wpAny_ite_true (by simp) ?_; wp_walk using wpAny_loadPart' hl))
def rRep1 (K : PySem.W.Frag) : R2 := fun x y H Q => ∃ l xs, x = .ref l ∧ y = .int 1 ∧ SqT K H l xs ∧ Q (.ref l) H
section
variable {X : Cx}
theorem op_rep1 : OpR X (binaryOp .Mult) (rRep1 X.K) := by
  intro pins s σ H x y v u Q I rx ry h
  obtain ⟨l, xs, rfl, rfl, hT, q⟩ := h
  cases rx
  obtain ⟨t, rfl⟩ := ry
  obtain ⟨its, r, ⟨⟨cls, dd, data, sl⟩, ho, hc, n, hd⟩, hs⟩ := I.tuple hT
  simp only at hc hd
  subst hc hd
  refine wpAny_binaryOp_repeat_ref (T := "tuple") (U := "int") (by decide) ⟨_, ho, rfl⟩ (fun s' => typeIs_int s' 1 t) noFill_tuple_mul F.fills_int_mul F.slot_int_rmul repeat_tuple F.slot_int_index.lookup
    (call_meets F.slot_int_rmul (typeIs_int s 1 t) F.entry_int_rmul (F.args_int_rmul_2 _ _) (int_rmul_tuple 1 t l its.toArray n dd sl)
      ⟨ho, rfl, ⟨_, ho, rfl⟩, call_meets F.slot_tuple_mul ⟨_, ho, rfl⟩ F.entry_tuple_mul (F.args_tuple_mul_2 _ _) (tuple_mul1 l its.toArray n dd sl t) ⟨ho, fun tk => ?_⟩⟩)
  exact ⟨.ref l, H, I.tok _, rfl, q⟩
def rRepTA (K : PySem.W.Frag) : R2 := fun x y H Q => rRepT K x y H Q ∨ rRep1 K x y H Q
theorem op_repTA : OpR X (binaryOp .Mult) (rRepTA X.K) := fun pins s σ H x y v u Q I rx ry h => h.elim (op_repT pins s σ H x y v u Q I rx ry) (op_rep1 pins s σ H x y v u Q I rx ry)
end
end L2
namespace Rs
open PySem PySem.Spec PyProof.Rows L2 SlX StX
section
variable {K : PySem.W.Frag} {σ : L2.St} {F : Hp} {L : Cells} {ta tb : TE}
theorem rep_flat {α : Type} {k : Nat} {x : α} : (List.replicate k [x]).flatten = List.replicate k x := by
  induction k with
  | zero => rfl
  | succ k ih => rw [List.replicate_succ, List.flatten_cons, ih]; rfl
/-- (x,) * k -/
theorem r_rep1 {d : PyData} {k : Nat} (ha : Run (ta σ) F L (Dt K (.tuple [d]))) (hb : Run (tb σ) F L (Dt K (.int (k : Nat)))) (h1 : 1 ≤ k) (h2 : k ≤ 1000) : Run (tOp (rRepTA K) ta tb σ) F L (Dt K (.tuple (List.replicate k d))) :=
  r_op ha hb fun x y F1 e hx hy => by
    cases hy
    obtain ⟨a, vs, rfl, hs, hr⟩ := tp_dt.mpr hx
    obtain ⟨v, rfl, hv⟩ := each1 hr
    by_cases hk : k = 1
    · subst hk
      refine fun F2 N H e2 A Q q => .inr ⟨a, [v], rfl, rfl, sqT_up (e2.trans A.ex) hs, q _ F2 H (Same.refl _) A (dp_up e2 hx)⟩
    · refine fun F2 N H e2 A Q q => .inl ⟨a, (k : Int), [v], rfl, rfl, sqT_up (e2.trans A.ex) hs, by simp, by omega, by omega, by simp, fun p hp => q _ (upd F2 p _) _ (same_new (A.free hp)) (A.new hp) ?_⟩
      refine tp_dt.mp ⟨p, List.replicate k v, rfl, .inl ?_, ?_⟩
      · exact .inl (by rw [upd_same, Int.toNat_natCast, rep_flat])
      · have hv' := dp_up (e2.trans (same_new (o := .tup (List.replicate (k : Int).toNat [v]).flatten) (A.free hp))) hv
        have : ∀ m : Nat, Each ((List.replicate m d).map (Dt K)) (List.replicate m v) (upd F2 p (.tup (List.replicate (k : Int).toNat [v]).flatten)) := by
          intro m
          induction m with
          | zero => exact True.intro
          | succ m ih => exact ⟨hv', ih⟩
        exact this k
end
end Rs

/-! Mb: rounds one behind the other. -/
namespace Ma
open PySem Rs
/-- whom h hears, with itself -/
def hbL (rs : Rows) (h : Nat) : List Nat := (List.range rs.length).filter fun x => decide (x ∈ row rs h ∨ x = h)
theorem mem_hb {rs : Rows} (ok : Ok rs) {h x : Nat} (hh : h < rs.length) : x ∈ hbL rs h ↔ x ∈ row rs h ∨ x = h := by
  unfold hbL
  rw [List.mem_filter, List.mem_range, decide_eq_true_eq]
  refine ⟨fun z => z.2, fun z => ⟨?_, z⟩⟩
  rcases z with z | z
  · exact ok.row_lt z
  · rw [z]; exact hh
theorem hb_lt {rs : Rows} {h x : Nat} (hx : x ∈ hbL rs h) : x < rs.length := List.mem_range.mp (List.mem_filter.mp hx).1
theorem asc_hb {rs : Rows} {h : Nat} : Asc (hbL rs h) := (asc_range _).filter _
theorem hb_len {rs : Rows} {h : Nat} : (hbL rs h).length ≤ rs.length := by
  unfold hbL
  exact Nat.le_trans (List.length_filter_le _ _) (by rw [List.length_range]; exact Nat.le_refl _)
theorem hb_perm {rs : Rows} (ok : Ok rs) {h : Nat} (hh : h < rs.length) : (hbL rs h).Perm (row rs h ++ [h]) := by
  refine (List.perm_ext_iff_of_nodup (asc_nodup asc_hb) ?_).mpr fun x => by rw [mem_hb ok hh, List.mem_append, List.mem_singleton]
  rw [List.nodup_append]
  refine ⟨asc_nodup (ok.row_asc h), by simp, fun a ha b hb => ?_⟩
  rw [List.mem_singleton] at hb
  subst hb
  exact fun z => ok.row_ne (z ▸ ha)
/-- what is told to h by qs and, before, by rs -/
def toldL (rs qs : Rows) (h : Nat) : List Nat := (flat (fun near => hbL rs near) (hbL qs h)).map (·.2)
theorem mem_told {rs qs : Rows} {h x : Nat} : x ∈ toldL rs qs h ↔ ∃ n ∈ hbL qs h, x ∈ hbL rs n := by
  unfold toldL flat
  simp only [List.mem_map, List.mem_flatMap]
  constructor
  · rintro ⟨p, ⟨a, ha, y, hy, rfl⟩, rfl⟩
    exact ⟨a, ha, hy⟩
  · rintro ⟨n, hn, hx⟩
    exact ⟨(n, x), ⟨n, hn, x, hx, rfl⟩, rfl⟩
theorem told_len {rs qs : Rows} {h : Nat} (h1 : rs.length ≤ 5) (h2 : qs.length ≤ 5) : (flat (fun near => hbL rs near) (hbL qs h)).length ≤ 25 := by
  have q : ∀ l : List Nat, (flat (fun near => hbL rs near) l).length ≤ 5 * l.length := by
    intro l
    induction l with
    | nil => simp [flat]
    | cons a l ih =>
      unfold flat at ih ⊢
      rw [List.flatMap_cons, List.length_append, List.length_map, List.length_cons]
      have : ((fun near => hbL rs near) a).length ≤ rs.length := hb_len
      omega
  have := q (hbL qs h)
  have := hb_len (rs := qs) (h := h)
  omega
def allL (rs qs : Rows) (h : Nat) : List Nat := (List.range rs.length).filter fun x => decide (x ∈ toldL rs qs h)
theorem mem_all {rs qs : Rows} {h x : Nat} : x ∈ allL rs qs h ↔ x ∈ toldL rs qs h := by
  unfold allL
  rw [List.mem_filter, List.mem_range, decide_eq_true_eq]
  refine ⟨fun z => z.2, fun z => ⟨?_, z⟩⟩
  obtain ⟨n, _, hx⟩ := mem_told.mp z
  exact hb_lt hx
theorem asc_all {rs qs : Rows} {h : Nat} : Asc (allL rs qs h) := (asc_range _).filter _
theorem all_len {rs qs : Rows} {h : Nat} : (allL rs qs h).length ≤ rs.length := by
  unfold allL
  exact Nat.le_trans (List.length_filter_le _ _) (by rw [List.length_range]; exact Nat.le_refl _)
def thenRow (rs qs : Rows) (h : Nat) : List Nat := (allL rs qs h).filter fun x => !decide (x = h)
/-- rs and then qs -/
def thenR (rs qs : Rows) : Rows := (List.range rs.length).map (thenRow rs qs)
theorem then_len {rs qs : Rows} : (thenR rs qs).length = rs.length := by unfold thenR; rw [List.length_map, List.length_range]
theorem then_row {rs qs : Rows} {h : Nat} (hh : h < rs.length) : row (thenR rs qs) h = thenRow rs qs h := row_get (by unfold thenR; rw [List.getElem?_map, List.getElem?_range hh]; rfl)
theorem mem_thenRow {rs qs : Rows} {h x : Nat} : x ∈ thenRow rs qs h ↔ (∃ n ∈ hbL qs h, x ∈ hbL rs n) ∧ x ≠ h := by
  unfold thenRow
  rw [List.mem_filter, mem_all, mem_told, Bool.not_eq_true', decide_eq_false_iff_not]
theorem then_ok {rs qs : Rows} (o : Ok rs) : Ok (thenR rs qs) := by
  refine ⟨by rw [then_len]; exact o.pos, by rw [then_len]; exact o.le, ?_, ?_, ?_⟩
  · intro r hr
    obtain ⟨h, _, rfl⟩ := List.mem_map.mp hr
    exact asc_all.filter _
  · intro r hr x hx
    obtain ⟨h, _, rfl⟩ := List.mem_map.mp hr
    obtain ⟨⟨n, _, hx⟩, _⟩ := mem_thenRow.mp hx
    rw [then_len]; exact hb_lt hx
  · intro i r hr hi
    have hl : i < rs.length := by
      have := (List.getElem?_eq_some_iff.mp hr).1
      rwa [then_len] at this
    rw [← row_get hr, then_row hl] at hi
    exact (mem_thenRow.mp hi).2 rfl
def silentR (n : Nat) : Rows := List.replicate n []
theorem silent_ok {n : Nat} (h1 : 1 ≤ n) (h2 : n ≤ 5) : Ok (silentR n) := by
  unfold silentR
  refine ⟨by rw [List.length_replicate]; exact h1, by rw [List.length_replicate]; exact h2, fun r hr => ?_, fun r hr x hx => ?_, fun i r hr hi => ?_⟩
  · rw [(List.mem_replicate.mp hr).2]; exact .nil
  · rw [(List.mem_replicate.mp hr).2] at hx; cases hx
  · rw [(List.mem_replicate.mp (List.mem_of_getElem? hr)).2] at hi; cases hi
theorem silent_len {n : Nat} : (silentR n).length = n := List.length_replicate
end Ma

/-! RsD: dicts by tuples of ints: put, sorted. -/
namespace L2
open PySem PySem.Spec PyProof.Rows
def dI (k : List Int) : PyData := .tuple (k.map .int)
theorem alike_rows {bs : List (Addr × List Int)} : PySem.W.AllAlike (bs.map fun z => dI z.2) := PySem.W.AllAlike.of fun a b => by
  show PySem.W.alike (.tuple _) (.tuple _) = true
  rw [PySem.W.alike]; exact PySem.W.alike_ints _ _
theorem dataLe_tups {β : Type} (x : β → List Int) : PySem.W.dataLe false (fun b => dI (x b)) = fun p q => decide (x p ≤ x q) := by
  funext p q
  show (!PySem.W.dataLt (.tuple ((x q).map .int)) (.tuple ((x p).map .int))) = _
  rw [PySem.W.dataLt_tuple]
  show (!PySem.W.rowLt ((x q).map .int) ((x p).map .int)) = _
  rw [PySem.W.dataLt_ints]
  by_cases h : x q < x p
  · have h' : ¬ x p ≤ x q := fun r => List.not_lt.mpr r h
    simp [h, h']
  · have h' : x p ≤ x q := List.not_lt.mp h
    simp [h, h']
def rSortedDT : List V → Hp → VK → Prop := fun xs H Q => ∃ (a : Addr) (kvs : List (List Key × V)) (ks : List (List Int)), xs = [.ref a] ∧ H a = some (.dT kvs) ∧ kvs.map (·.1) = ks.map (fun k => k.map Sum.inl) ∧ ks.length < 64 ∧ (∀ k ∈ ks, k ≠ []) ∧
    ∀ (bs : List (Addr × List Int)) (p : Addr), (∀ z ∈ bs, H z.1 = some (.tup (z.2.map V.int))) → (bs.map (·.2)).Perm ks → (bs.map (·.2)).Pairwise (· ≤ ·) → H p = none → Q (.ref p) (upd H p (.lst (bs.map fun z => V.ref z.1)))
section
variable {X : Cx}
theorem reads_ints {h : Heap} : ∀ {ks : List Int} {its : List Value}, Vals (ks.map V.int) its → ReadsAll h its (ks.map PyData.int) []
  | [], _, r => by cases r; exact .nil
  | k :: ks, _, r => by
    cases r with
    | cons r1 r2 =>
      obtain ⟨t, rfl⟩ := r1
      exact ReadsAll.cons (.int _ _) (reads_ints r2)
theorem kV_ints {k : List Int} : (k.map (Sum.inl : Int → Key)).map kV = k.map V.int := by rw [List.map_map]; rfl
theorem isKeys_zip {H : Hp} : ∀ {kvs : List (List Key × V)} {bs : List Addr} {ks : List (List Int)}, IsKeys H kvs bs → kvs.map (·.1) = ks.map (fun k => k.map Sum.inl) → bs.length = ks.length ∧ ∀ z ∈ bs.zip ks, H z.1 = some (.tup (z.2.map V.int))
  | [], _, ks, h, e => by
    cases h
    cases ks with
    | nil => exact ⟨rfl, fun z hz => by cases hz⟩
    | cons a l => cases e
  | p :: kvs, _, ks, h, e => by
    cases h with
    | cons h1 h2 =>
      cases ks with
      | nil => cases e
      | cons a l =>
        rw [List.map_cons, List.map_cons] at e
        injection e with e1 e2
        obtain ⟨q1, q2⟩ := isKeys_zip h2 e2
        refine ⟨by rw [List.length_cons, List.length_cons, q1], fun z hz => ?_⟩
        rw [List.zip_cons_cons] at hz
        rcases List.mem_cons.mp hz with rfl | hz
        · rw [h1]
          show some (HO.tup (p.1.map kV)) = _
          rw [e1, kV_ints]
        · exact q2 z hz
theorem eachIs_refs : ∀ {bs : List (Addr × List Int)}, PySem.W.EachIs (fun (v : Value) (z : Addr × List Int) => v = .ref z.1) (bs.map fun z => Value.ref z.1) bs
  | [] => .nil
  | _ :: _ => .cons rfl eachIs_refs
theorem eachIs_out : ∀ {bs : List (Addr × List Int)} {out : List Value}, PySem.W.EachIs (fun (v : Value) (z : Addr × List Int) => v = .ref z.1) out bs → out = bs.map fun z => Value.ref z.1
  | _, _, .nil => rfl
  | _, _, .cons h t => by rw [h, eachIs_out t]; rfl
theorem vals_refs2 : ∀ {bs : List (Addr × List Int)}, Vals (bs.map fun z => V.ref z.1) (bs.map fun z => Value.ref z.1)
  | [] => .nil
  | _ :: _ => .cons rfl vals_refs2
theorem call_sortedDT (hcalm : X.calm = true) (hu : X.A.units + 64 < cLine) : CallR X (.builtin "sorted") rSortedDT := by
  intro pins s σ H xs us Q I r q
  obtain ⟨a, kvs, ks, ex, hd, hks, h64, hne, q⟩ := q
  subst ex
  obtain ⟨u, eu, rx⟩ := vals1 r
  subst eu
  cases rx
  obtain ⟨z, lo, xs', pr, o, es, ep, ho, hx, hdt, he, hn⟩ := (show ObjOk X.prog X.w H s.heap a (.dT kvs) from I.hok a _ hd)
  have l1 : es.size = xs'.length := size_of_entries he
  have l2 : kvs.length = xs'.length := Paired.length pr
  have hk0 : IsKeys H kvs (xs'.map fun x => x.2.1) := isKeys_of pr
  obtain ⟨lz, hz⟩ := isKeys_zip hk0 hks
  rw [List.length_map] at lz
  refine Calls.call_function_entry PyProof.Rows.kind_sorted PyProof.Rows.plain_sorted PyProof.Rows.entry_sorted (PyProof.Rows.args_sorted1 _) ?_
  unfold Builtin.«sorted»
  refine wpAny_bind (m := checkCount "sorted" 1 1 _) (wpAny_pure ?_)
  refine wpAny_bind (PySem.W.kdu_collect (A := X.A.in1) (kdl_raw lo hx hdt) (I.ok.hd hcalm) ho (by omega) fun h' tk acc hk hacc => ?_)
  have ea : acc.toList = (xs'.map fun x => x.2.1).map Value.ref := by
    rw [List.map_map]
    have hl : acc.toList.length = xs'.length := by rw [Array.length_toList, hacc.1]; exact l1
    apply List.ext_getElem?
    intro j
    rw [List.getElem?_map]
    cases hj : acc.toList[j]? with
    | none =>
      have h1 := List.getElem?_eq_none_iff.mp hj
      rw [List.getElem?_eq_none (by omega)]
      rfl
    | some v =>
      obtain ⟨en, hen, hv⟩ := hacc.2 j v (by rw [← Array.getElem?_toList]; exact hj)
      have qe := entry_at he j
      rw [hen] at qe
      cases hb : xs'[j]? with
      | none =>
        rw [hb] at qe
        exact nomatch (show some en = none from qe)
      | some b =>
        rw [hb] at qe
        have e2 : en = entryOfKey (tupleKind (mixKind X.prog X.w)) b := Option.some.inj qe
        rw [hv, e2]
        rfl
  generalize hbs : (xs'.map fun x => x.2.1).zip ks = bs at hz
  have eb : acc.toList = bs.map fun z => Value.ref z.1 := by
    have e0 : (bs.map fun z => Value.ref z.1) = (bs.map Prod.fst).map Value.ref := by rw [List.map_map]; rfl
    rw [e0, ea, ← hbs, List.map_fst_zip (by rw [List.length_map]; omega)]
  have e2 : bs.map (·.2) = ks := by rw [← hbs, List.map_snd_zip (by rw [List.length_map]; omega)]
  have hlb : bs.length = ks.length := by rw [← e2, List.length_map]
  have I1 : Inv X pins σ H { s with heap := h', toks := tk } := I.kept hk
  have hal : acc.toList.length = ks.length := by rw [eb, List.length_map, hlb]
  refine wpAny_bind (wpAny_newList ?_ (by rw [hal, sizeLine_eq]; omega))
  have hoL : (h'.push (seqObj "list" acc.toList.toArray 0)).get? h'.objs.size = some (seqObj "list" acc.toList.toArray 0) := Heap.get?_push_size _ rfl
  have kb : ∀ b o, h'.get? b = some o → (h'.push (seqObj "list" acc.toList.toArray 0)).get? b = some o := fun b o e => Heap.get?_push_of_some _ e
  show wpAny _ _ _ _ _ { s with heap := h'.push (seqObj "list" acc.toList.toArray 0), toks := tk }
  refine wpAny_bind (wpAny_holding (PySem.W.list_sort_data (s := { s with heap := h'.push (seqObj "list" acc.toList.toArray 0), toks := tk }) (bs := bs) (enc := fun z => dI z.2) (R := fun v z => v = .ref z.1) hoL (eb ▸ eachIs_refs) ?er alike_rows ?so (by rw [hlb, sizeLine_eq]; omega) ?un fun out hlo ho' => ?_))
  case er =>
    have all : ∀ l : List (Addr × List Int), (∀ z ∈ l, z ∈ bs) → PySem.W.EachIs (fun (v : Value) (b : Addr × List Int) => ∃ as, Reads (h'.push (seqObj "list" acc.toList.toArray 0)) v (dI b.2) as ∧ h'.objs.size ∉ as) (l.map fun z => Value.ref z.1) l := by
      intro l
      induction l with
      | nil => intro _; exact .nil
      | cons z l ih =>
        intro hm
        refine .cons ⟨[], ?_, by simp⟩ (ih fun y hy => hm y (List.mem_cons_of_mem _ hy))
        obtain ⟨_, its, rv, ot, hot, hct, nt, hdt⟩ := (show ObjOk X.prog X.w H h' z.1 (.tup (z.2.map V.int)) from I1.hok _ _ (hz z (hm z List.mem_cons_self)))
        exact Reads.tuple (kb _ _ hot) hct hdt (by rw [List.toList_toArray]; exact reads_ints rv)
    have h1 := all bs fun z hz => hz
    rw [← eb] at h1
    exact h1
  case so =>
    refine .inl fun d hd => ?_
    obtain ⟨z, hz, rfl⟩ := List.mem_map.mp hd
    have hm : z.2 ∈ ks := e2 ▸ List.mem_map.mpr ⟨z, hz, rfl⟩
    have hn := hne _ hm
    cases ez : z.2 with
    | nil => exact absurd ez hn
    | cons a l => exact ⟨.int a, l.map .int, rfl⟩
  case un =>
    intro b hb
    have : (dI b.2).depth = 1 := by rw [dI, PyData.depth, PySem.W.depth_ints]
    rw [this]
    show X.A.in1.units + 1 + 1 < cLine
    have h1 : X.A.in1.units ≤ X.A.units + 1 := Nat.le_refl _
    omega
  have eo := eachIs_out ho'
  rw [dataLe_tups] at eo
  generalize hms : bs.mergeSort (fun p q => decide (p.2 ≤ q.2)) = ms at eo
  have hpm : ms.Perm bs := hms ▸ List.mergeSort_perm _ _
  have hmem : ∀ z ∈ ms, H z.1 = some (.tup (z.2.map V.int)) := fun z hm => hz z (hpm.mem_iff.mp hm)
  have hpw : (ms.map (·.2)).Pairwise (· ≤ ·) := by
    rw [List.pairwise_map]
    have := List.pairwise_mergeSort (le := fun (p q : Addr × List Int) => decide (p.2 ≤ q.2)) (fun a b c h1 h2 => by
      simp only [decide_eq_true_eq] at *; exact List.le_trans h1 h2) (fun a b => by
      simp only [Bool.or_eq_true, decide_eq_true_eq]; exact List.le_total _ _) bs
    rw [hms] at this
    exact this.imp fun h => of_decide_eq_true h
  have hml : ms.length = ks.length := by rw [hpm.length_eq, hlb]
  obtain ⟨e', he'⟩ := PyProof.Rows.sortedHeap_at (vs := acc.toList) (out := out.toArray) hoL
  have hlen : (ms.map fun z => V.ref z.1).length ≤ sizeLine := by rw [List.length_map, hml, sizeLine_eq]; omega
  refine wpAny_pure ⟨_, rfl, .ref h'.objs.size, upd H h'.objs.size (.lst (ms.map fun z => V.ref z.1)), I1.laid (t' := tk) (fun b u e => ?_) (Nat.le_refl _)
    (show ObjOk X.prog X.w _ _ _ (.lst (ms.map fun z => V.ref z.1)) from ⟨hlen, out, e', eo ▸ vals_refs2, he'⟩), rfl, q ms _ hmem (by rw [← e2]; exact hpm.map _) hpw (I1.hok.fresh (Nat.le_refl _))⟩
  have hb : b < h'.objs.size := Heap.lt_size e
  rw [PyProof.Rows.sortedHeap_old (Nat.ne_of_lt hb) (by rw [size_push']; exact Nat.lt_succ_of_lt hb)]
  exact Heap.get?_push_of_some _ e
end
end L2

/-! RsE: runs over dicts by tuples of ints. -/
namespace Rs
open PySem PySem.Spec PyProof.Rows L2 SlX StX Ma
section
variable {X : Cx} {e : Expr} {es : List Expr} {t : TA} {p pos : Pos}
theorem p_sortedDT (hc : X.calm = true) (hu : X.A.units + 64 < cLine) (B : Bf X.mg) (ha : PA X (e :: es) t) (hg : Gl X "sorted" := by rfl) (he : starEach (e :: es) X.env = (false, eval e X.env) :: starEach es X.env := by rfl) (hpl : (backTo pos (starEach es X.env)).any (·.1) = false := by rfl) :
    PE X (.Call (.Name "sorted" p) (e :: es) [] pos) (tCB rSortedDT t) := pe_callB (call_sortedDT hc hu) hg B.sorted boot_sorted ha (by decide) (by decide) he hpl
end
/-- a tuple that stands as .tup -/
def Tn (Rs : List VP) : VP := fun v F => ∃ a vs, v = .ref a ∧ F a = some (.tup vs) ∧ Each Rs vs F
instance {Rs : List VP} [MonoL Rs] : Mono (Tn Rs) := ⟨fun _ _ _ e ⟨a, vs, h, s, r⟩ => ⟨a, vs, h, e _ _ s, MonoL.mono _ _ _ e r⟩⟩
section
variable {K : PySem.W.Frag} {σ : L2.St} {F : Hp} {L : Cells} {R : VP} {Rs : List VP} {t : TA} {te ty td tv : TE} {Nx : L2.St → Hp → Cells → Prop} {Rt : VP} {u : TS}
theorem Tn.tp {v : V} {F : Hp} (h : Tn Rs v F) : Tp K Rs v F := by
  obtain ⟨a, vs, rfl, h1, h2⟩ := h
  exact ⟨a, vs, rfl, .inl (.inl h1), h2⟩
theorem r_tupTn [MonoL Rs] (h : Run (t σ) F L (Each [Ls K Rs])) : Run (tCB (rTupOf K) t σ) F L (Tn Rs) := r_cb h fun vs F1 e1 hv => by
  obtain ⟨v, rfl, a, ws, rfl, hs, hr⟩ := each1 hv
  exact fun F2 N H e A Q q => ⟨a, ws, rfl, .inl ⟨sqL_up (e.trans A.ex) hs, fun p hp => q _ (upd F2 p _) _ (same_new (A.free hp)) (A.new hp) ⟨p, ws, rfl, upd_same, MonoL.mono _ _ _ (e.trans (same_new (A.free hp))) hr⟩⟩⟩
theorem x_dnewT {P : V → Hp → Cells → Prop} (h : ∀ p F1, Same F F1 → P (.ref p) F1 ((p, .dT []) :: L)) : RunX (tDNewT σ) F L P := fun F1 N H e A Q q p hp =>
  q (.ref p) F1 ((p, .dT []) :: L) _ (Same.refl _) (A.cell hp) (h p F1 e)
abbrev kT (k : List Int) : List Key := k.map Sum.inl
theorem kT_inj {a b : List Int} (h : kT a = kT b) : a = b := by
  induction a generalizing b with
  | nil => cases b with
    | nil => rfl
    | cons x y => cases h
  | cons x y ih => cases b with
    | nil => cases h
    | cons x' y' =>
      rw [kT, List.map_cons, kT, List.map_cons] at h
      injection h with h1 h2
      rw [Sum.inl.inj h1, ih h2]
theorem s_dputT {d : Addr} {kvs : List (List Key × V)} {k : List Int} {v : V} (hv : Run (tv σ) F ((d, .dT kvs) :: L) (Eqv v)) (hd : Run (td σ) F ((d, .dT kvs) :: L) (Eqv (.ref d))) (hk : Run (ty σ) F ((d, .dT kvs) :: L) R) (hR : ∀ x F1, R x F1 → ∃ b, x = .ref b ∧ F1 b = some (.tup (k.map V.int))) (hl : kvs.length < 100000)
    (c : ∀ F1, Same F F1 → Nx σ F1 ((d, .dT (putK kvs (kT k) v)) :: L)) : RunS (sDPut td ty tv) σ F ((d, .dT kvs) :: L) Nx Rt := fun F1 N H e A D q r =>
  hv F1 N H e A _ fun x F2 H2 e2 A2 hx => hd F2 N H2 (e.trans e2) A2 _ fun y F3 H3 e3 A3 hy => hk F3 N H3 ((e.trans e2).trans e3) A3 _ fun z F4 H4 e4 A4 hz => by
    cases hx
    cases hy
    obtain ⟨b, rfl, hb⟩ := hR _ _ hz
    refine ⟨d, _, rfl, DPut.t (k := kT k) (At.on1 A4) (A4.ex _ _ (by rw [hb, kV_ints])) (len_lt hl), ?_⟩
    exact q _ F4 _ _ ((e2.trans e3).trans e4) (At.put A4) (c F4 (((e.trans e2).trans e3).trans e4))
/-- cells stay apart from tuples: what is told of tuples stays told -/
theorem at_tups {F : Hp} {L : Cells} {H : Hp} (A : At F L H) : ∀ bs : List (Addr × List Int), (∀ z ∈ bs, H z.1 = some (.tup (z.2.map V.int))) → ∃ F', Same F F' ∧ At F' L H ∧ ∀ z ∈ bs, F' z.1 = some (.tup (z.2.map V.int))
  | [], _ => ⟨F, Same.refl F, A, fun z h => by cases h⟩
  | z :: bs, h => by
    obtain ⟨F', e, A', h'⟩ := at_tups A bs fun y hy => h y (List.mem_cons_of_mem _ hy)
    have hz := h z List.mem_cons_self
    have ne : ∀ p ∈ L, p.1 ≠ z.1 := fun p hp q => by
      have h1 := A.on p hp
      rw [q, hz] at h1
      exact A.nt p hp _ (Option.some.inj h1).symm
    have s1 : Same F' (upd F' z.1 (.tup (z.2.map V.int))) := fun b o eb => by
      by_cases hb : b = z.1
      · subst hb
        have := A'.ex _ _ eb
        rw [hz] at this
        rw [upd_same]; exact this
      · rw [upd_ne hb]; exact eb
    refine ⟨upd F' z.1 (.tup (z.2.map V.int)), e.trans s1, ⟨fun b o eb => ?_, A'.on, fun p hp => by rw [upd_ne (ne p hp)]; exact A'.off p hp, A'.nd, A'.nt⟩, fun y hy => ?_⟩
    · by_cases hb : b = z.1
      · subst hb; rw [upd_same] at eb; rw [← eb]; exact hz
      · rw [upd_ne hb] at eb; exact A'.ex b o eb
    · rcases List.mem_cons.mp hy with rfl | hy
      · exact upd_same
      · exact s1 _ _ (h' y hy)
theorem r_sortedDT {d : Addr} {kvs : List (List Key × V)} {ks : List (List Int)} (hm : (d, HO.dT kvs) ∈ L) (h : Run (t σ) F L (Each [Eqv (.ref d)])) (hk : kvs.map (·.1) = ks.map kT) (hl : ks.length < 64) (hne : ∀ k ∈ ks, k ≠ []) (os : List (List Int)) (h1 : os.Perm ks) (h2 : os.Pairwise (· ≤ ·)) :
    Run (tCB rSortedDT t σ) F L (Dt K (.list (os.map dI))) := r_cb h fun vs F1 e1 hv => by
  obtain ⟨v, rfl, hv1⟩ := each1 hv
  cases hv1
  refine fun F2 N H e A Q q => ⟨d, kvs, ks, rfl, At.mem A hm, hk, hl, hne, fun bs p hb hp hw hn => ?_⟩
  obtain ⟨F3, e3, A3, hb3⟩ := at_tups A bs hb
  have e : bs.map (·.2) = os := List.Perm.eq_of_pairwise (le := (· ≤ ·)) (fun a b _ _ x y => List.le_antisymm x y) hw h2 (hp.trans h1.symm)
  refine q _ (upd F3 p _) _ (e3.trans (same_new (A3.free hn))) (A3.new hn) ?_
  have s4 : Same F3 (upd F3 p (.lst (bs.map fun z => V.ref z.1))) := same_new (A3.free hn)
  refine ls_dt.mp ⟨p, _, rfl, .inl (.inl upd_same), ?_⟩
  rw [← e, List.map_map, List.map_map]
  have all : ∀ l : List (Addr × List Int), (∀ z ∈ l, z ∈ bs) → Each (l.map fun z => Dt K (dI z.2)) (l.map fun z => V.ref z.1) (upd F3 p (.lst (bs.map fun z => V.ref z.1))) := by
    intro l
    induction l with
    | nil => intro _; exact True.intro
    | cons z l ih =>
      intro hz
      refine ⟨tp_dt.mp ⟨z.1, _, rfl, .inl (.inl (s4 _ _ (hb3 z (hz z List.mem_cons_self)))), each_dt.mpr ints_vs⟩, ih fun y hy => hz y (List.mem_cons_of_mem _ hy)⟩
  exact all bs fun z hz => hz
end
end Rs

/-! RsC: a list of ints that is written by callees, told as a thing that stays. -/
namespace Rs
open PySem PySem.Spec PyProof.Rows L2 SlX StX Ma
/-- a list of n whole numbers, whichever -/
def ckO (n : Nat) (a : Addr) : HO := .ext fun h => ∃ (xs : List Int) (its : List Value) (c : Nat), xs.length = n ∧ Vals (xs.map V.int) its ∧ h.get? a = some { cls := .type "list", data := .seq its.toArray c }
def Ck (n : Nat) : VP := fun v F => ∃ a, v = .ref a ∧ F a = some (ckO n a)
instance {n : Nat} : Mono (Ck n) := ⟨fun _ _ _ e ⟨a, h, h1⟩ => ⟨a, h, e _ _ h1⟩⟩
section
variable {P : Program} {w : World} {K : PySem.W.Frag} {mg : Str → Option Value} {base : Heap} {A : Around} {outer : List Env} {s s' : Shared} {H H' : Hp} {a : Addr} {n : Nat}
theorem ck_open {h : Heap} (ok : HOk P w H h) (ha : H a = some (ckO n a)) (hn : n ≤ 1000) : ∃ xs : List Int, xs.length = n ∧ HOk P w (upd H a (.lst (xs.map V.int))) h := by
  obtain ⟨⟨xs, its, c, h1, h2, h3⟩, _⟩ := ok a _ ha
  refine ⟨xs, h1, ok.write (by rw [ha]; exact True.intro) (.inl rfl) (fun b u _ e => e) ⟨_, h3⟩ ⟨by rw [List.length_map, sizeLine_eq]; omega, its, c, h2, h3⟩⟩
theorem ck_shut {h : Heap} {xs : List Int} (ok : HOk P w H h) (ha : H a = some (.lst (xs.map V.int))) (hn : xs.length = n) : HOk P w (upd H a (ckO n a)) h := by
  obtain ⟨_, its, c, h2, h3⟩ := ok a _ ha
  refine ok.write (by rw [ha]; exact True.intro) (.inl rfl) (fun b u _ e => e) ⟨_, h3⟩ ⟨⟨xs, its, c, hn, h2, h3⟩, ⟨_, h3⟩, fun h1 h2 ⟨xs, its, c, q1, q2, q3⟩ st => ⟨xs, its, c, q1, q2, st _ q3⟩⟩
theorem un_same {fs : List Addr} {o : HO} {h : Heap} {u : Obj} (mu : Mut (H a)) (hu : h.get? a = some u) : Un fs [] H (upd H a o) h h := Un.write mu (.inl rfl) (fun b u _ e => e) ⟨_, hu⟩
theorem lst_at {h : Heap} {xs : List V} (ok : HOk P w H h) (ha : H a = some (.lst xs)) : ∃ u, h.get? a = some u := by
  obtain ⟨_, its, c, h2, h3⟩ := ok a _ ha
  exact ⟨_, h3⟩
theorem ck_at {h : Heap} (ok : HOk P w H h) (ha : H a = some (ckO n a)) : ∃ u, h.get? a = some u := by
  obtain ⟨_, h3, _⟩ := ok a _ ha
  exact h3
theorem env_cast {o : HO} (e : Env0 P w K mg base A outer s H) (ha : H a ≠ none) (ok : HOk P w (upd H a o) s.heap) : Env0 P w K mg base A outer s (upd H a o) :=
  ⟨e.frames, e.mod, fun b ob q => ⟨(e.bs b ob q).1, by
    have h1 := (e.bs b ob q).2
    rw [upd_ne (fun z : b = a => ha (by rw [← z]; exact h1))]; exact h1⟩, e.bsz, e.funs, fun b hb => by
    have h1 := e.frf b hb
    rw [upd_ne (fun z : b = a => ha (by rw [← z]; exact h1))]; exact h1, ok, e.bare⟩
theorem cr_cast {Q Q' : VK} {E : XK} {H0 : Hp} {r : Result} (u0 : Un (frs outer) [] H H0 s.heap s.heap) (h : CR CX0 outer P w H0 s Q' E r s') (c : ∀ v H', HOk P w H' s'.heap → Q' v H' → ∃ H'', Un (frs outer) [] H' H'' s'.heap s'.heap ∧ HOk P w H'' s'.heap ∧ Q v H'') :
    CR CX0 outer P w H s Q E r s' := by
  cases r with
  | error e => exact (show False from h).elim
  | ok fl =>
    cases fl with
    | ret u =>
      obtain ⟨v, H', e1, e2, e3, e4, e5, e6⟩ := h
      obtain ⟨H'', f1, f2, f3⟩ := c v H' e4 e6
      exact ⟨v, H'', e1, e2, (u0.trans e3).trans f1, f2, e5, f3⟩
    | next => exact h
    | brk => exact h
    | cont => exact h
/-- a def that writes to its first argument, a list of ints of one's own -/
def SpC {γ : Type} (n : Nat) (pre : γ → Prop) (Rs : γ → List VP) (R : γ → VP) : Sp := fun vs H Q _ => ∃ (g : γ) (F : Hp) (N : Cells) (a : Addr) (xs : List Int) (ws : List V), vs = .ref a :: ws ∧ pre g ∧ xs.length = n ∧ At F ((a, .lst (xs.map V.int)) :: N) H ∧ Each (Rs g) ws F ∧
  ∀ v F' H' (xs' : List Int), xs'.length = n → Same F F' → At F' ((a, .lst (xs'.map V.int)) :: N) H' → R g v F' → Q v H'
def del (F : Hp) (a : Addr) : Hp := fun b => if b = a then none else F b
theorem ck_fn {γ : Type} {pre : γ → Prop} {Rs : γ → List VP} {R : γ → VP} {k : Nat} {f : Addr} {fd : FuncData} {ps : List Str} (hn : n ≤ 1000) (hR : ∀ g v F F', R g v F → R g v F') (hRs : ∀ g vs F F', Each (Rs g) vs F → Each (Rs g) vs F')
    (G : FnOk P w K mg base CX0 k f fd ps (SpC n pre Rs R)) (len : ∀ g, (Rs g).length + 1 = ps.length) : FnOk P w K mg base CX0 k f fd ps (SpF pre (fun g => Ck n :: Rs g) R) := by
  refine ⟨fun vs H Q E ⟨g, F0, N0, hp, A, hv, q⟩ => (each_length hv).trans (len g), fun A outer s H args us vs Q E hr e0 hb r hs => ?_⟩
  obtain ⟨g, F, N, hp, hA, hv, q⟩ := hs
  obtain ⟨v, ws, rfl, ⟨a, rfl, ha⟩, hw⟩ := each_cons hv
  have hHa : H a = some (ckO n a) := hA.ex _ _ ha
  obtain ⟨xs, hx, ok1⟩ := ck_open e0.hok hHa hn
  have e1 : Env0 P w K mg base A outer s (upd H a (.lst (xs.map V.int))) := env_cast e0 (by rw [hHa]; intro z; cases z) ok1
  obtain ⟨u, hu⟩ := ck_at e0.hok hHa
  have Nne : ∀ p ∈ N, p.1 ≠ a := fun p hm z => by
    have h1 := hA.off p hm
    rw [z, ha] at h1; cases h1
  refine codeAny_mono (G.run A outer s _ args us _ (fun v H' => ∃ (F' : Hp) (xs' : List Int), xs'.length = n ∧ Same (del F a) F' ∧ At F' ((a, .lst (xs'.map V.int)) :: N) H' ∧ R g v F') E hr e1 hb r
    ⟨g, del F a, N, a, xs, ws, rfl, hp, hx, ?_, hRs g ws F _ hw, fun v F' H' xs' h1 h2 h3 h4 => ⟨F', xs', h1, h2, h3, h4⟩⟩) fun r s' hq => cr_cast (un_same (by rw [hHa]; exact True.intro) hu) hq fun v H' ok' ⟨F', xs', h1, h2, h3, h4⟩ => ?_
  · refine ⟨fun b o eb => ?_, fun p hm => ?_, fun p hm => ?_, ?_, fun p hm => ?_⟩
    · unfold del at eb
      split at eb
      · cases eb
      · rename_i hne
        rw [upd_ne hne]; exact hA.ex _ _ eb
    · rcases List.mem_cons.mp hm with rfl | hm
      · exact upd_same
      · rw [upd_ne (Nne p hm)]; exact hA.on p hm
    · rcases List.mem_cons.mp hm with rfl | hm
      · unfold del; rw [if_pos rfl]
      · unfold del; rw [if_neg (Nne p hm)]; exact hA.off p hm
    · rw [List.map_cons, List.nodup_cons]
      refine ⟨fun z => ?_, hA.nd⟩
      obtain ⟨p, hm, e⟩ := List.mem_map.mp z
      exact Nne p hm e
    · rcases List.mem_cons.mp hm with rfl | hm
      · intro ys z; nomatch z
      · exact hA.nt p hm
  · have hH' : H' a = some (.lst (xs'.map V.int)) := h3.on1
    obtain ⟨u', hu'⟩ := lst_at ok' hH'
    refine ⟨upd H' a (ckO n a), un_same (by rw [hH']; exact True.intro) hu', ck_shut ok' hH' h1, ?_⟩
    have A4 : At (upd F' a (ckO n a)) N (upd H' a (ckO n a)) := (At.put (u := ckO n a) h3 (by intro ys z; unfold ckO at z; nomatch z)).keep
    refine q v (upd F' a (ckO n a)) _ (fun b o eb => ?_) A4 (hR g v F' _ h4)
    by_cases hba : b = a
    · subst hba; rw [upd_same, ← ha]; exact eb
    · rw [upd_ne hba]
      refine h2 b o ?_
      unfold del; rw [if_neg hba]; exact eb
/-- a def that hands out a new list of ints -/
theorem ck_new {γ : Type} {pre : γ → Prop} {Rs : γ → List VP} {k : Nat} {x qual : Str} {st : Stmt} {f : Addr} {fd : FuncData} {N ps : List Str} (F : Fun K x qual st f fd) (S : FnScope N ps (defScope st)) (len : ∀ g, (Rs g).length = ps.length)
    (body : ∀ (cdv : Value) (A : Around) (outer : List Env) (s : Shared) (H : Hp) (E : XK) (g : γ) (vs : List V) (F0 : Hp), Room k (A.deeper (envOfC qual (defScope st) s.heap.objs.size f cdv)) → pre g → Each (Rs g) vs F0 →
      ∃ t, PSs (cxOf CX0 P w K mg base N qual (defScope st) f cdv A outer s H E).nox (defBody st) t ∧ RunS t (start N vs) F0 [] (fun _ _ _ => False) (fun v F' => ∃ (a : Addr) (xs : List Int), v = .ref a ∧ F' a = some (.lst (xs.map V.int)) ∧ xs.length = n ∧ F0 a = none)) :
    FnOk P w K mg base CX0 (k + 1) f fd ps (SpF pre Rs (fun _ => Ck n)) := by
  have G : FnOk P w K mg base CX0 (k + 1) f fd ps (fun vs H Q _ => ∃ g F N, pre g ∧ At F N H ∧ Each (Rs g) vs F ∧ ∀ v F' H', Same F F' → At F' N H' → (∃ (a : Addr) (xs : List Int), v = .ref a ∧ F' a = some (.lst (xs.map V.int)) ∧ xs.length = n ∧ F a = none) → Q v H') := by
    refine F.ok S (fun vs H Q E ⟨g, F0, N0, hp, A, hv, q⟩ => (each_length hv).trans (len g)) fun cdv A outer s H vs Q E hr ⟨g, F0, N0, hp, A0, hv, q⟩ => ?_
    obtain ⟨t, h1, h2⟩ := body cdv A outer s H E g vs F0 hr hp hv
    exact ⟨t, h1, h2 F0 N0 H (Same.refl _) A0 _ (fun _ F' L' H' e' A' n => n.elim) fun v F' H' e' A' r => q v F' H' e' A' r⟩
  refine ⟨fun vs H Q E ⟨g, F0, N0, hp, A, hv, q⟩ => (each_length hv).trans (len g), fun A outer s H args us vs Q E hr e0 hb r hs => ?_⟩
  obtain ⟨g, F, N, hp, hA, hv, q⟩ := hs
  refine codeAny_mono (G.run A outer s _ args us _ (fun v H' => ∃ (F' : Hp) (a : Addr) (xs : List Int), v = .ref a ∧ Same F F' ∧ At F' N H' ∧ F' a = some (.lst (xs.map V.int)) ∧ xs.length = n ∧ F a = none) E hr e0 hb r
    ⟨g, F, N, hp, hA, hv, fun v F' H' h1 h2 ⟨a, xs, h3, h4, h5, h6⟩ => ⟨F', a, xs, h3, h1, h2, h4, h5, h6⟩⟩) fun r s' hq => cr_cast (Un.refl) hq fun v H' ok' ⟨F', a, xs, h3, h1, h2, h4, h5, h6⟩ => ?_
  have hH' : H' a = some (.lst (xs.map V.int)) := h2.ex _ _ h4
  obtain ⟨u', hu'⟩ := lst_at ok' hH'
  subst h3
  refine ⟨upd H' a (ckO n a), un_same (by rw [hH']; exact True.intro) hu', ck_shut ok' hH' h5, q (.ref a) (upd F' a (ckO n a)) _ (fun b o eb => ?_) ?_ ⟨a, rfl, upd_same⟩⟩
  · rw [upd_ne (fun z => by rw [z, h6] at eb; cases eb)]; exact h1 b o eb
  · have Nne : ∀ p ∈ N, p.1 ≠ a := fun p hm z => by
      have := h2.off p hm
      rw [z, h4] at this; cases this
    refine ⟨fun b o eb => ?_, fun p hm => by rw [upd_ne (Nne p hm)]; exact h2.on p hm, fun p hm => by rw [upd_ne (Nne p hm)]; exact h2.off p hm, h2.nd, h2.nt⟩
    by_cases hba : b = a
    · subst hba; rw [upd_same] at eb ⊢; exact eb
    · rw [upd_ne hba] at eb ⊢; exact h2.ex b o eb
end
end Rs

/-! RsN: own == and !=, in of tuples of data, powers. -/
namespace Nq
open PySem PySem.Spec PyProof.Rows L2 SlX
section
variable {prog : Program} {w : World} {A : Around} {E : Value → Shared → Prop} {s : Shared} {K : PySem.W.Frag} {x C L f : Addr} {h₀ : Heap} {m : Str → Option Value} {ox : Obj} {od : Option Obj} {b tb : Value}
theorem bound_ne {M : Model} {args : List Value} {Q : Option Value → Shared → Prop} (X : K.In s.heap) (I : PySem.W.InstAt s.heap x ox C od) (hs : PySem.W.findIn K (.ref C) "__ne__" = some (some (.builtin "object.__ne__")))
    (h : wpAny M A (call (.builtin "object.__ne__") (.ref x :: args)) (fun v => Q (some v)) E s) : wpAny M A (callSpecialIfBound? (.ref x) "__ne__" args) Q E s := by
  simp only [callSpecialIfBound?, bindSpecialIfBound?]
  refine wpAny_holding (wpAny_bind (wpAny_bind (wpAny_bind (I.type.here ((PySem.W.looks_findIn X hs).here ?_)))))
  simp only [F.cmp_object.ne.bind]
  refine wpAny_bind (wpAny_askSetting (wpAny_ite ?_))
  have fin : wpAny M A (call (.builtin "object.__ne__") ([.ref x] ++ args) >>= fun v => pure (some v)) Q E s := wpAny_bind (wpAny_mono h (fun v s' h' => wpAny_pure h') fun _ _ h' => h')
  split
  · exact wpAny_bind (wpAny_pure (wpAny_pure (by exact fin)))
  · exact wpAny_tryCatch (wpAny_bind (wpAny_pure (wpAny_pure (by exact fin))))
theorem ne_body {Q : Fin → Shared → Prop} (hu : A.units < cLine) (X : K.In s.heap) (I : PySem.W.InstAt s.heap x ox C od) (hs : PySem.W.findIn K (.ref C) "__eq__" = some (some (.ref f))) (hf : PySem.W.isFn K (.ref f) = true)
    (h : wpAny (model prog w) A (call (.ref f) [.ref x, b]) (fun v s' => ∃ c, v = .bool c ∧ Q (.done (.ret (.bool (!c)))) s') E s) : wpAny (model prog w) A (Builtin.«object.__ne__» ⟨[.ref x, b], []⟩) Q E s := by
  show wpAny _ _ (cRoomFor "comparison" [.ref x, b] >>= _) _ _ _
  refine wpAny_bind (wpAny_cRoomFor hu ?_)
  refine wpAny_bind (PySem.W.ifBound_K X I hs hf (wpAny_mono h (fun v s' hv => ?_) fun _ _ e => e))
  obtain ⟨c, rfl, q⟩ := hv
  show wpAny _ _ (truthy (.bool c) >>= _) _ _ _
  exact wpAny_bind (wpAny_truthy_bool (wpAny_pure q))
theorem ne_K {Q : Value → Shared → Prop} (hu : A.units + 1 < cLine) (F : Fr h₀ L s.heap m) (X₀ : K.In h₀) (I : PySem.W.InstAt s.heap x ox C od) (hb : PySem.W.Looks (model prog w) s.heap (typeOf b) tb) (hn : PySem.W.notFirst K C tb = true)
    (hs : PySem.W.findIn K (.ref C) "__ne__" = some (some (.builtin "object.__ne__"))) (hsub : PySem.W.mroIn K C (.type "object") = some true) (he : PySem.W.findIn K (.ref C) "__eq__" = some (some (.ref f))) (hf : PySem.W.isFn K (.ref f) = true)
    (h : wpAny (model prog w) A.in1 (call (.ref f) [.ref x, b]) (fun v s' => ∃ c, v = .bool c ∧ Q (.bool (!c)) s') E s) : wpAny (model prog w) A (richCompare .NotEq (.ref x) b) Q E s := by
  have X := X₀.keeps F.keep
  have one : wpAny (model prog w) A (tryCompare (.ref x) (cmpInfo .NotEq).2.1 b) (fun r s' => ∃ v, r = some v ∧ Q v s') E s := by
    unfold tryCompare
    refine wpAny_bind (bound_ne X I hs (wpAny_call (codeAny_call_builtin PySem.F.cmp_object.ne.plain PySem.F.cmpEntry_ne (PySem.W.check_slot PySem.F.cmpKind_ne PySem.F.cmpSplit_ne (I.type.andThen (PySem.W.looks_mroIn X hsub)) (PySem.F.cmpArgs_ne _ _)
      (ne_body (A := A.in1) (by show A.units + 1 < cLine; exact hu) X I he hf (wpAny_mono h (fun v s' hv => ?_) fun _ _ e => e))))))
    obtain ⟨c, rfl, q⟩ := hv
    first | exact ⟨c, rfl, wpAny_pure ⟨_, rfl, q⟩⟩ | exact ⟨c, rfl, ⟨_, rfl, q⟩⟩
  unfold richCompare
  simp only [oneThing_ref]
  refine wpAny_holding (wpAny_bind (wpAny_cRoomFor (by omega) ?_))
  refine wpAny_bind (I.type.here (wpAny_bind (hb.here ?_)))
  split
  · rename_i q
    have e : PySem.W.subIn K tb (.ref C) = some false := by
      rcases Bool.or_eq_true_iff.mp hn with e | e
      · rw [beq_iff_eq.mp e] at q; simp at q
      · exact beq_iff_eq.mp e
    refine wpAny_bind ((PySem.W.looks_subIn X e).here ?_)
    simp only [Bool.false_eq_true, if_false]
    refine wpAny_bind (wpAny_mono one (fun r s' z => ?_) fun _ _ e => e)
    obtain ⟨v, rfl, hq⟩ := z
    exact wpAny_pure hq
  · refine wpAny_bind (wpAny_pure ?_)
    simp only [Bool.false_eq_true, if_false]
    refine wpAny_bind (wpAny_mono one (fun r s' z => ?_) fun _ _ e => e)
    obtain ⟨v, rfl, hq⟩ := z
    exact wpAny_pure hq
end
/-- x != y by the class's own == -/
def rNeOwn (K : PySem.W.Frag) (C : Addr) (sp : Sp) (E : XK) : R2 := fun x y H Q => ∃ a dx vs b C' dy ws, x = .ref a ∧ y = .ref b ∧ Slt H a C dx vs ∧ Slt H b C' dy ws ∧ PySem.W.notFirst K C (.ref C') = true ∧ sp [x, y] H (fun v H' => ∃ c, v = .bl c ∧ Q (.bl (!c)) H') E
section
variable {X : Cx} {CX : CXT} {C g : Addr} {n : Nat} {sp : Sp} {E : XK}
theorem op_neOwn (hs : PySem.W.findIn X.K (.ref C) "__ne__" = some (some (.builtin "object.__ne__"))) (hsub : PySem.W.mroIn X.K C (.type "object") = some true) (he : PySem.W.findIn X.K (.ref C) "__eq__" = some (some (.ref g))) (hf : PySem.W.isFn X.K (.ref g) = true) (F : FnR X.prog X.w X.K X.mg X.base CX n g sp)
    (hr : Room (n + 1) X.A) (hx : Passes CX X E) : OpR X (compareOp .NotEq) (rNeOwn X.K C sp E) := by
  intro pins s σ H x y v u Q I rx ry h
  obtain ⟨a, dx, vs, b, C', dy, ws, rfl, rfl, ha, hb, hn, q⟩ := h
  cases (show v = Value.ref a from rx)
  cases (show u = Value.ref b from ry)
  obtain ⟨sl, od, _, J, _⟩ := slt_inst I ha
  obtain ⟨sl', od', _, J', _⟩ := slt_inst I hb
  obtain ⟨m, hF⟩ := I.fr
  have hu := hr.units
  unfold compareOp
  refine ne_K (by omega) hF I.ok.mod.kin J J'.type hn hs hsub he hf ?_
  refine wpAny_mono (wpAny_call (SlX.run_at (us := [.ref a, .ref b]) (ws := [.ref a, .ref b]) F hr.in1 I.env0.in1 hx I (.cons rfl (.cons rfl .nil)) q)) (fun w s' z => ?_) fun _ _ x => x
  obtain ⟨z', H', I', rz, c, rfl, qz⟩ := z
  obtain rfl : w = Value.bool c := rz
  exact ⟨c, rfl, .bl (!c), H', I', rfl, qz⟩
def rInDT (K : PySem.W.Frag) (neg : Bool) : R2 := fun x y H Q => ∃ d ds, Dp K H x d ∧ Dp K H y (.tuple ds) ∧ SeqAt.shaped d = true ∧ SeqAt.shaped (.tuple ds) = true ∧ Q (.bl (if neg then !ds.any (fun z => PyData.eqv z d) else ds.any fun z => PyData.eqv z d)) H
theorem roomT {A : Around} {d : PyData} {ds : List PyData} (sd : SeqAt.shaped d = true) (hu : A.units + 65 < cLine) : A.units + 1 + min (PyData.depthAll ds) d.depth < cLine := room_in_shaped sd hu
theorem op_inDT (hu : X.A.units + 65 < cLine) : OpR X (compareOp .In) (rInDT X.K false) := by
  intro pins s σ H x y v u Q I rx ry h
  obtain ⟨d, ds, hd, he, sd, se, q⟩ := h
  obtain ⟨as, r1⟩ := Dp.reads I d x v hd rx
  obtain ⟨bs, r2⟩ := Dp.reads I (.tuple ds) y u he ry
  exact SeqAt.in_tuple_reads r2 r1 (SeqAt.canLay_of_shaped se) (SeqAt.canLay_of_shaped sd) (roomT sd hu) ⟨.bl _, H, I, rfl, q⟩
theorem op_notInDT (hu : X.A.units + 65 < cLine) : OpR X (compareOp .NotIn) (rInDT X.K true) := by
  intro pins s σ H x y v u Q I rx ry h
  obtain ⟨d, ds, hd, he, sd, se, q⟩ := h
  obtain ⟨as, r1⟩ := Dp.reads I d x v hd rx
  obtain ⟨bs, r2⟩ := Dp.reads I (.tuple ds) y u he ry
  exact SeqAt.notIn_tuple_reads r2 r1 (SeqAt.canLay_of_shaped se) (SeqAt.canLay_of_shaped sd) (roomT sd hu) ⟨.bl _, H, I, rfl, q⟩
def CPowX (i j : Int) : Prop := 0 ≤ j ∧ (Builtin.Int.intBits i : Int) * j ≤ 2 ^ 27
theorem op_powX : OpR X (binaryOp .Pow) (rI CPowX fun i j => .int (i ^ j.toNat)) := opI fun _ _ _ _ _ _ _ hc q => pow_int hc.1 hc.2 q
end
end Nq

/-! RsO: runs over lists of objects, own == and !=, written lists. -/
namespace Rs
open PySem PySem.Spec PyProof.Rows L2 SlX StX Ma
structure EqS (P : Program) (w : World) (K : PySem.W.Frag) (mg : Str → Option Value) (base : Heap) (k : Nat) (C : Addr) (sp : Sp) : Prop where
  ex : ∃ g, PySem.W.findIn K (.ref C) "__ne__" = some (some (.builtin "object.__ne__")) ∧ PySem.W.mroIn K C (.type "object") = some true ∧ PySem.W.findIn K (.ref C) "__eq__" = some (some (.ref g)) ∧ PySem.W.isFn K (.ref g) = true ∧ FnR P w K mg base CX0 k g sp
section
variable {X : Cx}
theorem op_eqO {k j : Nat} {C : Addr} {sp : Sp} (c : EqS X.prog X.w X.K X.mg X.base k C sp) (hr : Room j X.A) (hk : k + 1 ≤ j) : OpR X (compareOp .Eq) (rOwn X.K C sp E0) := by
  obtain ⟨g, h1, h2, h3, h4, F⟩ := c.ex
  exact op_own (op := .Eq) (fun _ _ => rfl) h3 h4 F (hr.mono (by omega)) pass0
theorem op_neO {k j : Nat} {C : Addr} {sp : Sp} (c : EqS X.prog X.w X.K X.mg X.base k C sp) (hr : Room j X.A) (hk : k + 1 ≤ j) : OpR X (compareOp .NotEq) (Nq.rNeOwn X.K C sp E0) := by
  obtain ⟨g, h1, h2, h3, h4, F⟩ := c.ex
  exact Nq.op_neOwn h1 h2 h3 h4 F (hr.mono hk) pass0
end
section
variable {K : PySem.W.Frag} {σ : L2.St} {F : Hp} {L : Cells} {R : VP} {ta tb te : TE} {C : Addr} {E : XK} {S1 S2 : VP}
theorem r_eqOwn {γ : Type} {pre : γ → Prop} {Rs : γ → List VP} {R : γ → VP} (g : γ) (hp : pre g) [Mono S1] [Mono S2] (hg : Rs g = [S1, S2]) (hn : PySem.W.notFirst K C (.ref C) = true) (h1 : ∀ v F1, S1 v F1 → IsOb C v F1) (h2 : ∀ v F1, S2 v F1 → IsOb C v F1)
    (ha : Run (ta σ) F L S1) (hb : Run (tb σ) F L S2) : Run (tOp (rOwn K C (SpF pre Rs R) E) ta tb σ) F L (R g) :=
  r_op ha hb fun x y F1 e hx hy => fun F2 N H e2 A Q q => by
    obtain ⟨a, dx, vs, rfl, q1, q2⟩ := h1 _ _ hx
    obtain ⟨b, dy, ws, rfl, q3, q4⟩ := h2 _ _ hy
    refine ⟨a, dx, vs, b, C, dy, ws, rfl, rfl, at_slt A (e2 _ _ q1) (e2 _ _ q2), at_slt A (e2 _ _ q3) (e2 _ _ q4), hn, g, F2, L ++ N, hp, A, ?_, fun v F3 H3 e3 A3 r => q v F3 H3 e3 A3 r⟩
    rw [hg]
    exact ⟨Mono.go hx e2, Mono.go hy e2, True.intro⟩
theorem r_neOwn {γ : Type} {pre : γ → Prop} {Rs : γ → List VP} {c : γ → Bool} (g : γ) (hp : pre g) [Mono S1] [Mono S2] (hg : Rs g = [S1, S2]) (hn : PySem.W.notFirst K C (.ref C) = true) (h1 : ∀ v F1, S1 v F1 → IsOb C v F1) (h2 : ∀ v F1, S2 v F1 → IsOb C v F1)
    (ha : Run (ta σ) F L S1) (hb : Run (tb σ) F L S2) : Run (tOp (Nq.rNeOwn K C (SpF pre Rs fun g => Dt K (.bool (c g))) E) ta tb σ) F L (Dt K (.bool (!c g))) :=
  r_op ha hb fun x y F1 e hx hy => fun F2 N H e2 A Q q => by
    obtain ⟨a, dx, vs, rfl, q1, q2⟩ := h1 _ _ hx
    obtain ⟨b, dy, ws, rfl, q3, q4⟩ := h2 _ _ hy
    refine ⟨a, dx, vs, b, C, dy, ws, rfl, rfl, at_slt A (e2 _ _ q1) (e2 _ _ q2), at_slt A (e2 _ _ q3) (e2 _ _ q4), hn, g, F2, L ++ N, hp, A, ?_, fun v F3 H3 e3 A3 r => ⟨c g, dt_bl r, q _ F3 H3 e3 A3 (.bl _)⟩⟩
    rw [hg]
    exact ⟨Mono.go hx e2, Mono.go hy e2, True.intro⟩
theorem r_inDT {d : PyData} {ds : List PyData} (ha : Run (ta σ) F L (Dt K d)) (hb : Run (tb σ) F L (Dt K (.tuple ds))) (s1 : SeqAt.shaped d = true) (s2 : SeqAt.shaped (.tuple ds) = true) : Run (tOp (Nq.rInDT K false) ta tb σ) F L (Dt K (.bool (ds.any fun z => PyData.eqv z d))) :=
  r_op ha hb fun x y F1 e hx hy => fun F2 N H e2 A Q q => ⟨d, ds, dp_up (e2.trans A.ex) hx, dp_up (e2.trans A.ex) hy, s1, s2, q _ F2 H (Same.refl _) A (.bl _)⟩
theorem r_notInDT {d : PyData} {ds : List PyData} (ha : Run (ta σ) F L (Dt K d)) (hb : Run (tb σ) F L (Dt K (.tuple ds))) (s1 : SeqAt.shaped d = true) (s2 : SeqAt.shaped (.tuple ds) = true) : Run (tOp (Nq.rInDT K true) ta tb σ) F L (Dt K (.bool (!ds.any fun z => PyData.eqv z d))) :=
  r_op ha hb fun x y F1 e hx hy => fun F2 N H e2 A Q q => ⟨d, ds, dp_up (e2.trans A.ex) hx, dp_up (e2.trans A.ex) hy, s1, s2, q _ F2 H (Same.refl _) A (.bl _)⟩
/-! lists -/
theorem each_rep {α : Type} {f : α → VP} {xs : List α} {vs : List V} (h : Each (xs.map f) vs F) : ∀ k, Each (((List.replicate k xs).flatten).map f) (List.replicate k vs).flatten F
  | 0 => True.intro
  | k + 1 => by
    rw [List.replicate_succ, List.flatten_cons, List.map_append, List.replicate_succ, List.flatten_cons]
    exact each_app h (each_rep h k)
theorem r_rep {α : Type} {f : α → VP} [∀ x, Mono (f x)] {xs : List α} {k : Int} (ha : Run (ta σ) F L (Ln (xs.map f))) (hb : Run (tb σ) F L (Dt K (.int k))) (h0 : 0 ≤ k) (h1 : k ≤ 1000) (hx : xs.length ≤ 50) : Run (tOp rRep ta tb σ) F L (Ln (((List.replicate k.toNat xs).flatten).map f)) :=
  r_op ha hb fun x y F1 e hx' hy => fun F2 N H e2 A Q q => by
    cases hy
    obtain ⟨a, vs, rfl, hs, hr⟩ := hx'
    have hl : vs.length = xs.length := by rw [each_length hr, List.length_map]
    refine ⟨a, k, vs, rfl, rfl, A.ex _ _ (e2 _ _ hs), by omega, by omega, ?_, fun p hp => ?_⟩
    · rw [sizeLine_eq]
      have : vs.length * k.toNat ≤ 50 * 1000 := Nat.mul_le_mul (by omega) (by omega)
      omega
    · exact q _ (upd F2 p _) _ (same_new (A.free hp)) (A.new hp) ⟨p, _, rfl, upd_same, each_rep (Mono.go hr (e2.trans (same_new (A.free hp)))) _⟩
theorem r_cat {α : Type} {f : α → VP} [∀ x, Mono (f x)] {xs ys : List α} (ha : Run (ta σ) F L (Ln (xs.map f))) (hb : Run (tb σ) F L (Ln (ys.map f))) (h1 : xs.length + ys.length ≤ 10000) : Run (tOp rCat ta tb σ) F L (Ln ((xs ++ ys).map f)) :=
  r_op ha hb fun x y F1 e hx' hy => fun F2 N H e2 A Q q => by
    obtain ⟨a, vs, rfl, hs, hr⟩ := hx'
    obtain ⟨b, ws, rfl, hs', hr'⟩ := hy
    have hl : vs.length = xs.length := by rw [each_length hr, List.length_map]
    have hl' : ws.length = ys.length := by rw [each_length hr', List.length_map]
    refine ⟨a, b, vs, ws, rfl, rfl, A.ex _ _ (e2 _ _ hs), A.ex _ _ (e2 _ _ hs'), by rw [sizeLine_eq]; omega, fun p hp => ?_⟩
    refine q _ (upd F2 p _) _ (same_new (A.free hp)) (A.new hp) ⟨p, _, rfl, upd_same, ?_⟩
    rw [List.map_append]
    exact each_app (Mono.go hr (e2.trans (same_new (A.free hp)))) (Mono.go hr' (e2.trans (same_new (A.free hp))))
theorem each_take : ∀ {Rs : List VP} {vs : List V} (n : Nat), Each Rs vs F → Each (Rs.take n) (vs.take n) F
  | [], vs, n, h => by
    obtain rfl := each0 h
    simp [Each]
  | R :: Rs, _, 0, h => by simp [Each]
  | R :: Rs, vs, n + 1, h => by
    obtain ⟨v, ws, rfl, h1, h2⟩ := each_cons h
    exact ⟨h1, each_take n h2⟩
theorem each_drop : ∀ {Rs : List VP} {vs : List V} (n : Nat), Each Rs vs F → Each (Rs.drop n) (vs.drop n) F
  | [], vs, n, h => by
    obtain rfl := each0 h
    simp [Each]
  | R :: Rs, _, 0, h => h
  | R :: Rs, vs, n + 1, h => by
    obtain ⟨v, ws, rfl, h1, h2⟩ := each_cons h
    exact each_drop n h2
theorem cut_take {vs : List V} {n : Nat} (h : n ≤ vs.length) : cutV vs none (some (n : Int)) = vs.take n := by
  unfold cutV
  rw [HT.sIx_none, HT.sIx_nat, List.drop_zero, Nat.sub_zero, Nat.min_eq_left h]
theorem cut_drop {vs : List V} {n : Nat} (h : n ≤ vs.length) : cutV vs (some (n : Int)) none = vs.drop n := by
  unfold cutV
  rw [HT.sIx_none, HT.sIx_nat, Nat.min_eq_left h]
  exact List.take_of_length_le (by rw [List.length_drop]; omega)
theorem r_slTake {α : Type} {f : α → VP} [∀ x, Mono (f x)] {xs : List α} {n : Nat} (ha : Run (ta σ) F L (Ln (xs.map f))) (hb : Run (tb σ) F L (Dt K (nI n))) (hn : n ≤ xs.length) : Run (L2.tSl (rSlL K) ta tNoPart (tPart tb) σ) F L (Ln ((xs.take n).map f)) := fun F1 N H e A Q q =>
  ha F1 N H e A _ fun x F2 H2 e2 A2 hx => hb F2 N H2 (e.trans e2) A2 _ fun y F3 H3 e3 A3 hy => by
    cases hy
    obtain ⟨a, vs, rfl, hs, hr⟩ := hx
    have hl : vs.length = xs.length := by rw [each_length hr, List.length_map]
    refine ⟨(n : Int), rfl, a, vs, rfl, .inl (.inl (A3.ex _ _ (e3 _ _ hs))), fun p hp => ?_⟩
    rw [cut_take (by omega)]
    refine q _ (upd F3 p _) _ (e2.trans (e3.trans (same_new (A3.free hp)))) (A3.new hp) ⟨p, _, rfl, upd_same, ?_⟩
    rw [List.map_take]
    exact each_take n (Mono.go hr (e3.trans (same_new (A3.free hp))))
theorem r_slDrop {α : Type} {f : α → VP} [∀ x, Mono (f x)] {xs : List α} {n : Nat} (ha : Run (ta σ) F L (Ln (xs.map f))) (hb : Run (tb σ) F L (Dt K (nI n))) (hn : n ≤ xs.length) : Run (L2.tSl (rSlL K) ta (tPart tb) tNoPart σ) F L (Ln ((xs.drop n).map f)) := fun F1 N H e A Q q =>
  ha F1 N H e A _ fun x F2 H2 e2 A2 hx => hb F2 N H2 (e.trans e2) A2 _ fun y F3 H3 e3 A3 hy => by
    cases hy
    obtain ⟨a, vs, rfl, hs, hr⟩ := hx
    have hl : vs.length = xs.length := by rw [each_length hr, List.length_map]
    refine ⟨(n : Int), rfl, a, vs, rfl, .inl (.inl (A3.ex _ _ (e3 _ _ hs))), fun p hp => ?_⟩
    rw [cut_drop (by omega)]
    refine q _ (upd F3 p _) _ (e2.trans (e3.trans (same_new (A3.free hp)))) (A3.new hp) ⟨p, _, rfl, upd_same, ?_⟩
    rw [List.map_drop]
    exact each_drop n (Mono.go hr (e3.trans (same_new (A3.free hp))))
/-- one of a list -/
theorem r_ixLs {Rs : List VP} [MonoL Rs] {n : Nat} {R : VP} (ha : Run (ta σ) F L (Ls K Rs)) (hb : Run (tb σ) F L (Dt K (.int (n : Nat)))) (hn : Rs[n]? = some R) : Run (tOp (rIxL K) ta tb σ) F L R :=
  r_op ha hb fun x y F1 e hx hy => fun F2 N H e2 A Q q => by
    cases hy
    obtain ⟨a, vs, rfl, hs, hr⟩ := hx
    have hr2 : Each Rs vs F2 := MonoL.mono _ _ _ e2 hr
    have hl := each_length hr2
    have hlt : n < vs.length := by rw [hl]; exact (List.getElem?_eq_some_iff.mp hn).1
    obtain ⟨R', hR', hv⟩ := each_at hr2 (List.getElem?_eq_getElem hlt)
    rw [hn] at hR'
    cases hR'
    refine ⟨a, vs, (n : Int), vs[n], rfl, rfl, sqL_up (e2.trans A.ex) hs, ?_, q _ F2 H (Same.refl _) A hv⟩
    unfold atI ixN
    rw [if_pos (by omega), if_pos (by omega)]
    simp [List.getElem?_eq_getElem hlt]
/-- one of a list of one's own -/
theorem r_ixC {l : Addr} {xs : List V} {n : Nat} {v : V} (hm : (l, HO.lst xs) ∈ L) (ha : Run (ta σ) F L (Eqv (.ref l))) (hb : Run (tb σ) F L (Dt K (.int (n : Nat)))) (hn : xs[n]? = some v) : Run (tOp (rIxL K) ta tb σ) F L (Eqv v) :=
  fun F1 N H e A Q q => ha F1 N H e A _ fun x F2 H2 e2 A2 hx => hb F2 N H2 (e.trans e2) A2 _ fun y F3 H3 e3 A3 hy => by
    cases hx
    cases hy
    have hlt : n < xs.length := (List.getElem?_eq_some_iff.mp hn).1
    refine ⟨l, xs, (n : Int), v, rfl, rfl, .inl (.inl (A3.mem hm)), ?_, q _ F3 H3 (e2.trans e3) A3 rfl⟩
    unfold atI ixN
    rw [if_pos (by omega), if_pos (by omega)]
    simpa using hn
theorem r_ixI {l : Addr} {xs : List Int} {n : Nat} {i : Int} (hm : (l, HO.lst (xs.map V.int)) ∈ L) (ha : Run (ta σ) F L (Eqv (.ref l))) (hb : Run (tb σ) F L (Dt K (.int (n : Nat)))) (hn : xs[n]? = some i) : Run (tOp (rIxL K) ta tb σ) F L (Dt K (.int i)) :=
  (r_ixC hm ha hb (v := .int i) (by rw [List.getElem?_map, hn]; rfl)).weak fun v F1 e h => by
    obtain rfl : v = .int i := h
    exact .int i
/-- l[n] = x, a list of one's own -/
theorem q_setC {l : Addr} {xs : List V} {n : Nat} {u : TS} {Nx : L2.St → Hp → Cells → Prop} {Rt : VP} (hv : Run (te σ) F ((l, .lst xs) :: L) R) (ha : Run (ta σ) F ((l, .lst xs) :: L) (Eqv (.ref l))) (hb : Run (tb σ) F ((l, .lst xs) :: L) (Dt K (.int (n : Nat)))) (hn : n < xs.length)
    (k : ∀ v F1, Same F F1 → R v F1 → RunS u σ F1 ((l, .lst (xs.set n v)) :: L) Nx Rt) [Mono R] : RunS (tSeq (tAsg te (gSub ta tb rSetL)) u) σ F ((l, .lst xs) :: L) Nx Rt := fun F1 N H e A D q r =>
  hv F1 N H e A _ fun v F2 H2 e2 A2 hvv => ha F2 N H2 (e.trans e2) A2 _ fun x F3 H3 e3 A3 hx => hb F3 N H3 ((e.trans e2).trans e3) A3 _ fun y F4 H4 e4 A4 hy => by
    cases hx
    cases hy
    refine ⟨l, xs, (n : Int), n, rfl, rfl, At.on1 A4, by unfold ixN; rw [if_pos (by omega), if_pos (by omega)]; simp, ?_⟩
    exact k v F4 (((e.trans e2).trans e3).trans e4) (Mono.go hvv (e3.trans e4)) F4 N _ (Same.refl _) (At.put A4) D (fun σ5 F5 L5 H5 e5 A5 n => q σ5 F5 L5 H5 (((e2.trans e3).trans e4).trans e5) A5 n) fun w F5 H5 e5 A5 n => r w F5 H5 (((e2.trans e3).trans e4).trans e5) A5 n
theorem r_lstN {t : TA} {Rs : List VP} (h : Run (t σ) F L (Each Rs)) [MonoL Rs] (hl : Rs.length ≤ 100000) : Run (tLst t σ) F L (fun v F1 => ∃ a vs, v = .ref a ∧ F1 a = some (.lst vs) ∧ Each Rs vs F1 ∧ F a = none) := fun F1 N H e A Q q =>
  h F1 N H e A _ fun vs F2 H2 e2 A2 hv => ⟨len_ok (by rw [each_length hv]; exact hl), fun p hp => q _ (upd F2 p _) _ (e2.trans (same_new (A2.free hp))) (A2.new hp) ⟨p, vs, rfl, upd_same, MonoL.mono _ _ _ (same_new (A2.free hp)) hv, (e.trans e2).free (A2.free hp)⟩⟩
end
end Rs

/-! RsP: any whole number; bodies that hand their cells back. -/
namespace Rs
open PySem PySem.Spec PyProof.Rows L2 SlX StX Ma
theorem room65 {k : Nat} {A : Around} (r : Room k A) : A.units + 65 < cLine := by have := r.un; omega
def IntV : VP := fun v _ => ∃ i : Int, v = .int i
instance : Mono IntV := ⟨fun _ _ _ _ h => h⟩
def BoolV : VP := fun v _ => ∃ b : Bool, v = .bl b
instance : Mono BoolV := ⟨fun _ _ _ _ h => h⟩
/-- a number below t -/
def Bd (t : Nat) : VP := fun v _ => ∃ n : Nat, n < t ∧ v = .int n
instance {t : Nat} : Mono (Bd t) := ⟨fun _ _ _ _ h => h⟩
section
variable {K : PySem.W.Frag} {σ : L2.St} {F : Hp} {L : Cells} {R : VP} {ta tb te : TE} {t : TA} {u w : TS} {tc : TT} {i : Nat} {b : Bool}
theorem r_any {d : Int} (h : Run (te σ) F L (Dt K (.int d))) : Run (te σ) F L IntV := h.weak fun v F1 e hv => ⟨d, dt_int hv⟩
theorem r_anyI {j : Int} : Run (tC (.int j) σ) F L IntV := r_c ⟨j, rfl⟩
theorem r_lnLD {ds : List PyData} (h : Run (te σ) F L (Dt K (.list ds))) : Run (tCB (rLn K) (tCons te tNil) σ) F L (Dt K (.int ds.length)) := by
  have q := r_lnL (Rs := ds.map (Dt K)) (r_cons (h.weak fun v F e hv => ls_dt.mpr hv) r_nil)
  rwa [List.length_map] at q
theorem r_anyB {n : Nat} (h : Run (te σ) F L (Bd n)) : Run (te σ) F L IntV := h.weak fun v F1 e ⟨m, _, hv⟩ => ⟨m, hv⟩
theorem a_op0 {f : Int → Int → Int} (ha : Run (ta σ) F L IntV) (hb : Run (tb σ) F L IntV) : Run (tOp (rI0 fun i j => .int (f i j)) ta tb σ) F L IntV :=
  r_op ha hb fun x y F1 e ⟨i, hx⟩ ⟨j, hy⟩ => by
    subst hx; subst hy
    exact fun F2 N H e2 A Q q => ⟨i, j, rfl, rfl, q _ F2 H (Same.refl _) A ⟨_, rfl⟩⟩
theorem a_cmp {f : Int → Int → Bool} (ha : Run (ta σ) F L IntV) (hb : Run (tb σ) F L IntV) : Run (tOp (rI0 fun i j => .bl (f i j)) ta tb σ) F L BoolV :=
  r_op ha hb fun x y F1 e ⟨i, hx⟩ ⟨j, hy⟩ => by
    subst hx; subst hy
    exact fun F2 N H e2 A Q q => ⟨i, j, rfl, rfl, q _ F2 H (Same.refl _) A ⟨_, rfl⟩⟩
/-- a factor that is small -/
theorem a_mulL {c : Int} (ha : Run (ta σ) F L (Dt K (.int c))) (hb : Run (tb σ) F L IntV) (h : -(2 ^ 64) < c ∧ c < 2 ^ 64) : Run (tOp (rI CMul fun i j => .int (i * j)) ta tb σ) F L IntV :=
  r_op ha hb fun x y F1 e hx ⟨j, hy⟩ => by
    cases hx; subst hy
    exact fun F2 N H e2 A Q q => ⟨c, j, rfl, rfl, .inl h, q _ F2 H (Same.refl _) A ⟨_, rfl⟩⟩
theorem a_mulB {n : Nat} (ha : Run (ta σ) F L (Bd n)) (hb : Run (tb σ) F L IntV) (h : n ≤ 2 ^ 63) : Run (tOp (rI CMul fun i j => .int (i * j)) ta tb σ) F L IntV :=
  r_op ha hb fun x y F1 e ⟨m, hm, hx⟩ ⟨j, hy⟩ => by
    subst hx; subst hy
    have h1 : (n : Int) ≤ 2 ^ 63 := by exact_mod_cast h
    exact fun F2 N H e2 A Q q => ⟨m, j, rfl, rfl, .inl ⟨by omega, by omega⟩, q _ F2 H (Same.refl _) A ⟨_, rfl⟩⟩
theorem a_mod {m : Nat} (ha : Run (ta σ) F L IntV) (hb : Run (tb σ) F L (Dt K (.int (m : Nat)))) (h : 0 < m) : Run (tOp (rI (fun _ j => 0 < j) fun i j => .int (i % j)) ta tb σ) F L (Bd m) :=
  r_op ha hb fun x y F1 e ⟨i, hx⟩ hy => by
    subst hx; cases hy
    have h1 : (0 : Int) ≤ i % (m : Int) := Int.emod_nonneg _ (by omega)
    have h2 : i % (m : Int) < m := Int.emod_lt_of_pos _ (by omega)
    exact fun F2 N H e2 A Q q => ⟨i, m, rfl, rfl, by omega, q _ F2 H (Same.refl _) A ⟨(i % (m : Int)).toNat, by omega, by rw [Int.toNat_of_nonneg h1]⟩⟩
theorem a_modI {m : Int} (ha : Run (ta σ) F L IntV) (hb : Run (tb σ) F L (Dt K (.int m))) (h : 0 < m) : Run (tOp (rI (fun _ j => 0 < j) fun i j => .int (i % j)) ta tb σ) F L IntV :=
  r_op ha hb fun x y F1 e ⟨i, hx⟩ hy => by
    subst hx; cases hy
    exact fun F2 N H e2 A Q q => ⟨i, m, rfl, rfl, h, q _ F2 H (Same.refl _) A ⟨_, rfl⟩⟩
theorem a_div {m : Int} (ha : Run (ta σ) F L IntV) (hb : Run (tb σ) F L (Dt K (.int m))) (h : CDivW 0 m) : Run (tOp (rI CDivW fun i j => .int (i / j)) ta tb σ) F L IntV :=
  r_op ha hb fun x y F1 e ⟨i, hx⟩ hy => by
    subst hx; cases hy
    exact fun F2 N H e2 A Q q => ⟨i, m, rfl, rfl, h, q _ F2 H (Same.refl _) A ⟨_, rfl⟩⟩
theorem a_int (h : Run (t σ) F L (Each [IntV])) : Run (tCB rIntOf t σ) F L IntV := r_cb h fun vs F1 e1 hv => by
  obtain ⟨v, rfl, i, rfl⟩ := each1 hv
  exact fun F2 N H e2 A Q q => .inl ⟨i, rfl, q _ F2 H (Same.refl _) A ⟨i, rfl⟩⟩
theorem a_intB (h : Run (t σ) F L (Each [BoolV])) : Run (tCB rIntOf t σ) F L IntV := r_cb h fun vs F1 e1 hv => by
  obtain ⟨v, rfl, i, rfl⟩ := each1 hv
  exact fun F2 N H e2 A Q q => .inr ⟨i, rfl, q _ F2 H (Same.refl _) A ⟨_, rfl⟩⟩
theorem a_abs (h : Run (t σ) F L (Each [IntV])) : Run (tCB rAbs t σ) F L IntV := r_cb h fun vs F1 e1 hv => by
  obtain ⟨v, rfl, i, rfl⟩ := each1 hv
  exact fun F2 N H e2 A Q q => ⟨i, rfl, q _ F2 H (Same.refl _) A ⟨_, rfl⟩⟩
/-- a test of whatever truth -/
theorem a_test (h : Run (te σ) F L BoolV) : Run (tTest te σ) F L (fun _ _ => True) := run_bind (k := te σ) h fun x F1 e1 ⟨b, hx⟩ => by
  subst hx
  exact run_ex b (run_and (fun _ _ _ _ _ => rfl) (run_ret fun _ _ => True.intro))
theorem a_if (h : Run (tc σ) F L (fun _ _ => True)) (h1 : Run (ta σ) F L R) (h2 : Run (tb σ) F L R) : Run (tIf tc ta tb σ) F L R := run_bind (k := tc σ) h fun b F1 e1 _ => by
  cases b with
  | true => exact fun F2 N H e2 A Q q => iteT (h1 F2 N H (e1.trans e2) A Q q)
  | false => exact fun F2 N H e2 A Q q => iteF (h2 F2 N H (e1.trans e2) A Q q)
/-! bodies that hand their cells back -/
def RunT (t : TS) (σ : L2.St) (F : Hp) (L : Cells) (Rt : V → Hp → Cells → Prop) : Prop :=
  ∀ F1 N H, Same F F1 → At F1 (L ++ N) H → ∀ D : Ends, (∀ v F' L' H', Same F1 F' → At F' (L' ++ N) H' → Rt v F' L' → D.rt v H') → t D σ H
variable {Rt : V → Hp → Cells → Prop}
theorem u_assoc {t u w : TS} (h : RunT (tSeq t (tSeq u w)) σ F L Rt) : RunT (tSeq (tSeq t u) w) σ F L Rt := h
theorem u_next (h : RunT u σ F L Rt) : RunT (tSeq tNext u) σ F L Rt := h
theorem u_set (h : Run (te σ) F L R) (k : ∀ v F1, Same F F1 → R v F1 → RunT u (σ.set i (some v)) F1 L Rt) : RunT (tSeq (tAsg te (gName i)) u) σ F L Rt := fun F1 N H e A D r =>
  h F1 N H e A _ fun v F2 H2 e2 A2 hv => k v F2 (e.trans e2) hv F2 N H2 (Same.refl _) A2 D fun w F3 L3 H3 e3 A3 n => r w F3 L3 H3 (e2.trans e3) A3 n
theorem u_ret (h : Run (te σ) F L R) (k : ∀ v F1, Same F F1 → R v F1 → Rt v F1 L) : RunT (tRet te) σ F L Rt := fun F1 N H e A D r =>
  h F1 N H e A _ fun v F2 H2 e2 A2 hv => r v F2 L H2 e2 A2 (k v F2 (e.trans e2) hv)
theorem u_retq (h : Run (te σ) F L R) (k : ∀ v F1, Same F F1 → R v F1 → Rt v F1 L) : RunT (tSeq (tRet te) u) σ F L Rt := fun F1 N H e A D r =>
  h F1 N H e A _ fun v F2 H2 e2 A2 hv => r v F2 L H2 e2 A2 (k v F2 (e.trans e2) hv)
theorem u_if {t u w : TS} (h : Run (tc σ) F L (fun _ _ => True)) (h1 : RunT (tSeq t w) σ F L Rt) (h2 : RunT (tSeq u w) σ F L Rt) : RunT (tSeq (tIfS tc t u) w) σ F L Rt := fun F1 N H e A D r =>
  h F1 N H e A _ fun b F2 H2 e2 A2 _ => by
    cases b with
    | true => exact iteT (h1 F2 N H2 (e.trans e2) A2 D fun v F3 L3 H3 e3 A3 n => r v F3 L3 H3 (e2.trans e3) A3 n)
    | false => exact iteF (h2 F2 N H2 (e.trans e2) A2 D fun v F3 L3 H3 e3 A3 n => r v F3 L3 H3 (e2.trans e3) A3 n)
theorem u_setC [Mono R] {l : Addr} {xs : List V} {n : Nat} (hv : Run (te σ) F ((l, .lst xs) :: L) R) (ha : Run (ta σ) F ((l, .lst xs) :: L) (Eqv (.ref l))) (hb : Run (tb σ) F ((l, .lst xs) :: L) (Dt K (.int (n : Nat)))) (hn : n < xs.length)
    (k : ∀ v F1, Same F F1 → R v F1 → RunT u σ F1 ((l, .lst (xs.set n v)) :: L) Rt) : RunT (tSeq (tAsg te (gSub ta tb rSetL)) u) σ F ((l, .lst xs) :: L) Rt := fun F1 N H e A D r =>
  hv F1 N H e A _ fun v F2 H2 e2 A2 hvv => ha F2 N H2 (e.trans e2) A2 _ fun x F3 H3 e3 A3 hx => hb F3 N H3 ((e.trans e2).trans e3) A3 _ fun y F4 H4 e4 A4 hy => by
    cases hx
    cases hy
    refine ⟨l, xs, (n : Int), n, rfl, rfl, At.on1 A4, by unfold ixN; rw [if_pos (by omega), if_pos (by omega)]; simp, ?_⟩
    exact k v F4 (((e.trans e2).trans e3).trans e4) (Mono.go hvv (e3.trans e4)) F4 N _ (Same.refl _) (At.put A4) D fun w F5 L5 H5 e5 A5 n => r w F5 L5 H5 (((e2.trans e3).trans e4).trans e5) A5 n
end
section
variable {P : Program} {w : World} {K : PySem.W.Frag} {mg : Str → Option Value} {base : Heap}
theorem cell_ok {n : Nat} {x qual : Str} {st : Stmt} {f : Addr} {fd : FuncData} {N ps : List Str} {k : Nat} {γ : Type} {pre : γ → Prop} {Rs : γ → List VP} {R : γ → VP} (F : Fun K x qual st f fd) (S : FnScope N ps (defScope st)) (len : ∀ g, (Rs g).length + 1 = ps.length)
    (body : ∀ (cdv : Value) (A : Around) (outer : List Env) (s : Shared) (H : Hp) (E : XK) (g : γ) (a : Addr) (xs : List Int) (vs : List V) (F0 : Hp), Room k (A.deeper (envOfC qual (defScope st) s.heap.objs.size f cdv)) → pre g → xs.length = n → Each (Rs g) vs F0 →
      ∃ t, PSs (cxOf CX0 P w K mg base N qual (defScope st) f cdv A outer s H E).nox (defBody st) t ∧ RunT t (start N (.ref a :: vs)) F0 [(a, .lst (xs.map V.int))] (fun v F' L' => R g v F' ∧ ∃ xs' : List Int, xs'.length = n ∧ L' = [(a, .lst (xs'.map V.int))])) :
    FnOk P w K mg base CX0 (k + 1) f fd ps (SpC n pre Rs R) := by
  refine F.ok S (fun vs H Q E ⟨g, F0, N0, a, xs, ws, e, hp, hx, A, hv, q⟩ => ?_) fun cdv A outer s H vs Q E hr ⟨g, F0, N0, a, xs, ws, e, hp, hx, A0, hv, q⟩ => ?_
  · subst e
    rw [List.length_cons, each_length hv]; exact len g
  · subst e
    obtain ⟨t, h1, h2⟩ := body cdv A outer s H E g a xs ws F0 hr hp hx hv
    refine ⟨t, h1, h2 F0 N0 H (Same.refl _) A0 _ fun v F' L' H' e' A' ⟨hr, xs', hx', hl⟩ => ?_⟩
    subst hl
    exact q v F' H' xs' hx' e' A' hr
end
end Rs

/-! RsQ: runs of what is drawn. -/
namespace Rs
open PySem PySem.Spec PyProof.Rows L2 SlX StX Ma
def NatV : VP := fun v _ => ∃ n : Nat, v = .int n
instance : Mono NatV := ⟨fun _ _ _ _ h => h⟩
def OneD (K : PySem.W.Frag) (ds : List PyData) : VP := fun v F => ∃ d ∈ ds, Dt K d v F
instance {K : PySem.W.Frag} {ds : List PyData} : Mono (OneD K ds) := ⟨fun _ _ _ e ⟨d, h, h1⟩ => ⟨d, h, dp_up e h1⟩⟩
/-- a list of numbers of which P holds -/
def LsP (K : PySem.W.Frag) (P : List Nat → Prop) : VP := fun v F => ∃ ns, P ns ∧ Dt K (.list (ns.map nI)) v F
instance {K : PySem.W.Frag} {P : List Nat → Prop} : Mono (LsP K P) := ⟨fun _ _ _ e ⟨d, h, h1⟩ => ⟨d, h, dp_up e h1⟩⟩
def TpP (K : PySem.W.Frag) (P : List Nat → Prop) : VP := fun v F => ∃ ns, P ns ∧ Dt K (dRow ns) v F
instance {K : PySem.W.Frag} {P : List Nat → Prop} : Mono (TpP K P) := ⟨fun _ _ _ e ⟨d, h, h1⟩ => ⟨d, h, dp_up e h1⟩⟩
def RwP (K : PySem.W.Frag) (P : Rows → Prop) : VP := fun v F => ∃ rs, P rs ∧ Dt K (dRows rs) v F
instance {K : PySem.W.Frag} {P : Rows → Prop} : Mono (RwP K P) := ⟨fun _ _ _ e ⟨d, h, h1⟩ => ⟨d, h, dp_up e h1⟩⟩
theorem er_map {α β : Type} (f : α → β) : ∀ (l : List α) (j : Nat), (l.map f).eraseIdx j = (l.eraseIdx j).map f
  | [], _ => rfl
  | _ :: _, 0 => rfl
  | a :: l, j + 1 => by rw [List.map_cons, List.eraseIdx_cons_succ, List.eraseIdx_cons_succ, List.map_cons, er_map f l j]
section
variable {K : PySem.W.Frag} {σ : L2.St} {F : Hp} {L : Cells} {R S : VP} {ta tb te : TE} {t : TA} {q : List V → Hp → VK → Prop} {E : XK} {Nx : L2.St → Hp → Cells → Prop} {Rt : VP}
theorem r_cbV (h : Run (te σ) F L S) (k : ∀ v F1, Same F F1 → S v F1 → Run (tCB q (tCons (tC v) tNil) σ) F1 L R) : Run (tCB q (tCons te tNil) σ) F L R :=
  run_bind (k := te σ) h fun v F1 e hv => k v F1 e hv
theorem r_callE {γ : Type} {pre : γ → Prop} {Rs : γ → List VP} {R : γ → VP} (hm : ∀ g, MonoL (Rs g)) (h : Run (t σ) F L (fun vs F1 => ∃ g, pre g ∧ Each (Rs g) vs F1)) : Run (tCall (SpF pre Rs R) [] E t σ) F L (fun v F1 => ∃ g, pre g ∧ R g v F1) := run_bind (k := t σ) h fun vs F1 e1 ⟨g, hp, hv⟩ => by
  have hm := hm g
  have h2 := sp_run (R := R) (E := E) (L := L) hp hv
  rw [← List.append_nil vs] at h2
  exact Run.weak h2 fun v F2 _ hr => ⟨g, hp, hr⟩
theorem r_ixBd {ds : List PyData} {n : Nat} (hn : n = ds.length) (ha : Run (ta σ) F L (Dt K (.list ds))) (hb : Run (tb σ) F L (Bd n)) : Run (tOp (rIxL K) ta tb σ) F L (OneD K ds) :=
  r_op ha hb fun x y F1 e hx ⟨m, hm, hy⟩ => by
    subst hy
    have hd : ds[m]? = some (ds[m]'(by omega)) := List.getElem?_eq_getElem (by omega)
    have q := r_ixL (ta := tC x) (tb := tC (.int (m : Int))) (σ := σ) (F := F1) (L := L) (r_c (R := Dt K (.list ds)) hx) (r_c (R := Dt K (.int (m : Nat))) (.int _)) hd
    exact Run.weak q fun v F2 _ hv => ⟨_, List.getElem_mem _, hv⟩
/-- list(l), for oneself -/
theorem x_listN {ns : List Nat} (h : Run (te σ) F L (Dt K (.list (ns.map nI)))) : RunX (tCB (rListOf K) (tCons te tNil) σ) F L (fun v F1 L1 => ∃ p, v = .ref p ∧ L1 = (p, .lst (vN ns)) :: L) := fun F1 N H e A Q q =>
  h F1 N H e A _ fun v F2 H2 e2 A2 hv => by
    obtain ⟨a, vs, rfl, hs, hr⟩ := ls_dt.mpr hv
    rw [cI_nat] at hr
    have := vs_ints (each_dt.mp hr)
    subst this
    refine ⟨a, _, rfl, .inl (sqL_up A2.ex hs), fun p hp => ?_⟩
    have e1 : (cI ns).map V.int = vN ns := by rw [List.map_map]; rfl
    rw [e1]
    exact q _ F2 ((p, .lst (vN ns)) :: L) _ e2 (A2.cell hp) ⟨p, rfl, rfl⟩
where
  cI_nat {ns : List Nat} : (ns.map nI) = (cI ns).map PyData.int := row_int
theorem er_perm {α : Type} : ∀ (l : List α) (n : Nat) (h : n < l.length), (l[n] :: l.eraseIdx n).Perm l
  | a :: l, 0, _ => List.Perm.refl _
  | a :: l, n + 1, h => by
    rw [List.eraseIdx_cons_succ, List.getElem_cons_succ]
    exact (List.Perm.swap _ _ _).trans ((er_perm l n (by simpa using h)).cons a)
theorem x_weak {α : Type} {k : Hp → (α → Hp → Prop) → Prop} {P P' : α → Hp → Cells → Prop} (h : RunX k F L P) (hp : ∀ v F1 L1, P v F1 L1 → ∃ L2, L1.Perm L2 ∧ P' v F1 L2) : RunX k F L P' := fun F1 N H e A Q q =>
  h F1 N H e A Q fun v F2 L2 H2 e2 A2 hv => by
    obtain ⟨L3, pm, h3⟩ := hp v F2 L2 hv
    exact q v F2 L3 H2 e2 (A2.perm (List.Perm.append_right N pm)) h3
theorem s_appX {l : Addr} {xs : List V} {S : V → Hp → Cells → Prop} (hl : Run (ta σ) F ((l, .lst xs) :: L) (Eqv (.ref l))) (h : RunX (te σ) F ((l, .lst xs) :: L) (fun v F1 L1 => ∃ L2, L1 = (l, .lst xs) :: L2 ∧ S v F1 L2)) (hz : xs.length < 100000)
    (k : ∀ v F1 L2, Same F F1 → S v F1 L2 → Nx σ F1 ((l, .lst (xs ++ [v])) :: L2)) : RunS (tDrop (tBM K "list" rAppend ta (tCons te tNil))) σ F ((l, .lst xs) :: L) Nx Rt := fun F1 N H e A D q r =>
  hl F1 N H e A _ fun v F2 H2 e2 A2 hv => by
    cases hv
    refine ⟨.inl ⟨rfl, xs, .inl (.inl (At.on1 A2))⟩, ?_⟩
    refine h F2 N H2 (e.trans e2) A2 _ fun v F3 L3 H3 e3 A3 ⟨L2, hL, hv⟩ => ?_
    subst hL
    refine ⟨l, xs, v, rfl, rfl, At.on1 A3, len_lt hz, ?_⟩
    exact q _ F3 _ _ (e2.trans e3) (At.put A3) (k v F3 L2 ((e.trans e2).trans e3) hv)
theorem x_popBd {l : Addr} {ns : List Nat} {m : Nat} (hm : m = ns.length) (hl : Run (te σ) F ((l, .lst (vN ns)) :: L) (Eqv (.ref l))) (hi : Run (t σ) F ((l, .lst (vN ns)) :: L) (Each [Bd m])) (hz : ns.length < 100000) :
    RunX (tBM K "list" rPopAt te t σ) F ((l, .lst (vN ns)) :: L) (fun v F1 L1 => ∃ (n y : Nat), n < ns.length ∧ ns[n]? = some y ∧ v = .int y ∧ L1 = (l, .lst (vN (ns.eraseIdx n))) :: L) := fun F1 N H e A Q q =>
  hl F1 N H e A _ fun v F2 H2 e2 A2 hv => by
    cases hv
    refine ⟨.inl ⟨rfl, _, .inl (.inl (At.on1 A2))⟩, hi F2 N H2 (e.trans e2) A2 _ fun vs F3 H3 e3 A3 hvs => ?_⟩
    obtain ⟨v, rfl, n, hn, rfl⟩ := each1 hvs
    have hlt : n < ns.length := by omega
    have hv : (vN ns).length = ns.length := List.length_map _
    refine ⟨l, vN ns, (n : Int), n, .int (ns[n] : Nat), rfl, rfl, At.on1 A3, by omega, by omega, ?_, by rw [List.getElem?_map, List.getElem?_eq_getElem hlt]; rfl, ?_⟩
    · exact (ixN_seq (by unfold ixN; rw [if_pos (by omega), if_pos (by omega)]; simp)).1
    · have e5 : (vN ns).eraseIdx n = vN (ns.eraseIdx n) := by exact (er_map _ ns n)
      rw [e5]
      exact q _ F3 ((l, .lst (vN (ns.eraseIdx n))) :: L) _ (e2.trans e3) (At.put A3) ⟨n, ns[n], hlt, List.getElem?_eq_getElem hlt, rfl, rfl⟩
theorem r_minN {i : Nat} (h : Run (t σ) F L (Each [Dt K (nI i), NatV])) : Run (tCB rMin2 t σ) F L NatV := r_cb h fun vs F1 e1 hv => by
  obtain ⟨v, u, rfl, h1, n, rfl⟩ := each2 hv
  cases h1
  refine fun F2 N H e2 A Q q => ⟨i, n, rfl, ?_⟩
  split
  · exact q _ F2 H (Same.refl _) A ⟨n, rfl⟩
  · exact q _ F2 H (Same.refl _) A ⟨i, rfl⟩
theorem r_min2N {i j : Nat} (h : Run (t σ) F L (Each [Dt K (nI i), Dt K (nI j)])) : Run (tCB rMin2 t σ) F L (Dt K (nI (min i j))) := r_cb h fun vs F1 e1 hv => by
  obtain ⟨v, u, rfl, h1, h2⟩ := each2 hv
  cases h1; cases h2
  refine fun F2 N H e2 A Q q => ⟨i, j, rfl, ?_⟩
  by_cases hji : (j : Int) < i
  · rw [if_pos hji, show ((j : Nat) : Int) = ((min i j : Nat) : Int) from by omega]
    exact q _ F2 H (Same.refl _) A (.int _)
  · rw [if_neg hji, show ((i : Nat) : Int) = ((min i j : Nat) : Int) from by omega]
    exact q _ F2 H (Same.refl _) A (.int _)
theorem r_max2N {i j : Nat} (h : Run (t σ) F L (Each [Dt K (nI i), Dt K (nI j)])) : Run (tCB rMax2 t σ) F L (Dt K (nI (max i j))) := r_cb h fun vs F1 e1 hv => by
  obtain ⟨v, u, rfl, h1, h2⟩ := each2 hv
  cases h1; cases h2
  refine fun F2 N H e2 A Q q => ⟨i, j, rfl, ?_⟩
  by_cases hji : (j : Int) > i
  · rw [if_pos hji, show ((j : Nat) : Int) = ((max i j : Nat) : Int) from by omega]
    exact q _ F2 H (Same.refl _) A (.int _)
  · rw [if_neg hji, show ((i : Nat) : Int) = ((max i j : Nat) : Int) from by omega]
    exact q _ F2 H (Same.refl _) A (.int _)
/-- l == [], l != [] -/
theorem eqv_nil {xs : List Nat} : PyData.eqv (.list (xs.map nI)) (.list []) = decide (xs = []) := by
  cases xs with
  | nil => rfl
  | cons a l => rw [List.map_cons, PyData.eqv, PyData.eqvAll]; simp
theorem sh_listN {xs : List Nat} : SeqAt.shaped (.list (xs.map nI)) = true := by rw [show xs.map nI = (cI xs).map PyData.int from row_int]; exact sh_listI
theorem r_eqNil {xs : List Nat} (ha : Run (ta σ) F L (Dt K (.list (xs.map nI)))) : Run (tOp (rEqD K) ta (tLst tNil) σ) F L (Dt K (.bool (decide (xs = [])))) :=
  r_is (r_eqD (e := .list []) ha (r_lnD (α := Nat) (xs := []) (f := nI) (r_lst (Rs := []) r_nil (by decide))) sh_listN (sh_listN (xs := []))) (congrArg PyData.bool eqv_nil)
theorem r_neNil {xs : List Nat} (ha : Run (ta σ) F L (Dt K (.list (xs.map nI)))) : Run (tOp (rNeD K) ta (tLst tNil) σ) F L (Dt K (.bool (!decide (xs = [])))) :=
  r_is (r_neD (e := .list []) ha (r_lnD (α := Nat) (xs := []) (f := nI) (r_lst (Rs := []) r_nil (by decide))) sh_listN (sh_listN (xs := []))) (congrArg (fun b => PyData.bool (!b)) eqv_nil)
end
theorem asc_of {fs : List Nat} (h : fs.Nodup) : ∃ os : List Nat, os.Perm fs ∧ Asc os := by
  refine ⟨fs.mergeSort (fun a b => decide (a ≤ b)), List.mergeSort_perm _ _, ?_⟩
  have h1 := List.pairwise_mergeSort (le := fun (a b : Nat) => decide (a ≤ b)) (fun a b c h1 h2 => by
    simp only [decide_eq_true_eq] at *; omega) (fun a b => by
    simp only [Bool.or_eq_true, decide_eq_true_eq]; omega) fs
  have h2 : (fs.mergeSort (fun a b => decide (a ≤ b))).Nodup := (List.mergeSort_perm _ _).nodup_iff.mpr h
  exact h1.imp₂ (fun a b x y => by have := of_decide_eq_true x; omega) h2
end Rs

/-! Mc: parts. -/
namespace Ma
open PySem Rs L2
def partOf (re : Rows) (h : Nat) : List Nat := (row re h).filter fun o => decide (h ∈ row re o)
def addK (f : List (List Nat)) (k : List Nat) : List (List Nat) := if k ∈ f then f else f ++ [k]
def keysOf (re : Rows) : Nat → List (List Nat)
  | 0 => []
  | i + 1 => addK (keysOf re i) (partOf re i)
def kvP (f : List (List Nat)) : List (List Key × V) := f.map fun r => (kT (cI r), V.bl true)
theorem kvP_keys {f : List (List Nat)} : (kvP f).map (·.1) = (f.map cI).map kT := by unfold kvP; rw [List.map_map, List.map_map]; rfl
theorem kTcI {a b : List Nat} : kT (cI a) = kT (cI b) ↔ a = b := ⟨fun h => cI_inj.mp (kT_inj h), fun h => by rw [h]⟩
theorem kvP_put {f : List (List Nat)} {r : List Nat} : putK (kvP f) (kT (cI r)) (V.bl true) = kvP (addK f r) := by
  unfold putK addK
  have h1 : ((kvP f).any fun kv => decide (kv.1 = kT (cI r))) = decide (r ∈ f) := by
    unfold kvP
    rw [List.any_map, Bool.eq_iff_iff, List.any_eq_true, decide_eq_true_eq]
    constructor
    · rintro ⟨x, hx, e⟩
      have := kTcI.mp (of_decide_eq_true e)
      rw [← this]; exact hx
    · intro h
      exact ⟨r, h, decide_eq_true rfl⟩
  rw [h1]
  by_cases h : r ∈ f
  · rw [if_pos (decide_eq_true h), if_pos h]
    unfold kvP
    rw [List.map_map]
    apply List.map_congr_left
    intro x _
    show (if kT (cI x) = kT (cI r) then _ else _) = _
    split <;> rfl
  · rw [if_neg (by rw [decide_eq_false h]; decide), if_neg h]
    unfold kvP
    rw [List.map_append]; rfl
theorem keys_len {re : Rows} : ∀ i, (keysOf re i).length ≤ i
  | 0 => Nat.le_refl _
  | i + 1 => by
    unfold keysOf addK
    have := keys_len (re := re) i
    split
    · omega
    · rw [List.length_append, List.length_singleton]; omega
theorem mem_keys {re : Rows} {k : List Nat} : ∀ {i}, k ∈ keysOf re i ↔ ∃ h < i, k = partOf re h
  | 0 => by simp [keysOf]
  | i + 1 => by
    unfold keysOf addK
    have ih := mem_keys (re := re) (k := k) (i := i)
    split
    · rename_i hc
      rw [ih]
      constructor
      · rintro ⟨h, hh, e⟩; exact ⟨h, by omega, e⟩
      · rintro ⟨h, hh, e⟩
        by_cases q : h = i
        · subst q; rw [e]; exact mem_keys.mp hc
        · exact ⟨h, by omega, e⟩
    · rw [List.mem_append, ih, List.mem_singleton]
      constructor
      · rintro (⟨h, hh, e⟩ | e)
        · exact ⟨h, by omega, e⟩
        · exact ⟨i, by omega, e⟩
      · rintro ⟨h, hh, e⟩
        by_cases q : h = i
        · subst q; exact .inr e
        · exact .inl ⟨h, by omega, e⟩
def partsI (re : Rows) : List (List Int) := ((keysOf re re.length).map cI).mergeSort fun a b => decide (a ≤ b)
theorem parts_perm {re : Rows} : (partsI re).Perm ((keysOf re re.length).map cI) := List.mergeSort_perm _ _
theorem parts_sorted {re : Rows} : (partsI re).Pairwise (· ≤ ·) := by
  have := List.pairwise_mergeSort (le := fun (a b : List Int) => decide (a ≤ b)) (fun a b c h1 h2 => by
    simp only [decide_eq_true_eq] at *; exact List.le_trans h1 h2) (fun a b => by
    simp only [Bool.or_eq_true, decide_eq_true_eq]; exact List.le_total _ _) ((keysOf re re.length).map cI)
  exact this.imp fun h => of_decide_eq_true h
theorem part_self {rs : Rows} {h : Nat} (hh : h < rs.length) : h ∈ partOf (reachs rs) h := by
  unfold partOf
  rw [List.mem_filter, reachs_row hh, decide_eq_true_eq]
  have : h ∈ reachL rs h := mem_reachL.mpr ⟨hh, .refl⟩
  exact ⟨this, this⟩
end Ma

/-! Md: rounds and roots. -/
namespace Ma
open PySem Rs L2
def wholeR (webs : List Rows) (n : Nat) : Rows := webs.foldl thenR (silentR n)
theorem whole_snoc {webs : List Rows} {r : Rows} {n : Nat} : wholeR (webs ++ [r]) n = thenR (wholeR webs n) r := List.foldl_append ..
theorem whole_len {n : Nat} {webs : List Rows} : (wholeR webs n).length = n := by
  unfold wholeR
  have h : ∀ (l : List Rows) (z : Rows), (l.foldl thenR z).length = z.length := by
    intro l
    induction l with
    | nil => intro z; rfl
    | cons a l ih => intro z; rw [List.foldl_cons, ih, then_len]
  rw [h, silent_len]
theorem fold_ok : ∀ (l : List Rows) (z : Rows), Ok z → Ok (l.foldl thenR z)
  | [], _, h => h
  | _ :: l, _, h => by rw [List.foldl_cons]; exact fold_ok l _ (then_ok h)
theorem whole_ok {webs : List Rows} {n : Nat} (h1 : 1 ≤ n) (h2 : n ≤ 5) : Ok (wholeR webs n) := fold_ok _ _ (silent_ok h1 h2)
/-- who hears x, behind a round and then another -/
theorem hb_then {a b : Rows} (oa : Ok a) (ob : Ok b) (hl : b.length = a.length) {h x : Nat} (hh : h < a.length) : x ∈ hbL (thenR a b) h ↔ ∃ m ∈ hbL b h, x ∈ hbL a m := by
  rw [mem_hb (then_ok oa) (by rw [then_len]; exact hh), then_row hh, mem_thenRow]
  constructor
  · rintro (⟨h1, _⟩ | rfl)
    · exact h1
    · exact ⟨x, (mem_hb ob (by omega)).mpr (.inr rfl), (mem_hb oa hh).mpr (.inr rfl)⟩
  · intro h1
    by_cases hx : x = h
    · exact .inr hx
    · exact .inl ⟨h1, hx⟩
theorem hb_silent {n h x : Nat} (h1 : 1 ≤ n) (h2 : n ≤ 5) (hh : h < n) : x ∈ hbL (silentR n) h ↔ x = h := by
  rw [mem_hb (silent_ok h1 h2) (by rw [silent_len]; exact hh)]
  constructor
  · rintro (z | z)
    · exfalso
      unfold silentR row at z
      rw [List.getD_eq_getElem?_getD, List.getElem?_replicate] at z
      split at z <;> cases z
    · exact z
  · exact .inr
theorem rows_ext {a b : Rows} (oa : Ok a) (ob : Ok b) (hl : a.length = b.length) (h : ∀ i, i < a.length → ∀ x, x ∈ hbL a i ↔ x ∈ hbL b i) : a = b := by
  apply List.ext_getElem?
  intro i
  by_cases hi : i < a.length
  · rw [get_row hi, get_row (by omega)]
    congr 1
    refine asc_one (oa.row_asc i) (ob.row_asc i) fun x => ?_
    have h1 := h i hi x
    rw [mem_hb oa hi, mem_hb ob (by omega)] at h1
    constructor
    · intro z
      rcases h1.mp (.inl z) with q | q
      · exact q
      · exact absurd (q ▸ z) oa.row_ne
    · intro z
      rcases h1.mpr (.inl z) with q | q
      · exact q
      · exact absurd (q ▸ z) ob.row_ne
  · rw [List.getElem?_eq_none (by omega), List.getElem?_eq_none (by omega)]
theorem hb_in {a : Rows} {h x : Nat} (hx : x ∈ hbL a h) : x < a.length := hb_lt hx
theorem then_assoc {a b c : Rows} (oa : Ok a) (ob : Ok b) (oc : Ok c) (h1 : b.length = a.length) (h2 : c.length = a.length) : thenR (thenR a b) c = thenR a (thenR b c) := by
  refine rows_ext (then_ok (then_ok oa)) (then_ok oa) (by rw [then_len, then_len, then_len]) fun i hi x => ?_
  rw [then_len, then_len] at hi
  rw [hb_then (then_ok oa) oc (by rw [then_len]; exact h2) (by rw [then_len]; exact hi), hb_then oa (then_ok ob) (by rw [then_len]; exact h1) hi]
  constructor
  · rintro ⟨m, hm, hx⟩
    have hml : m < a.length := by have := hb_in hm; omega
    obtain ⟨k, hk, hx⟩ := (hb_then oa ob h1 hml).mp hx
    exact ⟨k, (hb_then ob oc (by omega) (by omega)).mpr ⟨m, hm, hk⟩, hx⟩
  · rintro ⟨k, hk, hx⟩
    obtain ⟨m, hm, hk⟩ := (hb_then ob oc (by omega) (by omega)).mp hk
    have hml : m < a.length := by have := hb_in hm; omega
    exact ⟨m, hm, (hb_then oa ob h1 hml).mpr ⟨k, hk, hx⟩⟩
theorem then_silent {a : Rows} (oa : Ok a) : thenR a (silentR a.length) = a := by
  refine rows_ext (then_ok oa) oa then_len fun i hi x => ?_
  rw [then_len] at hi
  rw [hb_then oa (silent_ok oa.pos oa.le) silent_len hi]
  constructor
  · rintro ⟨m, hm, hx⟩
    rw [hb_silent oa.pos oa.le hi] at hm
    exact hm ▸ hx
  · intro hx
    exact ⟨i, (hb_silent oa.pos oa.le hi).mpr rfl, hx⟩
theorem fold_len : ∀ (l : List Rows) (z : Rows), (l.foldl thenR z).length = z.length
  | [], _ => rfl
  | _ :: l, z => by rw [List.foldl_cons, fold_len l, then_len]
theorem fold_then {n : Nat} : ∀ (l : List Rows) (a z : Rows), Ok a → Ok z → a.length = n → z.length = n → (∀ r ∈ l, Ok r ∧ r.length = n) → l.foldl thenR (thenR a z) = thenR a (l.foldl thenR z)
  | [], _, _, _, _, _, _, _ => rfl
  | r :: l, a, z, oa, oz, ha, hz, hl => by
    obtain ⟨or_, hr⟩ := hl r List.mem_cons_self
    rw [List.foldl_cons, List.foldl_cons, then_assoc oa oz or_ (by omega) (by omega)]
    exact fold_then l a (thenR z r) oa (then_ok oz) ha (by rw [then_len]; exact hz) fun q hq => hl q (List.mem_cons_of_mem _ hq)
/-- rounds are put together in any way -/
theorem whole_app {l1 l2 : List Rows} {n : Nat} (h1 : 1 ≤ n) (h2 : n ≤ 5) (hl : ∀ r ∈ l2, Ok r ∧ r.length = n) : thenR (wholeR l1 n) (wholeR l2 n) = wholeR (l1 ++ l2) n := by
  have ok := whole_ok (webs := l1) h1 h2
  have h := fold_then l2 (wholeR l1 n) (silentR n) ok (silent_ok h1 h2) whole_len silent_len hl
  have e : thenR (wholeR l1 n) (silentR n) = wholeR l1 n := by
    have := then_silent ok
    rwa [whole_len] at this
  rw [e] at h
  unfold wholeR at h ⊢
  rw [List.foldl_append]
  exact h.symm
/-! ### who has heard -/
theorem hb_self {a : Rows} (oa : Ok a) {h : Nat} (hh : h < a.length) : h ∈ hbL a h := (mem_hb oa hh).mpr (.inr rfl)
theorem hb_reach {rs : Rows} (o : Ok rs) {x y : Nat} (hy : y < rs.length) (h : x ∈ hbL rs y) : Reach rs x y := by
  rcases (mem_hb o hy).mp h with h | h
  · exact .step .refl hy h
  · rw [h]; exact .refl
theorem Reach.trans {rs : Rows} {x y z : Nat} (h1 : Reach rs x y) (h2 : Reach rs y z) : Reach rs x z := by
  induction h2 with
  | refl => exact h1
  | step _ a b ih => exact .step ih a b
open Classical in
/-- who is reached from x and has heard of it behind the webs l -/
noncomputable def got (rs : Rows) (l : List Rows) (x : Nat) : List Nat := (List.range rs.length).filter fun o => decide (Reach rs x o ∧ x ∈ hbL (wholeR l rs.length) o)
open Classical in
theorem mem_got {rs : Rows} {l : List Rows} {x o : Nat} : o ∈ got rs l x ↔ o < rs.length ∧ Reach rs x o ∧ x ∈ hbL (wholeR l rs.length) o := by
  unfold got
  rw [List.mem_filter, List.mem_range, decide_eq_true_eq]
theorem got_asc {rs : Rows} {l : List Rows} {x : Nat} : Asc (got rs l x) := (asc_range _).filter _
theorem len_le {a b : List Nat} (ha : a.Nodup) (h : ∀ x ∈ a, x ∈ b) : a.length ≤ b.length := by
  induction a generalizing b with
  | nil => exact Nat.zero_le _
  | cons x a ih =>
    have hx := h x List.mem_cons_self
    rw [List.nodup_cons] at ha
    have h1 : ∀ y ∈ a, y ∈ b.erase x := fun y hy => (List.mem_erase_of_ne (fun z : y = x => ha.1 (by rw [← z]; exact hy))).mpr (h y (List.mem_cons_of_mem _ hy))
    have h2 := ih ha.2 h1
    have h3 := List.length_erase_of_mem hx
    have h4 : 0 < b.length := List.length_pos_of_mem hx
    rw [List.length_cons]
    omega
theorem len_lt' {a b : List Nat} (ha : a.Nodup) (h : ∀ x ∈ a, x ∈ b) {y : Nat} (hy : y ∈ b) (hn : y ∉ a) : a.length < b.length := by
  have := len_le (a := y :: a) (b := b) (List.nodup_cons.mpr ⟨hn, ha⟩) fun z hz => by
    rcases List.mem_cons.mp hz with rfl | hz
    · exact hy
    · exact h z hz
  rw [List.length_cons] at this
  exact this
theorem got_mono {rs : Rows} (o : Ok rs) {l : List Rows} {r : Rows} (or_ : Ok r) (hr : r.length = rs.length) {x y : Nat} (h : y ∈ got rs l x) : y ∈ got rs (l ++ [r]) x := by
  obtain ⟨h1, h2, h3⟩ := mem_got.mp h
  refine mem_got.mpr ⟨h1, h2, ?_⟩
  rw [whole_snoc, hb_then (whole_ok o.pos o.le) or_ (by rw [whole_len]; exact hr) (by rw [whole_len]; exact h1)]
  exact ⟨y, hb_self or_ (by omega), h3⟩
theorem got_self {rs : Rows} (o : Ok rs) {l : List Rows} {x : Nat} (hx : x < rs.length) : x ∈ got rs l x :=
  mem_got.mpr ⟨hx, .refl, hb_self (whole_ok o.pos o.le) (by rw [whole_len]; exact hx)⟩
/-- while some of the reached have not heard, a round of rs brings one more -/
theorem got_more {rs : Rows} (o : Ok rs) {l : List Rows} {x y : Nat} (hx : x < rs.length) (hy : Reach rs x y) (hn : y ∉ got rs l x) : ∃ z ∈ got rs (l ++ [rs]) x, z ∉ got rs l x := by
  induction hy with
  | refl => exact absurd (got_self o hx) hn
  | @step u v h1 h2 h3 ih =>
    by_cases hu : u ∈ got rs l x
    · refine ⟨v, mem_got.mpr ⟨h2, .step h1 h2 h3, ?_⟩, hn⟩
      obtain ⟨_, _, h4⟩ := mem_got.mp hu
      rw [whole_snoc, hb_then (whole_ok o.pos o.le) o whole_len.symm (by rw [whole_len]; exact h2)]
      exact ⟨u, (mem_hb o h2).mpr (.inl h3), h4⟩
    · exact ih hu
theorem got_count {rs : Rows} (o : Ok rs) {x y : Nat} (hx : x < rs.length) (hy : Reach rs x y) (hyl : y < rs.length) : ∀ (l : List Rows), (∀ r ∈ l, Ok r ∧ r.length = rs.length) → y ∉ got rs l x → l.count rs + 1 ≤ (got rs l x).length := by
  intro l
  induction h : l.length generalizing l with
  | zero =>
    intro _ _
    have : l = [] := List.eq_nil_of_length_eq_zero h
    subst this
    rw [List.count_nil]
    exact List.length_pos_of_mem (got_self o hx)
  | succ k ih =>
    intro hl hn
    rcases List.eq_nil_or_concat l with z | ⟨l', r, z⟩
    · rw [z] at h; cases h
    · rw [List.concat_eq_append] at z
      subst z
      obtain ⟨or_, hr⟩ := hl r (by simp)
      have hn' : y ∉ got rs l' x := fun q => hn (got_mono o or_ hr q)
      have hk := ih l' (by rw [List.length_append, List.length_singleton] at h; omega) (fun q hq => hl q (List.mem_append_left _ hq)) hn'
      have sub : ∀ z ∈ got rs l' x, z ∈ got rs (l' ++ [r]) x := fun z hz => got_mono o or_ hr hz
      rw [List.count_append, List.count_singleton]
      by_cases hrs : r = rs
      · subst hrs
        obtain ⟨z, hz1, hz2⟩ := got_more o hx hy hn'
        have := len_lt' (asc_nodup got_asc) sub hz1 hz2
        simp
        omega
      · have := len_le (asc_nodup got_asc) sub
        simp [hrs]
        omega
/-- behind n - 1 rounds of rs, with any others between, all that are reached have heard -/
theorem reach_heard {rs : Rows} (o : Ok rs) {x y : Nat} (hx : x < rs.length) (hy : Reach rs x y) (hyl : y < rs.length) {l : List Rows} (hl : ∀ r ∈ l, Ok r ∧ r.length = rs.length) (hc : rs.length - 1 ≤ l.count rs) : x ∈ hbL (wholeR l rs.length) y := by
  by_cases h : y ∈ got rs l x
  · exact (mem_got.mp h).2.2
  · exfalso
    have h1 := got_count o hx hy hyl l hl h
    have h2 := len_lt' (a := got rs l x) (b := List.range rs.length) (asc_nodup got_asc) (fun z hz => List.mem_range.mpr (mem_got.mp hz).1) (List.mem_range.mpr hyl) h
    rw [List.length_range] at h2
    omega
/-- behind rounds of rs alone nobody else has -/
theorem heard_reach {rs : Rows} (o : Ok rs) {x : Nat} : ∀ (k : Nat) {y : Nat}, y < rs.length → x ∈ hbL (wholeR (List.replicate k rs) rs.length) y → Reach rs x y
  | 0, y, hy, h => by
    have := (hb_silent o.pos o.le hy).mp h
    rw [this]; exact .refl
  | k + 1, y, hy, h => by
    rw [List.replicate_succ', whole_snoc, hb_then (whole_ok o.pos o.le) o whole_len.symm (by rw [whole_len]; exact hy)] at h
    obtain ⟨m, hm, hx⟩ := h
    have hml := hb_lt hm
    exact (heard_reach o k hml hx).trans (hb_reach o hy hm)
theorem pow_iff {rs : Rows} (o : Ok rs) {k x y : Nat} (hk : rs.length - 1 ≤ k) (hy : y < rs.length) : x ∈ hbL (wholeR (List.replicate k rs) rs.length) y ↔ x < rs.length ∧ Reach rs x y := by
  constructor
  · intro h
    have := hb_lt h
    rw [whole_len] at this
    exact ⟨this, heard_reach o k hy h⟩
  · rintro ⟨hx, h⟩
    exact reach_heard o hx h hy (fun r hr => by rw [(List.mem_replicate.mp hr).2]; exact ⟨o, rfl⟩) (by rw [List.count_replicate_self]; exact hk)
/-! ### roots -/
theorem mem_roots {rs : Rows} {h : Nat} : h ∈ rootsN rs ↔ h < rs.length ∧ ∀ y, y < rs.length → Reach rs h y := by
  unfold rootsN
  rw [List.mem_filter, List.mem_range, decide_eq_true_eq]
  refine and_congr_right fun hh => ?_
  constructor
  · intro h1 y hy
    by_cases hm : y ∈ reachL rs h
    · exact (mem_reachL.mp hm).2
    · exfalso
      have := len_lt' (a := reachL rs h) (b := List.range rs.length) (asc_nodup asc_reachL) (fun z hz => List.mem_range.mpr (mem_reachL.mp hz).1) (List.mem_range.mpr hy) hm
      rw [List.length_range] at this
      omega
  · intro h1
    have h2 := len_le (a := List.range rs.length) (b := reachL rs h) List.nodup_range fun y hy => mem_reachL.mpr ⟨List.mem_range.mp hy, h1 y (List.mem_range.mp hy)⟩
    rw [List.length_range] at h2
    have := len_reachL (rs := rs) (h := h)
    omega
theorem asc_roots {rs : Rows} : Asc (rootsN rs) := (asc_range _).filter _
theorem asc_part {rs : Rows} {h : Nat} (hh : h < rs.length) : Asc (partOf (reachs rs) h) := by
  unfold partOf
  rw [reachs_row hh]
  exact asc_reachL.filter _
theorem mem_part {rs : Rows} {h y : Nat} (hh : h < rs.length) : y ∈ partOf (reachs rs) h ↔ y < rs.length ∧ Reach rs h y ∧ Reach rs y h := by
  unfold partOf
  rw [List.mem_filter, reachs_row hh, mem_reachL, decide_eq_true_eq]
  constructor
  · rintro ⟨⟨h1, h2⟩, h3⟩
    rw [reachs_row h1, mem_reachL] at h3
    exact ⟨h1, h2, h3.2⟩
  · rintro ⟨h1, h2, h3⟩
    exact ⟨⟨h1, h2⟩, by rw [reachs_row h1, mem_reachL]; exact ⟨hh, h3⟩⟩
/-- the roots are one of the parts, or none -/
theorem roots_part {rs : Rows} (hne : rootsN rs ≠ []) : rootsN rs ∈ keysOf (reachs rs) (reachs rs).length := by
  obtain ⟨h, hm⟩ := List.exists_mem_of_ne_nil _ hne
  obtain ⟨hh, hall⟩ := mem_roots.mp hm
  refine mem_keys.mpr ⟨h, by rw [reachs_len]; exact hh, asc_one asc_roots (asc_part hh) fun y => ?_⟩
  rw [mem_roots, mem_part hh]
  constructor
  · rintro ⟨h1, h2⟩
    exact ⟨h1, hall y h1, h2 h hh⟩
  · rintro ⟨h1, h2, h3⟩
    exact ⟨h1, fun z hz => h3.trans (hall z hz)⟩
theorem roots_parts {rs : Rows} (hne : rootsN rs ≠ []) : cI (rootsN rs) ∈ partsI (reachs rs) := parts_perm.mem_iff.mpr (List.mem_map.mpr ⟨_, roots_part hne, rfl⟩)
def heraldsL (rs : Rows) : List Nat := (List.range rs.length).filter fun h => decide (((List.range rs.length).filter fun o => !decide (h ∈ hbL rs o)) = [])
theorem mem_heralds {rs : Rows} {h : Nat} : h ∈ heraldsL rs ↔ h < rs.length ∧ ∀ o, o < rs.length → h ∈ hbL rs o := by
  unfold heraldsL
  rw [List.mem_filter, List.mem_range, decide_eq_true_eq, List.filter_eq_nil_iff]
  refine and_congr_right fun hh => ?_
  constructor
  · intro h1 o ho
    have := h1 o (List.mem_range.mpr ho)
    simpa using this
  · intro h1 o ho
    simpa using h1 o (List.mem_range.mp ho)
/-- a house is heard by all behind n - 1 rounds exactly if it is a root -/
theorem heralds_pow {rs : Rows} (o : Ok rs) {k : Nat} (hk : rs.length - 1 ≤ k) : heraldsL (wholeR (List.replicate k rs) rs.length) = rootsN rs := by
  refine asc_one ((asc_range _).filter _) asc_roots fun h => ?_
  rw [mem_heralds, mem_roots, whole_len]
  refine and_congr_right fun hh => ?_
  constructor
  · intro h1 y hy
    exact ((pow_iff o hk hy).mp (h1 y hy)).2
  · intro h1 y hy
    exact (pow_iff o hk hy).mpr ⟨hh, h1 y hy⟩
theorem roots_heralds {rs : Rows} (o : Ok rs) {l : List Rows} (hl : ∀ r ∈ l, Ok r ∧ r.length = rs.length) (hc : rs.length - 1 ≤ l.count rs) {h : Nat} (hm : h ∈ rootsN rs) : h ∈ heraldsL (wholeR l rs.length) := by
  obtain ⟨hh, hall⟩ := mem_roots.mp hm
  rw [mem_heralds, whole_len]
  exact ⟨hh, fun y hy => reach_heard o hh (hall y hy) hy hl hc⟩
/-- roots hear nobody but roots -/
theorem roots_hear {rs : Rows} (o : Ok rs) {h x : Nat} (hm : h ∈ rootsN rs) (hx : x ∈ row rs h) : x ∈ rootsN rs := by
  obtain ⟨hh, hall⟩ := mem_roots.mp hm
  exact mem_roots.mpr ⟨o.row_lt hx, fun y hy => (Reach.step .refl hh hx).trans (hall y hy)⟩
theorem within_left {a b : Rows} (oa : Ok a) (ob : Ok b) (hl : b.length = a.length) (i x : Nat) (hx : x ∈ row a i) : x ∈ row (thenR a b) i := by
  by_cases hi : i < a.length
  · rw [then_row hi, mem_thenRow]
    exact ⟨⟨i, hb_self ob (by omega), (mem_hb oa hi).mpr (.inl hx)⟩, fun z => oa.row_ne (z ▸ hx)⟩
  · rw [row, List.getD_eq_getElem?_getD, List.getElem?_eq_none (by omega)] at hx
    cases hx
theorem within_right {a b : Rows} (oa : Ok a) (ob : Ok b) (hl : b.length = a.length) (i x : Nat) (hx : x ∈ row b i) : x ∈ row (thenR a b) i := by
  by_cases hi : i < a.length
  · rw [then_row hi, mem_thenRow]
    exact ⟨⟨x, (mem_hb ob (by omega)).mpr (.inl hx), hb_self oa (by have := ob.row_lt hx; omega)⟩, fun z => ob.row_ne (z ▸ hx)⟩
  · rw [row, List.getD_eq_getElem?_getD, List.getElem?_eq_none (by omega)] at hx
    cases hx
/-! ### the closure -/
theorem again_then {rs : Rows} (o : Ok rs) : thenR (wholeR (List.replicate rs.length rs) rs.length) rs = wholeR (List.replicate rs.length rs) rs.length := by
  rw [← whole_snoc, ← List.replicate_succ']
  refine rows_ext (whole_ok o.pos o.le) (whole_ok o.pos o.le) (by rw [whole_len, whole_len]) fun i hi x => ?_
  rw [whole_len] at hi
  rw [pow_iff o (by omega) hi, pow_iff o (by omega) hi]
theorem again_reach {rs : Rows} (o : Ok rs) {x y : Nat} (hx : x < rs.length) (hy : y < rs.length) : Reach (wholeR (List.replicate rs.length rs) rs.length) x y ↔ Reach rs x y := by
  have oa : Ok (wholeR (List.replicate rs.length rs) rs.length) := whole_ok o.pos o.le
  constructor
  · intro h
    induction h with
    | refl => exact .refl
    | step h1 h2 h3 ih =>
      rw [whole_len] at h2
      have h4 := oa.row_lt h3
      rw [whole_len] at h4
      have := (pow_iff o (k := rs.length) (by omega) h2).mp ((mem_hb oa (by rw [whole_len]; exact h2)).mpr (.inl h3))
      exact (ih h4).trans this.2
  · intro h
    have := (pow_iff o (k := rs.length) (by omega) hy).mpr ⟨hx, h⟩
    exact hb_reach oa (by rw [whole_len]; exact hy) this
theorem again_reachs {rs : Rows} (o : Ok rs) : reachs (wholeR (List.replicate rs.length rs) rs.length) = reachs rs := by
  unfold reachs
  rw [whole_len]
  apply List.map_congr_left
  intro h hh
  rw [List.mem_range] at hh
  refine asc_one asc_reachL asc_reachL fun y => ?_
  rw [mem_reachL, mem_reachL, whole_len]
  exact and_congr_right fun hy => again_reach o hh hy
theorem again_roots {rs : Rows} (o : Ok rs) : rootsN (wholeR (List.replicate rs.length rs) rs.length) = rootsN rs := by
  refine asc_one asc_roots asc_roots fun h => ?_
  rw [mem_roots, mem_roots, whole_len]
  refine and_congr_right fun hh => ?_
  constructor
  · intro h1 y hy; exact (again_reach o hh hy).mp (h1 y hy)
  · intro h1 y hy; exact (again_reach o hh hy).mpr (h1 y hy)
end Ma

/-! RsR: lists of webs. -/
namespace Rs
open PySem PySem.Spec PyProof.Rows L2 SlX StX Ma
/-- a list of webs of which P holds -/
def WsP (C : Addr) (K : PySem.W.Frag) (P : List Rows → Prop) : VP := fun v F => ∃ l, P l ∧ Ln (l.map fun r => webP C K r) v F
instance {C : Addr} {K : PySem.W.Frag} {P : List Rows → Prop} : Mono (WsP C K P) := ⟨fun _ _ _ e ⟨l, h, h1⟩ => ⟨l, h, Mono.go h1 e⟩⟩
def WbP (C : Addr) (K : PySem.W.Frag) (P : Rows → Prop) : VP := fun v F => ∃ r, P r ∧ webP C K r v F
instance {C : Addr} {K : PySem.W.Frag} {P : Rows → Prop} : Mono (WbP C K P) := ⟨fun _ _ _ e ⟨l, h, h1⟩ => ⟨l, h, Mono.go h1 e⟩⟩
def NumP (P : Nat → Prop) : VP := fun v _ => ∃ n : Nat, P n ∧ v = .int n
instance {P : Nat → Prop} : Mono (NumP P) := ⟨fun _ _ _ _ h => h⟩
section
variable {K : PySem.W.Frag} {σ : L2.St} {F : Hp} {L : Cells} {R S : VP} {ta tb te : TE} {t : TA} {E : XK} {C : Addr}
theorem r_addBd {c m : Nat} (ha : Run (ta σ) F L (Dt K (.int (c : Nat)))) (hb : Run (tb σ) F L (Bd m)) : Run (tOp (rI0 fun i j => .int (i + j)) ta tb σ) F L (NumP fun n => c ≤ n ∧ n < c + m) :=
  r_op ha hb fun x y F1 e hx ⟨k, hk, hy⟩ => by
    cases hx; subst hy
    exact fun F2 N H e2 A Q q => ⟨c, k, rfl, rfl, q _ F2 H (Same.refl _) A ⟨c + k, ⟨by omega, by omega⟩, by rw [Int.natCast_add]⟩⟩
theorem r_repW {rs : Rows} {P : Nat → Prop} (ha : Run (ta σ) F L (webP C K rs)) (hb : Run (tb σ) F L (NumP P)) (hm : ∀ m, P m → m ≤ 50) : Run (tOp rRep (tLst (tCons ta tNil)) tb σ) F L (WsP C K fun l => ∃ m, P m ∧ l = List.replicate m rs) :=
  r_op (r_lst (Rs := [webP C K rs]) (r_cons ha r_nil) (by show 1 ≤ 100000; decide)) hb fun x y F1 e hx ⟨m, hp, hy⟩ => by
    subst hy
    have h50 := hm m hp
    obtain ⟨a, vs, rfl, hs, hr⟩ := hx
    obtain ⟨v, rfl, hv⟩ := each1 hr
    refine fun F2 N H e2 A Q q => ⟨a, (m : Int), [v], rfl, rfl, A.ex _ _ (e2 _ _ hs), by omega, by omega, by rw [sizeLine_eq]; simp; omega, fun p hp' => ?_⟩
    refine q _ (upd F2 p _) _ (same_new (A.free hp')) (A.new hp') ⟨_, ⟨m, hp, rfl⟩, p, _, rfl, upd_same, ?_⟩
    have h1 := each_rep (f := fun r => webP C K r) (xs := [rs]) (vs := [v]) ⟨Mono.go hv (e2.trans (same_new (o := .lst (List.replicate (m : Int).toNat [v]).flatten) (A.free hp'))), True.intro⟩ m
    rw [rep_flat] at h1
    rw [Int.toNat_natCast] at h1 ⊢
    exact h1
theorem r_one {P : Rows → Prop} (h : Run (te σ) F L (WbP C K P)) : Run (tLst (tCons te tNil) σ) F L (WsP C K fun l => ∃ q, P q ∧ l = [q]) :=
  Run.weak (r_lst (Rs := [WbP C K P]) (r_cons h r_nil) (by show 1 ≤ 100000; decide)) fun v F1 e hv => by
    obtain ⟨a, vs, rfl, hs, hr⟩ := hv
    obtain ⟨u, rfl, r, hp, hr⟩ := each1 hr
    exact ⟨[r], ⟨r, hp, rfl⟩, a, _, rfl, hs, hr, True.intro⟩
theorem r_catW {P1 P2 : List Rows → Prop} (ha : Run (ta σ) F L (WsP C K P1)) (hb : Run (tb σ) F L (WsP C K P2)) (h : ∀ l1 l2, P1 l1 → P2 l2 → l1.length + l2.length ≤ 10000) : Run (tOp rCat ta tb σ) F L (WsP C K fun l => ∃ l1 l2, P1 l1 ∧ P2 l2 ∧ l = l1 ++ l2) :=
  r_op ha hb fun x y F1 e ⟨l1, p1, hx⟩ ⟨l2, p2, hy⟩ =>
    Run.weak (r_cat (f := fun r => webP C K r) (ta := tC x) (tb := tC y) (σ := σ) (r_c hx) (r_c hy) (h l1 l2 p1 p2)) fun v F2 e2 hv => ⟨l1 ++ l2, ⟨l1, l2, p1, p2, rfl⟩, hv⟩
theorem r_takeW {l : List Rows} {n : Nat} (ha : Run (ta σ) F L (Ln (l.map fun r => webP C K r))) (hb : Run (tb σ) F L (Dt K (nI n))) (hn : n ≤ l.length) : Run (L2.tSl (rSlL K) ta tNoPart (tPart tb) σ) F L (WsP C K fun m => m = l.take n) := Run.weak (r_slTake ha hb hn) fun v F1 e hv => ⟨_, rfl, hv⟩
theorem r_dropW {l : List Rows} {n : Nat} (ha : Run (ta σ) F L (Ln (l.map fun r => webP C K r))) (hb : Run (tb σ) F L (Dt K (nI n))) (hn : n ≤ l.length) : Run (L2.tSl (rSlL K) ta (tPart tb) tNoPart σ) F L (WsP C K fun m => m = l.drop n) := Run.weak (r_slDrop ha hb hn) fun v F1 e hv => ⟨_, rfl, hv⟩
theorem r_wsE {l : List Rows} (h : Run (te σ) F L (WsP C K fun m => m = l)) : Run (te σ) F L (Ls K (l.map fun r => webP C K r)) := h.weak fun v F1 e ⟨m, hm, hv⟩ => by
  subst hm
  exact Ln.ls hv
theorem r_mkE {P : Rows → Prop} {pre : Rows → Prop} {R : Rows → VP} (hp : ∀ r, P r → pre r) (h : Run (te σ) F L (RwP K P)) : Run (tMake C (SpI C pre (fun rs => [Dt K (dRows rs)]) R) [] E (tCons te tNil) σ) F L (fun v F1 => ∃ r, P r ∧ R r v F1) :=
  run_bind (k := te σ) h fun v F1 e ⟨r, hP, hv⟩ => Run.weak (r_mk (E := E) (tt := tCons (tC v) tNil) (σ := σ) (pre := pre) (Rs := fun rs => [Dt K (dRows rs)]) (R := R) r (hp r hP) (r_cons (r_c hv) r_nil)) fun v F2 e2 hr => ⟨r, hP, hr⟩
theorem r_notInL {i : Nat} {r : List Nat} (ha : Run (ta σ) F L (Dt K (nI i))) (hb : Run (tb σ) F L (Dt K (.list (r.map nI)))) : Run (tOp (rIn K true) ta tb σ) F L (Dt K (.bool (!decide (i ∈ r)))) :=
  r_is (r_notIn ha hb fun v F1 h => seqI_l (ns := cI r) (by rw [← row_int]; exact h)) (congrArg (fun b => PyData.bool (!b)) (decide_eq_decide.mpr mem_cI))
theorem r_neRow {a b : List Nat} (ha : Run (ta σ) F L (Dt K (dRow a))) (hb : Run (tb σ) F L (Dt K (dRow b))) (s1 : SeqAt.shaped (dRow a) = true) (s2 : SeqAt.shaped (dRow b) = true) (e : PyData.eqv (dRow a) (dRow b) = decide (a = b)) : Run (tOp (rNeD K) ta tb σ) F L (Dt K (.bool (!decide (a = b)))) :=
  r_is (r_neD ha hb s1 s2) (congrArg (fun b => PyData.bool (!b)) e)
/-! a for over what is drawn -/
variable {Nx : L2.St → Hp → Cells → Prop} {Rt : VP} {tb' u : TS} {g : TG} {wi : TI}
theorem q_forE {ι : Type} {P : ι → Prop} {Rs : ι → List VP} (Inv : Nat → L2.St → Hp → Cells → Prop) (h : Run (wi σ) F L (fun J F1 => ∃ k, P k ∧ Seqs J (Rs k) F1)) (h0 : ∀ F1, Same F F1 → Inv 0 σ F1 L)
    (hup : ∀ i σ' F1 F2 L', Same F1 F2 → Inv i σ' F1 L' → Inv i σ' F2 L')
    (hs : ∀ k, P k → ∀ i R x σ' F' L', Same F F' → (Rs k)[i]? = some R → R x F' → Inv i σ' F' L' → RunS (bindG g x tb') σ' F' L' (Inv (i + 1)) Rt)
    (hd : ∀ k, P k → ∀ σ' F' L', Same F F' → Inv (Rs k).length σ' F' L' → RunS u σ' F' L' Nx Rt) : RunS (tSeq (tFor wi g tb') u) σ F L Nx Rt := fun F1 N H e A D q r =>
  h F1 N H e A _ fun J F2 H2 e2 A2 ⟨k, hp, G, Y, wk, hG, hY⟩ => by
    refine for_it wk (D := { D with nx := u D }) (fun i σ' H' => ∃ F' L', Same F2 F' ∧ At F' (L' ++ N) H' ∧ Inv i σ' F' L') ⟨F2, L, Same.refl _, A2, h0 F2 (e.trans e2)⟩ (fun i σ' H' _ ⟨F', L', e', A', _⟩ => hG F' (L' ++ N) H' e' A') ?_ ?_
    · rintro i x σ' H3 H4 hi ⟨F', L', e', A', I⟩ y
      obtain ⟨F3, R, e3, A3, hR, hx⟩ := hY F' (L' ++ N) H3 i x H4 e' A' hi y
      exact hs k hp i R x σ' F3 L' (((e.trans e2).trans e').trans e3) hR hx (hup i σ' F' F3 L' e3 I) F3 N H4 (Same.refl _) A3 { D with nx := fun σ' H' => ∃ F' L', Same F2 F' ∧ At F' (L' ++ N) H' ∧ Inv (i + 1) σ' F' L', ct := fun σ' H' => ∃ F' L', Same F2 F' ∧ At F' (L' ++ N) H' ∧ Inv (i + 1) σ' F' L', bk := u D }
        (fun σ5 F5 L5 H5 e5 A5 n => ⟨F5, L5, (e'.trans e3).trans e5, A5, n⟩) fun w F5 H5 e5 A5 n => r w F5 H5 (((e2.trans e').trans e3).trans e5) A5 n
    · rintro σ' H3 ⟨F', L', e', A', I⟩
      exact hd k hp σ' F' L' ((e.trans e2).trans e') I F' N H3 (Same.refl _) A' D (fun σ5 F5 L5 H5 e5 A5 n => q σ5 F5 L5 H5 ((e2.trans e').trans e5) A5 n) fun w F5 H5 e5 A5 n => r w F5 H5 ((e2.trans e').trans e5) A5 n
theorem i_rangeBd {m : Nat} (h : Run (te σ) F L (Bd m)) (hm : m ≤ 1000) : Run (iRng1 (tCons te tNil) σ) F L (fun J F1 => ∃ k, k < m ∧ Seqs J ((List.range k).map fun i => Dt K (nI i)) F1) :=
  run_bind (k := te σ) h fun v F1 e ⟨k, hk, hv⟩ => by
    subst hv
    exact Run.weak (i_rangeN (te := tC (.int (k : Int))) (σ := σ) (r_c (R := Dt K (nI k)) (.int _)) (by omega)) fun J F2 e2 hJ => ⟨k, hk, hJ⟩
end
end Rs

/-! RsS: the length of a set of ints; lists of two starred rows. -/
namespace Rs
open PySem PySem.Spec PyProof.Rows L2 SlX StX Ma
def rLenSet (w : World) : List V → Hp → VK → Prop := fun xs H Q => ∃ (a : Addr) (S : Int → Bool) (n : Nat) (os : List Int), xs = [.ref a] ∧ H a = some (SetO w a S n) ∧ os.Nodup ∧ (∀ k, k ∈ os ↔ S k = true) ∧ Q (.int os.length) H
section
variable {X : Cx}
theorem call_lenSet : CallR X (.builtin "len") (rLenSet X.w) := by
  intro pins s σ H xs us Q I r h
  obtain ⟨a, S, n, os, rfl, ha, hn, hm, q⟩ := h
  rw [Vals.ref1 r]
  obtain ⟨o, es, ep, t, ho, hex, hd, hg, hnd, hS, hb, hf, hs, _⟩ := setO_get I ha
  have hp : (es.toList.map keyOf).Perm os := (List.perm_ext_iff_of_nodup hnd hn).mpr fun k => by rw [← hS k, hm k]
  have hl : es.size = os.length := by
    have := hp.length_eq
    rwa [List.length_map, Array.length_toList] at this
  have hsc : scanBound ≤ 2 ^ 62 := by decide
  refine call_len_set ho hex hd hf (by omega) ?_
  rw [hl]
  exact ⟨.int os.length, H, I.tok _, ⟨_, rfl⟩, q⟩
variable {e : Expr} {es : List Expr} {t : TA} {p pos : Pos}
theorem p_lenS (B : Bf X.mg) (ha : PA X (e :: es) t) (hg : Gl X "len" := by rfl) (he : starEach (e :: es) X.env = (false, eval e X.env) :: starEach es X.env := by rfl) (hpl : (backTo pos (starEach es X.env)).any (·.1) = false := by rfl) :
    PE X (.Call (.Name "len" p) (e :: es) [] pos) (tCB (rLenSet X.w) t) := pe_callB call_lenSet hg B.len PySem.boot_len ha (by decide) (by decide) he hpl
end
section
variable {K : PySem.W.Frag} {w : World} {σ : L2.St} {F : Hp} {L : Cells} {t : TA} {ta tb te : TE}
theorem r_lenS {ns os : List Int} (h : Run (t σ) F L (Each [Rs.St w ns])) (h1 : os.Nodup) (h2 : ∀ k, k ∈ os ↔ k ∈ ns) : Run (tCB (rLenSet w) t σ) F L (Dt K (.int os.length)) := r_cb h fun vs F1 e1 hv => by
  obtain ⟨v, rfl, a, c, rfl, hc, hs⟩ := each1 hv
  exact fun F2 N H e2 A Q q => ⟨a, _, c, os, rfl, A.ex _ _ (e2 _ _ hs), h1, fun k => by rw [h2 k, decide_eq_true_eq], q _ F2 H (Same.refl _) A (.int _)⟩
/-- [*a, *b] -/
theorem r_star2 {a b : List Nat} (ha : Run (ta σ) F L (Dt K (dRow a))) (hb : Run (tb σ) F L (Dt K (dRow b))) (hl : a.length + b.length ≤ 1000) : Run (tLst (tStar K ta (tStar K tb tNil)) σ) F L (Dt K (.list ((a ++ b).map nI))) := by
  refine r_lnD (f := nI) (r_lst (Rs := (a ++ b).map fun x => Dt K (nI x)) ?_ (by rw [List.length_map, List.length_append]; omega))
  have h := r_star ha (r_star hb r_nil)
  rw [List.map_append]
  rw [List.append_nil, List.map_map, List.map_map] at h
  exact h
end
end Rs

/-! RsU: list(range(..)), tuple(range(..)), texts. -/
namespace Rs
open PySem PySem.Spec PyProof.Rows L2 SlX StX Ma
section
variable {X : Cx} {a : Expr} {ta : TE} {p q pos pos2 : Pos}
theorem p_listRg (hc : X.calm = true) (B : Bf X.mg) (ha : PE X a ta) (hg : Gl X "list" := by rfl) (hgr : Gl X "range" := by rfl) (na : starEach [a] X.env = (false, eval a X.env) :: starEach [] X.env := by rfl)
    (nb : starEach [.Call (.Name "range" q) [a] [] pos2] X.env = (false, eval (.Call (.Name "range" q) [a] [] pos2) X.env) :: starEach [] X.env := by rfl) :
    PE X (.Call (.Name "list" p) [.Call (.Name "range" q) [a] [] pos2] [] pos) (tLstRg (tRg1 ta)) := pe_listRg hc hg B.list (prg_1 hgr B.range ha na) nb
theorem p_tupRg (hc : X.calm = true) (B : Bf X.mg) (ha : PE X a ta) (hg : Gl X "tuple" := by rfl) (hgr : Gl X "range" := by rfl) (na : starEach [a] X.env = (false, eval a X.env) :: starEach [] X.env := by rfl)
    (nb : starEach [.Call (.Name "range" q) [a] [] pos2] X.env = (false, eval (.Call (.Name "range" q) [a] [] pos2) X.env) :: starEach [] X.env := by rfl) :
    PE X (.Call (.Name "tuple" p) [.Call (.Name "range" q) [a] [] pos2] [] pos) (tTupRg (tRg1 ta)) := pe_tupRg hc hg B.tuple (prg_1 hgr B.range ha na) nb
theorem p_str (B : Bf X.mg) {e : Expr} {es : List Expr} {t : TA} (hm : X.mg "str" = none) (ha : PA X (e :: es) t) (hg : Gl X "str" := by rfl) (he : starEach (e :: es) X.env = (false, eval e X.env) :: starEach es X.env := by rfl) (hpl : (backTo pos (starEach es X.env)).any (·.1) = false := by rfl) :
    PE X (.Call (.Name "str" p) (e :: es) [] pos) (tCB (fun xs H Q => ∃ i, xs = [.int i] ∧ i.natAbs.log2 < 1920 ∧ Q (.str (toString i)) H) t) := pe_callTy call_str_int hg hm boot_str ha (by decide) (by decide) he hpl
end
section
variable {K : PySem.W.Frag} {σ : L2.St} {F : Hp} {L : Cells} {R : VP} {t : TA} {ta tb te : TE}
theorem rgV_nat (n : Nat) : rgV 0 (n : Int) = (List.range n).map fun i : Nat => V.int ((i : Nat) : Int) := by
  unfold rgV
  rw [show ((n : Int) - 0).toNat = n from by omega]
  exact List.map_congr_left fun (i : Nat) _ => congrArg V.int (Int.zero_add _)
theorem each_ints : ∀ {xs : List Nat} {F : Hp}, Each (xs.map fun x => Dt K (nI x)) (xs.map fun i : Nat => V.int ((i : Nat) : Int)) F
  | [], _ => True.intro
  | _ :: _, _ => ⟨.int _, each_ints⟩
theorem r_listRg {n : Nat} (h : Run (ta σ) F L (Dt K (nI n))) (hn : n ≤ 1000) : Run (tLstRg (tRg1 ta) σ) F L (Dt K (.list ((List.range n).map nI))) :=
  r_lnD (f := nI) (run_bind (k := ta σ) h fun v F1 e hv => by
    cases hv
    refine run_ex (n : Int) (run_and (fun _ _ _ _ _ => rfl) (run_and (fun _ _ _ _ _ => RgOk.of_le (by omega) (by omega) (by omega) (by omega)) ?_))
    rw [rgV_nat]
    exact run_new fun F2 p e2 hp => ⟨p, _, rfl, upd_same, each_ints⟩)
theorem r_tupRg {n : Nat} (h : Run (ta σ) F L (Dt K (nI n))) (hn : n ≤ 1000) : Run (tTupRg (tRg1 ta) σ) F L (Dt K (.tuple ((List.range n).map nI))) :=
  r_tpD (f := nI) (run_bind (k := ta σ) h fun v F1 e hv => by
    cases hv
    refine run_ex (n : Int) (run_and (fun _ _ _ _ _ => rfl) (run_and (fun _ _ _ _ _ => RgOk.of_le (by omega) (by omega) (by omega) (by omega)) ?_))
    rw [rgV_nat]
    exact run_new fun F2 p e2 hp => ⟨p, _, rfl, .inl (.inl upd_same), each_ints⟩)
theorem log_small {n : Nat} (h : n ≤ 1000) : ((n : Int)).natAbs.log2 < 1920 := by
  rw [Int.natAbs_natCast]
  by_cases h0 : n = 0
  · subst h0; decide
  · exact Nat.lt_of_lt_of_le ((Nat.log2_lt h0).mpr (show n < 2 ^ 10 by omega)) (by decide)
theorem r_strI {n : Nat} (h : Run (t σ) F L (Each [Dt K (nI n)])) (hn : n ≤ 1000) : Run (tCB (fun xs H Q => ∃ i, xs = [V.int i] ∧ i.natAbs.log2 < 1920 ∧ Q (.str (toString i)) H) t σ) F L (Dt K (.str (toString (n : Int)))) := r_cb h fun vs F1 e hv => by
  obtain ⟨v, rfl, hw⟩ := each1 hv
  cases hw
  exact run_ex (n : Int) (run_and (fun _ _ _ _ _ => rfl) (run_and (fun _ _ _ _ _ => log_small hn) (run_ret fun _ _ => .str _)))
theorem r_addS {x y : PySem.Str} (ha : Run (ta σ) F L (Dt K (.str x))) (hb : Run (tb σ) F L (Dt K (.str y))) (hl : x.length + y.length ≤ 100000) : Run (tOp (fun u v H Q => ∃ i j, u = V.str i ∧ v = .str j ∧ i.length + j.length ≤ sizeLine ∧ Q (.str (i ++ j)) H) ta tb σ) F L (Dt K (.str (x ++ y))) :=
  r_op ha hb fun u v F1 e hx hy => by
    cases hx; cases hy
    exact run_ex x (run_ex y (run_and (fun _ _ _ _ _ => rfl) (run_and (fun _ _ _ _ _ => rfl) (run_and (fun _ _ _ _ _ => len_ok hl) (run_ret fun _ _ => .str _)))))
def rJoin (K : PySem.W.Frag) : V → List V → Hp → VK → Prop := fun x xs H Q => ∃ a p, ∃ ys : List Str, x = .str a ∧ xs = [.ref p] ∧ (SqL K H p (ys.map V.str) ∨ SqT K H p (ys.map V.str)) ∧
    (ys.map (·.length)).sum + ys.length * a.length ≤ 16777216 ∧ Q (.str (Txt.join a ys)) H
theorem each_strs : ∀ {ys : List Str} {vs : List V} {F : Hp}, Each (ys.map fun y => Dt K (.str y)) vs F → vs = ys.map V.str
  | [], [], _, _ => rfl
  | [], _ :: _, _, h => h.elim
  | _ :: _, [], _, h => h.elim
  | y :: ys, v :: vs, F, h => by
    have h1 := h.1
    cases h1
    rw [each_strs (ys := ys) h.2]
    rfl
theorem r_join {a : PySem.Str} {ys : List Str} (ha : Run (ta σ) F L (Dt K (.str a))) (hb : Run (tb σ) F L (Dt K (.list (ys.map PyData.str)))) (hl : (ys.map (·.length)).sum + ys.length * a.length ≤ 16777216) : Run (tM1 (rJoin K) ta tb σ) F L (Dt K (.str (Txt.join a ys))) :=
  run_bind (k := ta σ) ha fun x F1 e1 hx => by
    cases hx
    refine run_and (fun _ _ _ _ _ => ⟨a, rfl⟩) (run_bind (k := tb σ) (hb.up e1) fun y F2 e2 hy => ?_)
    have q := ls_dt.mpr (show Dt K (.list (ys.map PyData.str)) y F2 from hy)
    rw [List.map_map] at q
    obtain ⟨p, vs, rfl, sq, ev⟩ := q
    have ev := each_strs (ys := ys) ev
    subst ev
    exact run_ex a (run_ex p (run_ex ys (run_and (fun _ _ _ _ _ => rfl) (run_and (fun _ _ _ _ _ => rfl) (run_and (fun F3 N H e3 A => .inl (sqL_up (e3.trans A.ex) sq)) (run_and (fun _ _ _ _ _ => hl) (run_ret fun _ _ => .str _)))))))
/-- a text, or another where it is empty -/
def tOrS (ta tb : TE) : TE := fun σ H Q => ta σ H fun x H1 => ∃ c : PySem.Str, x = .str c ∧ c.length ≤ 100000 ∧ if c.length = 0 then tb σ H1 Q else Q (.str c) H1
theorem r_orS {a b : PySem.Str} (ha : Run (ta σ) F L (Dt K (.str a))) (hb : Run (tb σ) F L (Dt K (.str b))) (hl : a.length ≤ 100000) : Run (tOrS ta tb σ) F L (Dt K (.str (if a.length = 0 then b else a))) :=
  run_bind (k := ta σ) ha fun x F1 e1 hx => by
    cases hx
    refine run_ex a (run_and (fun _ _ _ _ _ => rfl) (run_and (fun _ _ _ _ _ => hl) ?_))
    by_cases h : a.length = 0
    · simp only [h, if_true]
      exact hb.up e1
    · simp only [h, if_false]
      exact run_ret fun _ _ => .str _
end
section
variable {X : Cx} {a b : Expr} {rest : List Expr} {ta tb : TE} {pos : Pos}
theorem pe_orS (ha : PE X a ta) (hb : PE X (.BoolOp .Or (b :: rest) pos) tb) : PE X (.BoolOp .Or (a :: b :: rest) pos) (tOrS ta tb) := by
  refine ⟨fun pins s σ H Q I h => ?_⟩
  refine BoolOp_or (thn (ha.run pins s σ H _ I h) fun v s1 ⟨x, H1, I1, r1, q1⟩ => ?_)
  obtain ⟨c, rfl, hl, q1⟩ := q1
  obtain ⟨t, rfl⟩ := r1
  refine P.truthy_str (by omega) ?_
  by_cases h : c.length = 0
  · rw [if_pos h] at q1
    rw [h]
    exact hb.run pins _ σ H1 Q (I1.tok _) q1
  · rw [if_neg h] at q1
    rw [show ((c.length : Int) != 0) = true from by simp; omega]
    exact ⟨.str c, H1, I1.tok _, ⟨_, rfl⟩, q1⟩
theorem p_join {o e : Expr} {to te : TE} {apos pos : Pos} (ho : PE X o to) (he : PE X e te) (hs : starEach [e] X.env = [(false, eval e X.env)] := by rfl) (hbase : attributeBase o "join" X.env (eval o X.env) = eval o X.env := by rfl) (hline : (apos.endLine == pos.line) = true := by rfl) :
    PE X (.Call (.Attribute o "join" apos) [e] [] pos) (tM1 (rJoin X.K) to te) := pe_join ho he hs hbase hline
end
end Rs

/-! RsV: own len, str, in. -/
namespace Rs
open PySem PySem.Spec PyProof.Rows L2 SlX StX Ma
section
variable {X : Cx} {CX : CXT} {C g : Addr} {n : Nat} {sp : Sp} {E : XK}
def rLenOwn (C : Addr) (sp : Sp) (E : XK) : List V → Hp → VK → Prop := fun xs H Q => ∃ a dx vs, xs = [V.ref a] ∧ Slt H a C dx vs ∧ sp [.ref a] H (fun z H' => ∃ i : Int, z = .int i ∧ 0 ≤ i ∧ i < 2 ^ 63 ∧ Q z H') E
theorem call_lenOwn (hs : PySem.W.findIn X.K (.ref C) "__len__" = some (some (.ref g))) (hf : PySem.W.isFn X.K (.ref g) = true) (F : FnR X.prog X.w X.K X.mg X.base CX n g sp) (hr : Room (n + 1) X.A) (hx : Passes CX X E) : CallR X (.builtin "len") (rLenOwn C sp E) := by
  intro pins s σ H xs us Q I r h
  obtain ⟨a, dx, vs, rfl, hsl, q⟩ := h
  obtain ⟨u, rfl, ru⟩ := r.one
  cases (show u = Value.ref a from ru)
  obtain ⟨sl, od, _, J, _⟩ := slt_inst I hsl
  obtain ⟨m, hF⟩ := I.fr
  have hr2 : Room n X.A.in1 := Room.in1 hr
  refine PySem.W.len_K hF I.ok.mod.kin J hs hf (wpAny_mono (wpAny_call (run_at (us := [.ref a]) (ws := [.ref a]) F hr2 I.env0.in1 hx I (.cons rfl .nil) q)) (fun w s' z => ?_) fun _ _ x => x)
  obtain ⟨z', H', I', rz, i, ei, h0, h1, qz⟩ := z
  subst ei
  obtain ⟨t, e⟩ := (show ∃ t, w = Value.int i t from rz)
  cases e
  exact ⟨⟨h0, h1⟩, .int i, H', I'.tok _, ⟨_, rfl⟩, qz⟩
def rStrOwn (C : Addr) (sp : Sp) (E : XK) : List V → Hp → VK → Prop := fun xs H Q => ∃ a dx vs, xs = [V.ref a] ∧ Slt H a C dx vs ∧ sp [.ref a] H (fun z H' => ∃ y : Str, z = .str y ∧ Q z H') E
theorem call_strOwn (hs : PySem.W.findIn X.K (.ref C) "__str__" = some (some (.ref g))) (hf : PySem.W.isFn X.K (.ref g) = true) (F : FnR X.prog X.w X.K X.mg X.base CX n g sp) (hr : Room (n + 2) X.A) (hx : Passes CX X E) : CallR X (.type "str") (rStrOwn C sp E) := by
  intro pins s σ H xs us Q I r h
  obtain ⟨a, dx, vs, rfl, hsl, q⟩ := h
  obtain ⟨u, rfl, ru⟩ := r.one
  cases (show u = Value.ref a from ru)
  obtain ⟨sl, od, _, J, _⟩ := slt_inst I hsl
  have hr2 : Room n X.A.in1.in1 := (show Room (n + 1) X.A.in1 from Room.in1 hr).in1
  refine PySem.W.kso_call hr2.units0 I.kIn J hs hf (wpAny_mono (wpAny_call (run_at (us := [.ref a]) (ws := [.ref a]) F hr2 I.env0.in1.in1 hx I (.cons rfl .nil) q)) (fun w s' z => ?_) fun _ _ x => x)
  obtain ⟨z', H', I', rz, y, ey, qz⟩ := z
  subst ey
  obtain ⟨t, e⟩ := (show ∃ t, w = Value.str y t from rz)
  cases e
  exact ⟨.str y, H', I', ⟨t, rfl⟩, qz⟩
def rInOwn (C : Addr) (sp : Sp) (E : XK) : R2 := fun x y H Q => ∃ a dx vs, y = V.ref a ∧ Slt H a C dx vs ∧ sp [.ref a, x] H (fun z H' => ∃ b : Bool, z = .bl b ∧ Q (.bl b) H') E
theorem op_inOwn (hs : PySem.W.findIn X.K (.ref C) "__contains__" = some (some (.ref g))) (hf : PySem.W.isFn X.K (.ref g) = true) (F : FnR X.prog X.w X.K X.mg X.base CX n g sp) (hr : Room n X.A) (hx : Passes CX X E) : OpR X (compareOp .In) (rInOwn C sp E) := by
  intro pins s σ H x y v u Q I rx ry h
  obtain ⟨a, dx, vs, rfl, hsl, q⟩ := h
  cases (show u = Value.ref a from ry)
  obtain ⟨sl, od, _, J, _⟩ := slt_inst I hsl
  obtain ⟨m, hF⟩ := I.fr
  refine PySem.W.in_K hF I.ok.mod.kin J hs hf (wpAny_mono (wpAny_call (run_at (us := [.ref a, v]) (ws := [.ref a, x]) F hr I.env0 hx I (.cons rfl (.cons rx .nil)) q)) (fun w s' z => ?_) fun _ _ x => x)
  obtain ⟨z', H', I', rz, b, eb, qz⟩ := z
  subst eb
  cases (show w = Value.bool b from rz)
  exact wpAny_truthy_bool ⟨.bl b, H', I', rfl, qz⟩
end
/-- the own len, str and in of the class at C -/
structure OwnS (P : Program) (w : World) (K : PySem.W.Frag) (mg : Str → Option Value) (base : Heap) (nm : Str) (k : Nat) (C : Addr) (sp : Sp) : Prop where
  ex : ∃ g, PySem.W.findIn K (.ref C) nm = some (some (.ref g)) ∧ PySem.W.isFn K (.ref g) = true ∧ FnR P w K mg base CX0 k g sp
section
variable {X : Cx} {k j : Nat} {C : Addr} {sp : Sp} {e : Expr} {es : List Expr} {t : TA} {p pos : Pos}
theorem p_lenO (B : Bf X.mg) (c : OwnS X.prog X.w X.K X.mg X.base "__len__" k C sp) (hr : Room j X.A) (hk : k + 1 ≤ j) (ha : PA X (e :: es) t) (hg : Gl X "len" := by rfl) (he : starEach (e :: es) X.env = (false, eval e X.env) :: starEach es X.env := by rfl) (hpl : (backTo pos (starEach es X.env)).any (·.1) = false := by rfl) :
    PE X (.Call (.Name "len" p) (e :: es) [] pos) (tCB (rLenOwn C sp E0) t) := by
  obtain ⟨g, h1, h2, F⟩ := c.ex
  exact pe_callB (call_lenOwn h1 h2 F (hr.mono hk) pass0) hg B.len PySem.boot_len ha (by decide) (by decide) he hpl
theorem p_strO (hm : X.mg "str" = none) (c : OwnS X.prog X.w X.K X.mg X.base "__str__" k C sp) (hr : Room j X.A) (hk : k + 2 ≤ j) (ha : PA X (e :: es) t) (hg : Gl X "str" := by rfl) (he : starEach (e :: es) X.env = (false, eval e X.env) :: starEach es X.env := by rfl) (hpl : (backTo pos (starEach es X.env)).any (·.1) = false := by rfl) :
    PE X (.Call (.Name "str" p) (e :: es) [] pos) (tCB (rStrOwn C sp E0) t) := by
  obtain ⟨g, h1, h2, F⟩ := c.ex
  exact pe_callTy (call_strOwn h1 h2 F (hr.mono hk) pass0) hg hm boot_str ha (by decide) (by decide) he hpl
theorem op_inO (c : OwnS X.prog X.w X.K X.mg X.base "__contains__" k C sp) (hr : Room j X.A) (hk : k ≤ j) : OpR X (compareOp .In) (rInOwn C sp E0) := by
  obtain ⟨g, h1, h2, F⟩ := c.ex
  exact op_inOwn h1 h2 F (hr.mono hk) pass0
end
section
variable {K : PySem.W.Frag} {σ : L2.St} {F : Hp} {L : Cells} {R : VP} {ta tb te : TE} {t : TA} {C : Addr} {E : XK} {S1 S2 : VP}
theorem r_lenOwn {γ : Type} {pre : γ → Prop} {Rs : γ → List VP} {c : γ → Nat} (g : γ) (hp : pre g) [Mono S1] (hg : Rs g = [S1]) (h1 : ∀ v F1, S1 v F1 → IsOb C v F1) (hc : c g ≤ 1000)
    (ha : Run (t σ) F L (Each [S1])) : Run (tCB (rLenOwn C (SpF pre Rs fun g => Dt K (nI (c g))) E) t σ) F L (Dt K (nI (c g))) :=
  r_cb ha fun vs F1 e hv => fun F2 N H e2 A Q q => by
    obtain ⟨x, rfl, hx⟩ := each1 hv
    obtain ⟨a, dx, us, rfl, q1, q2⟩ := h1 _ _ hx
    refine ⟨a, dx, us, rfl, at_slt A (e2 _ _ q1) (e2 _ _ q2), g, F2, L ++ N, hp, A, ?_, fun v F3 H3 e3 A3 r => ?_⟩
    · rw [hg]
      exact ⟨Mono.go hx e2, True.intro⟩
    · cases r
      exact ⟨(c g : Int), rfl, by omega, by omega, q _ F3 H3 e3 A3 (.int _)⟩
theorem r_strOwn {γ : Type} {pre : γ → Prop} {Rs : γ → List VP} {c : γ → Str} (g : γ) (hp : pre g) [Mono S1] (hg : Rs g = [S1]) (h1 : ∀ v F1, S1 v F1 → IsOb C v F1)
    (ha : Run (t σ) F L (Each [S1])) : Run (tCB (rStrOwn C (SpF pre Rs fun g => Dt K (.str (c g))) E) t σ) F L (Dt K (.str (c g))) :=
  r_cb ha fun vs F1 e hv => fun F2 N H e2 A Q q => by
    obtain ⟨x, rfl, hx⟩ := each1 hv
    obtain ⟨a, dx, us, rfl, q1, q2⟩ := h1 _ _ hx
    refine ⟨a, dx, us, rfl, at_slt A (e2 _ _ q1) (e2 _ _ q2), g, F2, L ++ N, hp, A, ?_, fun v F3 H3 e3 A3 r => ?_⟩
    · rw [hg]
      exact ⟨Mono.go hx e2, True.intro⟩
    · cases r
      exact ⟨c g, rfl, q _ F3 H3 e3 A3 (.str _)⟩
theorem r_inOwn {γ : Type} {pre : γ → Prop} {Rs : γ → List VP} {c : γ → Bool} (g : γ) (hp : pre g) [Mono S1] [Mono S2] (hg : Rs g = [S1, S2]) (h1 : ∀ v F1, S1 v F1 → IsOb C v F1)
    (hb : Run (ta σ) F L S2) (ha : Run (tb σ) F L S1) : Run (tOp (rInOwn C (SpF pre Rs fun g => Dt K (.bool (c g))) E) ta tb σ) F L (Dt K (.bool (c g))) :=
  r_op hb ha fun x y F1 e hx hy => fun F2 N H e2 A Q q => by
    obtain ⟨a, dx, us, rfl, q1, q2⟩ := h1 _ _ hy
    refine ⟨a, dx, us, rfl, at_slt A (e2 _ _ q1) (e2 _ _ q2), g, F2, L ++ N, hp, A, ?_, fun v F3 H3 e3 A3 r => ⟨c g, dt_bl r, q _ F3 H3 e3 A3 (.bl _)⟩⟩
    rw [hg]
    exact ⟨Mono.go hy e2, Mono.go hx e2, True.intro⟩
end
/-! f'..' -/
section
variable {K : PySem.W.Frag} {σ : L2.St} {F : Hp} {L : Cells} {te : TE}
theorem r_fmtI {n : Nat} (h : Run (te σ) F L (Dt K (nI n))) (hn : n ≤ 1000) : Run (tFmt te σ) F L (Dt K (.str (toString (n : Int)))) :=
  run_bind (k := te σ) h fun x F1 e hx => fun F2 N H e2 A Q q => by
    cases hx
    exact .inr ⟨n, rfl, log_small hn, q _ F2 H (Same.refl _) A (.str _)⟩
theorem r_fmtS {y : Str} (h : Run (te σ) F L (Dt K (.str y))) (hn : y.length ≤ 100000) : Run (tFmt te σ) F L (Dt K (.str y)) :=
  run_bind (k := te σ) h fun x F1 e hx => fun F2 N H e2 A Q q => by
    cases hx
    exact .inl ⟨y, rfl, len_ok hn, q _ F2 H (Same.refl _) A (.str _)⟩
/-- the parts, one behind the other -/
theorem r_js_nil {acc : Str} : Run (fun H Q => tJs [] acc σ H Q) F L (Eqv acc) := run_ret fun _ _ => rfl
theorem r_js_cons {acc y out : Str} {ts : List TE} (h : Run (te σ) F L (Dt K (.str y))) (hl : (acc ++ y).length ≤ 100000) (r : Run (fun H Q => tJs ts (acc ++ y) σ H Q) F L (Eqv out)) : Run (fun H Q => tJs (te :: ts) acc σ H Q) F L (Eqv out) :=
  run_bind (k := te σ) h fun x F1 e hx => by
    cases hx
    exact run_ex y (run_and (fun _ _ _ _ _ => rfl) (run_and (fun _ _ _ _ _ => len_ok hl) (r.up e)))
theorem r_js {ts : List TE} {out : Str} (h : Run (fun H Q => tJs ts Str.empty σ H Q) F L (Eqv out)) : Run ((fun σ H (Q : VK) => tJs ts Str.empty σ H fun out H1 => Q (.str out) H1) σ) F L (Dt K (.str out)) :=
  run_bind (k := fun H Q => tJs ts Str.empty σ H Q) h fun x F1 e hx => by
    cases hx
    exact run_ret fun _ _ => .str _
end
/-! words within comprehension blocks: the world told too -/
section
variable {X : Cx} {e : Expr} {es : List Expr} {t : TA} {p pos : Pos}
theorem p_setW (K : PySem.W.Frag) (w : World) (hc : X.calm = true) (B : Bf X.mg) (ha : PA X (e :: es) t) (hg : Gl X "set" := by rfl) (he : starEach (e :: es) X.env = (false, eval e X.env) :: starEach es X.env := by rfl) (hpl : (backTo pos (starEach es X.env)).any (·.1) = false := by rfl) (hK : X.K = K := by rfl) (hw : X.w = w := by rfl) :
    PE X (.Call (.Name "set" p) (e :: es) [] pos) (tCB (rSetI K w) t) := by
  subst hK; subst hw; exact p_set hc B ha hg he hpl
theorem p_sortedSetW (w : World) (hc : X.calm = true) (B : Bf X.mg) (ha : PA X (e :: es) t) (hg : Gl X "sorted" := by rfl) (he : starEach (e :: es) X.env = (false, eval e X.env) :: starEach es X.env := by rfl) (hpl : (backTo pos (starEach es X.env)).any (·.1) = false := by rfl) (hw : X.w = w := by rfl) :
    PE X (.Call (.Name "sorted" p) (e :: es) [] pos) (tCB (rSortedSet w) t) := by
  subst hw; exact p_sortedSet hc B ha hg he hpl
end
end Rs

/-! Tw0: from readings to what they ask in plain terms: no heap, no places. -/
namespace Tw
open PySem PySem.Spec PyProof.Rows L2 SlX StX Rs Ma
/-- what is wanted of a result, of an exception -/
abbrev Wm (ε α : Type) := (α → Prop) → (ε → Prop) → Prop
@[reducible] def pur {ε α : Type} (a : α) : Wm ε α := fun Q _ => Q a
/-- how exceptions are told -/
structure Wsh (ε : Type) where
  wi : WX
  xr : ε → Value → Option Addr → Hp → Prop
  t : L2.St → Hp → Cells → Prop
  tl : ∀ σ F L M, t σ F L → t σ F (L ++ M)
section
variable {ε α β γ : Type} {Z : Wsh ε} {F F' F1 : Hp} {N M L : Cells} {X X' : ε → Prop}
def WishOk (Z : Wsh ε) (F : Hp) (N : Cells) (X : ε → Prop) : Prop := ∀ e cls d σ F1 L1 H1, Same F F1 → At F1 (L1 ++ N) H1 → Z.t σ F1 L1 → X e → Z.xr e cls d F1 → Z.wi cls d σ H1
theorem WishOk.up (h : WishOk Z F N X) (e : Same F F') : WishOk Z F' N X := fun x cls d σ F1 L1 H1 e1 => h x cls d σ F1 L1 H1 (e.trans e1)
theorem WishOk.push (h : WishOk Z F N X) : WishOk Z F (M ++ N) X := fun x cls d σ F1 L1 H1 e1 A t q r =>
  h x cls d σ F1 (L1 ++ M) H1 e1 (by rw [List.append_assoc]; exact A) (Z.tl _ _ _ _ t) q r
theorem WishOk.push1 {c : Addr × HO} (h : WishOk Z F N X) : WishOk Z F (c :: N) X := h.push (M := [c])
theorem WishOk.imp (h : WishOk Z F N X) (i : ∀ e, X' e → X e) : WishOk Z F N X' := fun x cls d σ F1 L1 H1 e1 A t q r => h x cls d σ F1 L1 H1 e1 A t (i _ q) r
/-- as Run, with the wish of exceptions -/
def RunW (Z : Wsh ε) (k : Hp → (α → Hp → Prop) → Prop) (F : Hp) (L : Cells) (R : α → Hp → Prop) (X : ε → Prop) : Prop :=
  ∀ F1 N H, Same F F1 → At F1 (L ++ N) H → WishOk Z F1 N X → ∀ Q : α → Hp → Prop, (∀ v F2 H2, Same F1 F2 → At F2 (L ++ N) H2 → R v F2 → Q v H2) → k H Q
variable {k : Hp → (α → Hp → Prop) → Prop} {R R' : α → Hp → Prop}
theorem RunW.of (h : Run k F L R) : RunW Z k F L R X := fun F1 N H e A _ Q q => h F1 N H e A Q q
theorem RunW.up (h : RunW Z k F L R X) (e : Same F F1) : RunW Z k F1 L R X := fun F2 N H e2 A w Q q => h F2 N H (e.trans e2) A w Q q
theorem RunW.weak (h : RunW Z k F L R X) (hr : ∀ v F2, Same F F2 → R v F2 → R' v F2) : RunW Z k F L R' X := fun F2 N H e2 A w Q q =>
  h F2 N H e2 A w Q fun v F3 H3 e3 A3 r => q v F3 H3 e3 A3 (hr v F3 (e2.trans e3) r)
theorem rw_bind {k2 : α → Hp → (β → Hp → Prop) → Prop} {S : β → Hp → Prop} (h1 : RunW Z k F L R X) (h2 : ∀ v F1, Same F F1 → R v F1 → RunW Z (k2 v) F1 L S X) : RunW Z (fun H Q => k H fun v H1 => k2 v H1 Q) F L S X := fun F1 N H e A w Q q =>
  h1 F1 N H e A w _ fun v F2 H2 e2 A2 r => h2 v F2 (e.trans e2) r F2 N H2 (Same.refl _) A2 (w.up e2) Q fun u F3 H3 e3 A3 s => q u F3 H3 (e2.trans e3) A3 s
theorem rw_ret {v : α} (h : ∀ F1, Same F F1 → R v F1) : RunW Z (fun H Q => Q v H) F L R X := RunW.of (run_ret h)
end

/-! ### what the slots hold -/
def SatV : List (Option VP) → L2.St → Hp → Prop
  | [], [], _ => True
  | none :: ρ, _ :: σ, F => SatV ρ σ F
  | some R :: ρ, o :: σ, F => (∃ v, o = some v ∧ R v F ∧ Mono R) ∧ SatV ρ σ F
  | _, _, _ => False
def lk : List (Option VP) → Nat → Option VP
  | [], _ => none
  | o :: _, 0 => o
  | _ :: ρ, i + 1 => lk ρ i
def st : List (Option VP) → Nat → Option VP → List (Option VP)
  | [], _, _ => []
  | _ :: ρ, 0, o => o :: ρ
  | p :: ρ, i + 1, o => p :: st ρ i o
def wipeE (ρ : List (Option VP)) : List Nat → List (Option VP)
  | [] => ρ
  | v :: vs => st (wipeE ρ vs) v none
section
variable {ρ ρ' : List (Option VP)} {σ σ' : L2.St} {F F' : Hp} {i j : Nat} {R : VP} {v : V}
theorem satV_up (e : Same F F') : ∀ {ρ σ}, SatV ρ σ F → SatV ρ σ F'
  | [], [], _ => True.intro
  | none :: ρ, _ :: σ, h => satV_up (ρ := ρ) (σ := σ) e h
  | some R :: ρ, o :: σ, ⟨⟨v, h1, h2, h3⟩, h⟩ => ⟨⟨v, h1, h3.mono _ _ _ e h2, h3⟩, satV_up (ρ := ρ) (σ := σ) e h⟩
  | [], _ :: _, h => h.elim
  | none :: _, [], h => h.elim
  | some _ :: _, [], h => h.elim
theorem satV_get : ∀ {ρ σ i}, SatV ρ σ F → lk ρ i = some R → ∃ v, σ[i]? = some (some v) ∧ R v F ∧ Mono R
  | none :: ρ, _ :: σ, 0, h, e => nomatch e
  | none :: ρ, _ :: σ, i + 1, h, e => satV_get (ρ := ρ) (σ := σ) (i := i) h e
  | some S :: ρ, o :: σ, 0, ⟨⟨v, h1, h2, h3⟩, h⟩, e => by
    cases e
    exact ⟨v, by rw [h1]; rfl, h2, h3⟩
  | some S :: ρ, o :: σ, i + 1, ⟨_, h⟩, e => satV_get (ρ := ρ) (σ := σ) (i := i) h e
  | [], _, _, _, e => nomatch e
  | none :: _, [], _, h, _ => h.elim
  | some _ :: _, [], _, h, _ => h.elim
theorem satV_none : ∀ {ρ σ i} {o : Option V}, SatV ρ σ F → SatV (st ρ i none) (σ.set i o) F
  | [], [], _, _, h => h
  | none :: ρ, _ :: σ, 0, _, h => h
  | none :: ρ, _ :: σ, i + 1, o, h => satV_none (ρ := ρ) (σ := σ) (i := i) (o := o) h
  | some S :: ρ, _ :: σ, 0, _, h => h.2
  | some S :: ρ, _ :: σ, i + 1, o, h => ⟨h.1, satV_none (ρ := ρ) (σ := σ) (i := i) (o := o) h.2⟩
  | [], _ :: _, _, _, h => h.elim
  | none :: _, [], _, _, h => h.elim
  | some _ :: _, [], _, _, h => h.elim
theorem satV_set (hr : R v F) (m : Mono R) : ∀ {ρ σ i}, SatV ρ σ F → SatV (st ρ i (some R)) (σ.set i (some v)) F
  | [], [], _, h => h
  | none :: ρ, _ :: σ, 0, h => ⟨⟨v, rfl, hr, m⟩, h⟩
  | none :: ρ, _ :: σ, i + 1, h => satV_set hr m (ρ := ρ) (σ := σ) (i := i) h
  | some S :: ρ, _ :: σ, 0, h => ⟨⟨v, rfl, hr, m⟩, h.2⟩
  | some S :: ρ, _ :: σ, i + 1, h => ⟨h.1, satV_set hr m (ρ := ρ) (σ := σ) (i := i) h.2⟩
  | [], _ :: _, _, h => h.elim
  | none :: _, [], _, h => h.elim
  | some _ :: _, [], _, h => h.elim
theorem satV_wipe (h : SatV ρ σ F) : ∀ vs, SatV (wipeE ρ vs) (wipe σ vs) F
  | [] => h
  | v :: vs => satV_none (satV_wipe h vs)
/-- some is forgotten -/
def leV : List (Option VP) → List (Option VP) → Prop
  | [], [] => True
  | _ :: ρ, none :: ρ' => leV ρ ρ'
  | some R :: ρ, some R' :: ρ' => R = R' ∧ leV ρ ρ'
  | _, _ => False
theorem satV_le : ∀ {ρ ρ' σ}, leV ρ ρ' → SatV ρ σ F → SatV ρ' σ F
  | [], [], _, _, h => h
  | none :: ρ, none :: ρ', _ :: σ, l, h => satV_le (ρ := ρ) (ρ' := ρ') (σ := σ) l h
  | some R :: ρ, none :: ρ', _ :: σ, l, h => satV_le (ρ := ρ) (ρ' := ρ') (σ := σ) l h.2
  | some R :: ρ, some R' :: ρ', o :: σ, l, h => by
    obtain ⟨l1, l2⟩ := l
    subst l1
    exact ⟨h.1, satV_le (ρ := ρ) (ρ' := ρ') (σ := σ) l2 h.2⟩
  | none :: _, some _ :: _, _, l, _ => l.elim
  | [], _ :: _, _, l, _ => l.elim
  | none :: _, [], _, l, _ => l.elim
  | some _ :: _, [], _, l, _ => l.elim
  | none :: _, none :: _, [], _, h => h.elim
  | some _ :: _, none :: _, [], _, h => h.elim
  | some _ :: _, some _ :: _, [], _, h => h.elim
end

/-! ### cells of one's own -/
abbrev Ow := Nat × (HO → Hp → Prop)
def SatC : List Ow → L2.St → Hp → Cells → Prop
  | [], _, _, _ => True
  | c :: κ, σ, F, L => ∃ a o L', L = (a, o) :: L' ∧ σ[c.1]? = some (some (.ref a)) ∧ (∀ F', Same F F' → c.2 o F') ∧ SatC κ σ F L'
/-- a list of one's own -/
def ownL (Rs : List VP) : HO → Hp → Prop := fun o F => ∃ vs, o = .lst vs ∧ Each Rs vs F
def freeC (i : Nat) : List Ow → Bool
  | [] => true
  | c :: κ => !(Nat.beq c.1 i) && freeC i κ
def freeCs (vs : List Nat) (κ : List Ow) : Bool := vs.all fun v => freeC v κ
section
variable {κ κ' : List Ow} {σ σ' : L2.St} {F F' : Hp} {L M : Cells} {i j : Nat} {v : V} {o : Option V}
theorem satC_up (e : Same F F') : ∀ {κ L}, SatC κ σ F L → SatC κ σ F' L
  | [], _, _ => True.intro
  | c :: κ, _, ⟨a, o, L', h1, h2, h3, h4⟩ => ⟨a, o, L', h1, h2, fun F2 e2 => h3 F2 (e.trans e2), satC_up e h4⟩
theorem satC_tail : ∀ {κ L}, SatC κ σ F L → SatC κ σ F (L ++ M)
  | [], _, _ => True.intro
  | c :: κ, _, ⟨a, o, L', h1, h2, h3, h4⟩ => ⟨a, o, L' ++ M, by rw [h1]; rfl, h2, h3, satC_tail h4⟩
theorem satC_set : ∀ {κ L}, freeC i κ = true → SatC κ σ F L → SatC κ (σ.set i o) F L
  | [], _, _, _ => True.intro
  | c :: κ, _, f, ⟨a, o, L', h1, h2, h3, h4⟩ => by
    rw [freeC, Bool.and_eq_true] at f
    obtain ⟨f1, f2⟩ := f
    refine ⟨a, o, L', h1, ?_, h3, satC_set f2 h4⟩
    rw [List.getElem?_set_ne, h2]
    intro z
    rw [z, Nat.beq_refl] at f1
    cases f1
theorem satC_wipe (h : SatC κ σ F L) : ∀ {vs}, freeCs vs κ = true → SatC κ (wipe σ vs) F L
  | [], _ => h
  | v :: vs, f => by
    rw [freeCs, List.all_cons, Bool.and_eq_true] at f
    exact satC_set f.1 (satC_wipe h f.2)
/-- the same slots hold the same -/
theorem satC_agree {js : List Nat} (ag : ∀ i, i ∉ js → σ'[i]? = σ[i]?) : ∀ {κ L}, freeCs js κ = true → SatC κ σ F L → SatC κ σ' F L
  | [], _, _, _ => True.intro
  | c :: κ, _, f, ⟨a, o, L', h1, h2, h3, h4⟩ => by
    refine ⟨a, o, L', h1, ?_, h3, satC_agree ag ?_ h4⟩
    · rw [ag, h2]
      intro z
      have := List.all_eq_true.mp f _ z
      rw [freeC, Bool.and_eq_true, Nat.beq_refl] at this
      exact absurd this.1 (by decide)
    · refine List.all_eq_true.mpr fun x hx => ?_
      have := List.all_eq_true.mp f x hx
      rw [freeC, Bool.and_eq_true] at this
      exact this.2
end

/-! ### the judgements -/
section
variable {ε α β γ δ S : Type}
structure TrE (Z : Wsh ε) (ρ : List (Option VP)) (κ : List Ow) (te : TE) (m : Wm ε α) (R : α → VP) : Prop where
  mono : ∀ a, Mono (R a)
  run : ∀ σ F L, SatV ρ σ F → SatC κ σ F L → ∀ Q X, m Q X → RunW Z (te σ) F L (fun v F1 => ∃ a, Q a ∧ R a v F1) X
structure TrT (Z : Wsh ε) (ρ : List (Option VP)) (κ : List Ow) (tt : TT) (m : Wm ε Bool) : Prop where
  run : ∀ σ F L, SatV ρ σ F → SatC κ σ F L → ∀ Q X, m Q X → RunW Z (tt σ) F L (fun b _ => Q b) X
structure TrA (Z : Wsh ε) (ρ : List (Option VP)) (κ : List Ow) (ta : TA) (m : Wm ε γ) (Rs : γ → List VP) : Prop where
  mono : ∀ g, MonoL (Rs g)
  run : ∀ σ F L, SatV ρ σ F → SatC κ σ F L → ∀ Q X, m Q X → RunW Z (ta σ) F L (fun vs F1 => ∃ g, Q g ∧ Each (Rs g) vs F1) X
structure TrI (Z : Wsh ε) (ρ : List (Option VP)) (κ : List Ow) (wi : TI) (m : Wm ε (List β)) (Rx : β → VP) : Prop where
  mono : ∀ a, Mono (Rx a)
  run : ∀ σ F L, SatV ρ σ F → SatC κ σ F L → ∀ Q X, m Q X → RunW Z (wi σ) F L (fun J F1 => ∃ xs, Q xs ∧ Seqs J (xs.map Rx) F1) X
/-- what a block ends with: on, or a value handed back -/
abbrev Ws (ε S α : Type) := (S → Prop) → (α → Prop) → (ε → Prop) → Prop
def RunSW (Z : Wsh ε) (t : TS) (σ : L2.St) (F : Hp) (L : Cells) (Nx : L2.St → Hp → Cells → Prop) (Rt : VP) (X : ε → Prop) : Prop :=
  ∀ F1 N H, Same F F1 → At F1 (L ++ N) H → WishOk Z F1 N X → ∀ D : Ends, (∀ σ' F' L' H', Same F1 F' → At F' (L' ++ N) H' → Nx σ' F' L' → D.nx σ' H') → (∀ v F' H', Same F1 F' → At F' N H' → Rt v F' → D.rt v H') → t D σ H
structure TrS (Z : Wsh ε) (ρ : List (Option VP)) (κ : List Ow) (t : TS) (m : Ws ε S α) (ρ2 : S → List (Option VP)) (κ2 : S → List Ow) (R : α → VP) : Prop where
  run : ∀ σ F L, SatV ρ σ F → SatC κ σ F L → ∀ Nx Rt X, m Nx Rt X → RunSW Z t σ F L (fun σ' F' L' => ∃ s, Nx s ∧ SatV (ρ2 s) σ' F' ∧ SatC (κ2 s) σ' F' L') (fun v F' => ∃ a, Rt a ∧ R a v F') X
end
end Tw

/-! Tw1: expressions. -/
namespace Tw
open PySem PySem.Spec PyProof.Rows L2 SlX StX Rs Ma
/-! ### families of values -/
def dInt : Int → PyData := fun i => .int i
def dN : Nat → PyData := fun n => .int (n : Nat)
def dB : Bool → PyData := fun b => .bool b
def dS : Str → PyData := fun x => .str x
def dU : Unit → PyData := fun _ => .none
def dT {α : Type} (d : α → PyData) : List α → PyData := fun xs => .tuple (xs.map d)
def dL {α : Type} (d : α → PyData) : List α → PyData := fun xs => .list (xs.map d)
def dP {α β : Type} (d : α → PyData) (e : β → PyData) : α × β → PyData := fun p => .tuple [d p.1, e p.2]
def dP3 {α β γ : Type} (d : α → PyData) (e : β → PyData) (f : γ → PyData) : α × β × γ → PyData := fun p => .tuple [d p.1, e p.2.1, f p.2.2]
def dA : PyData → PyData := fun d => d
def fD (K : PySem.W.Frag) {α : Type} (d : α → PyData) : α → VP := fun a => Dt K (d a)
def fTp (K : PySem.W.Frag) {α : Type} (R : α → VP) : List α → VP := fun xs => Tp K (xs.map R)
def fLn {α : Type} (R : α → VP) : List α → VP := fun xs => Ln (xs.map R)
def fP (K : PySem.W.Frag) {α β : Type} (R : α → VP) (S : β → VP) : α × β → VP := fun p => Tp K [R p.1, S p.2]
instance {K : PySem.W.Frag} {α : Type} {d : α → PyData} {a : α} : Mono (fD K d a) := inferInstanceAs (Mono (Dt K (d a)))
instance {K : PySem.W.Frag} {α : Type} {R : α → VP} [∀ a, Mono (R a)] {xs : List α} : Mono (fTp K R xs) := inferInstanceAs (Mono (Tp K (xs.map R)))
instance {α : Type} {R : α → VP} [∀ a, Mono (R a)] {xs : List α} : Mono (fLn R xs) := inferInstanceAs (Mono (Ln (xs.map R)))
instance {K : PySem.W.Frag} {α β : Type} {R : α → VP} {S : β → VP} [∀ a, Mono (R a)] [∀ a, Mono (S a)] {p : α × β} : Mono (fP K R S p) := inferInstanceAs (Mono (Tp K [R p.1, S p.2]))
/-- data of which == tells whether it is the same -/
class Nice {α : Type} [DecidableEq α] (d : α → PyData) (n : outParam Nat) : Prop where
  lay : ∀ a, (d a).canLay0 = true
  dep : ∀ a, (d a).depth ≤ n
  eq : ∀ a b, PyData.eqv (d a) (d b) = decide (a = b)
instance : Nice dInt 0 := ⟨fun _ => rfl, fun _ => Nat.zero_le _, fun a b => by
  show (a == b) = _
  by_cases h : a = b
  · subst h; simp
  · simp [h]⟩
instance : Nice dN 0 := ⟨fun _ => rfl, fun _ => Nat.zero_le _, fun a b => by
  show (((a : Nat) : Int) == ((b : Nat) : Int)) = _
  by_cases h : a = b
  · subst h; simp
  · have h' : ¬ ((a : Nat) : Int) = ((b : Nat) : Int) := by omega
    simp [h, h']⟩
instance : Nice dB 0 := ⟨fun _ => rfl, fun _ => Nat.zero_le _, fun a b => by
  show (a == b) = _
  by_cases h : a = b
  · subst h; simp
  · simp [h]⟩
instance {α : Type} [DecidableEq α] {d : α → PyData} {n : Nat} [h : Nice d n] : Nice (dT d) (n + 1) := ⟨fun a => by rw [dT, PyData.canLay0]; exact lay_all h.lay, fun a => by
  rw [dT, PyData.depth]
  have := dep_all h.dep (xs := a)
  omega, fun a b => by rw [dT, dT, PyData.eqv]; exact eqvAll_of h.eq⟩
instance {α : Type} [DecidableEq α] {d : α → PyData} {n : Nat} [h : Nice d n] : Nice (dL d) (n + 1) := ⟨fun a => by rw [dL, PyData.canLay0]; exact lay_all h.lay, fun a => by
  rw [dL, PyData.depth]
  have := dep_all h.dep (xs := a)
  omega, fun a b => by rw [dL, dL, PyData.eqv]; exact eqvAll_of h.eq⟩
instance {α β : Type} [DecidableEq α] [DecidableEq β] {d : α → PyData} {e : β → PyData} {n m : Nat} [h : Nice d n] [g : Nice e m] : Nice (dP d e) (n + m + 1) := ⟨fun a => by
  simp only [dP, PyData.canLay0, PyData.canLayAll0, h.lay, g.lay, Bool.and_self], fun a => by
  have h1 := h.dep a.1
  have h2 := g.dep a.2
  simp only [dP, PyData.depth, PyData.depthAll]
  omega, fun a b => by
  simp only [dP, PyData.eqv, PyData.eqvAll, h.eq, g.eq, Bool.and_true]
  obtain ⟨a1, a2⟩ := a
  obtain ⟨b1, b2⟩ := b
  by_cases h1 : a1 = b1 <;> by_cases h2 : a2 = b2 <;> simp [h1, h2]⟩
theorem nice_shaped {α : Type} [DecidableEq α] {d : α → PyData} {n : Nat} [h : Nice d n] (hn : n ≤ 64) (a : α) : SeqAt.shaped (d a) = true := shaped_of (h.lay a) (Nat.le_trans (h.dep a) hn)
theorem nice_any {α : Type} [DecidableEq α] {d : α → PyData} {n : Nat} [h : Nice d n] {a : α} : ∀ {xs : List α}, ((xs.map d).any fun z => PyData.eqv z (d a)) = decide (a ∈ xs)
  | [] => rfl
  | x :: xs => by
    rw [List.map_cons, List.any_cons, h.eq, nice_any (xs := xs)]
    by_cases h1 : x = a
    · subst h1; simp
    · have h2 : ¬ a = x := fun z => h1 z.symm
      simp [h1, h2]

section
variable {ε α β γ δ : Type} {Z : Wsh ε} {ρ : List (Option VP)} {κ : List Ow} {K : PySem.W.Frag} {w : World} {te ta tb tc : TE} {tt tu : TT} {t : TA} {ma : Wm ε α} {mb : Wm ε β} {m : Wm ε α} {Ra R : α → VP} {Rb : β → VP} {Rc : γ → VP} {r r' : R2} {i j : Nat}
theorem TrE.of [∀ a, Mono (R a)] (h : ∀ σ F L, SatV ρ σ F → SatC κ σ F L → ∀ Q X, m Q X → Run (te σ) F L (fun v F1 => ∃ a, Q a ∧ R a v F1)) : TrE Z ρ κ te m R := ⟨inferInstance, fun σ F L s c Q X q => .of (h σ F L s c Q X q)⟩
theorem tr_c {v : V} {a : α} [∀ a, Mono (R a)] (h : ∀ F, R a v F) : TrE Z ρ κ (tC v) (pur a) R := .of fun σ F L s c Q X q => run_ret fun F1 e => ⟨a, q, h F1⟩
theorem tr_int {j : Int} : TrE Z ρ κ (tC (.int j)) (pur j) (fD K dInt) := tr_c (R := fD K dInt) fun F => .int j
theorem tr_nat (n : Nat) : TrE Z ρ κ (tC (.int (n : Nat))) (pur n) (fD K dN) := tr_c (R := fD K dN) fun F => .int _
theorem tr_bl {b : Bool} : TrE Z ρ κ (tC (.bl b)) (pur b) (fD K dB) := tr_c (R := fD K dB) fun F => .bl b
theorem tr_str {x : Str} : TrE Z ρ κ (tC (.str x)) (pur x) (fD K dS) := tr_c (R := fD K dS) fun F => .str x
theorem tr_non : TrE Z ρ κ (tC .non) (pur ()) (fD K dU) := tr_c (R := fD K dU) fun F => .non
theorem tr_var {a : α} [∀ a, Mono (R a)] (h : lk ρ i = some (R a)) : TrE Z ρ κ (tVar i) (pur a) R := .of fun σ F L s c Q X q => by
  obtain ⟨v, e, hr, m⟩ := satV_get s h
  exact (r_var e hr).weak fun _ _ _ hv => ⟨a, q, hv⟩
theorem TrE.conv {β : Type} {R' : β → VP} [∀ a, Mono (R' a)] (f : α → β) (h : TrE Z ρ κ te m R) (hr : ∀ a v F, R a v F → R' (f a) v F) : TrE Z ρ κ te (fun Q X => m (fun a => Q (f a)) X) R' :=
  ⟨inferInstance, fun σ F L s c Q X q => (h.run σ F L s c _ X q).weak fun v F2 e ⟨a, q1, r1⟩ => ⟨f a, q1, hr a v F2 r1⟩⟩
theorem tr_ni {m : Wm ε Nat} (h : TrE Z ρ κ te m (fD K dN)) : TrE Z ρ κ te (fun Q X => m (fun n => Q (n : Int)) X) (fD K dInt) := h.conv _ fun _ _ _ x => x
theorem tr_any {d : α → PyData} (h : TrE Z ρ κ te m (fD K d)) : TrE Z ρ κ te (fun Q X => m (fun a => Q (d a)) X) (fD K dA) := h.conv d fun _ _ _ x => x
theorem each_rD {d : α → PyData} {xs : List α} {vs : List V} {F : Hp} : Each (xs.map (fD K d)) vs F ↔ Each ((xs.map d).map (Dt K)) vs F := by
  rw [List.map_map]; rfl
theorem fTp_dT {d : α → PyData} {xs : List α} {v : V} {F : Hp} : fTp K (fD K d) xs v F ↔ fD K (dT d) xs v F := by
  show Tp K (xs.map (fD K d)) v F ↔ Dt K (.tuple (xs.map d)) v F
  rw [← tp_dt, List.map_map]
  exact Iff.rfl
theorem rLn_dL {d : α → PyData} {xs : List α} {v : V} {F : Hp} (h : fLn (fD K d) xs v F) : fD K (dL d) xs v F :=
  ls_dt.mp (by rw [List.map_map]; exact Ln.ls h)
theorem rP_dP {d : α → PyData} {e : β → PyData} {p : α × β} {v : V} {F : Hp} : fP K (fD K d) (fD K e) p v F ↔ fD K (dP d e) p v F := by
  show Tp K ([d p.1, e p.2].map (Dt K)) v F ↔ _
  exact tp_dt
theorem TrE.same {R' : α → VP} [∀ a, Mono (R' a)] (h : TrE Z ρ κ te m R) (hr : ∀ a v F, R a v F → R' a v F) : TrE Z ρ κ te m R' :=
  ⟨inferInstance, fun σ F L s c Q X q => (h.run σ F L s c _ X q).weak fun v F2 e ⟨a, q1, r1⟩ => ⟨a, q1, hr a v F2 r1⟩⟩
theorem tr_tpD {d : α → PyData} {m : Wm ε (List α)} (h : TrE Z ρ κ te m (fTp K (fD K d))) : TrE Z ρ κ te m (fD K (dT d)) := h.same fun _ _ _ => fTp_dT.mp
theorem tr_dTp {d : α → PyData} {m : Wm ε (List α)} (h : TrE Z ρ κ te m (fD K (dT d))) : TrE Z ρ κ te m (fTp K (fD K d)) := h.same fun _ _ _ => fTp_dT.mpr
theorem tr_lnD {d : α → PyData} {m : Wm ε (List α)} (h : TrE Z ρ κ te m (fLn (fD K d))) : TrE Z ρ κ te m (fD K (dL d)) := h.same fun _ _ _ => rLn_dL
theorem tr_pD {d : α → PyData} {e : β → PyData} {m : Wm ε (α × β)} (h : TrE Z ρ κ te m (fP K (fD K d) (fD K e))) : TrE Z ρ κ te m (fD K (dP d e)) := h.same fun _ _ _ => rP_dP.mp
theorem tr_dPr {d : α → PyData} {e : β → PyData} {m : Wm ε (α × β)} (h : TrE Z ρ κ te m (fD K (dP d e))) : TrE Z ρ κ te m (fP K (fD K d) (fD K e)) := h.same fun _ _ _ => rP_dP.mpr
/-- what is asked, put otherwise -/
theorem TrE.ask {m' : Wm ε α} (h : TrE Z ρ κ te m R) (e : ∀ Q X, m' Q X → m Q X) : TrE Z ρ κ te m' R := ⟨h.mono, fun σ F L s c Q X q => h.run σ F L s c Q X (e Q X q)⟩

/-! ### operations of two -/
structure Op2 (ε : Type) (r : R2) (Ra : α → VP) (Rb : β → VP) (mf : α → β → Wm ε γ) (Rc : γ → VP) : Prop where
  run : ∀ a b x y F L, Ra a x F → Rb b y F → ∀ Q X, mf a b Q X → Run (fun H q => r x y H q) F L (fun v F1 => ∃ c, Q c ∧ Rc c v F1)
theorem tr_op [∀ c, Mono (Rc c)] {mf : α → β → Wm ε γ} (o : Op2 ε r Ra Rb mf Rc) (ha : TrE Z ρ κ ta ma Ra) (hb : TrE Z ρ κ tb mb Rb) : TrE Z ρ κ (tOp r ta tb) (fun Q X => ma (fun a => mb (fun b => mf a b Q X) X) X) Rc :=
  ⟨inferInstance, fun σ F L s c Q X q => rw_bind (k := ta σ) (ha.run σ F L s c _ X q) fun x F1 e1 ⟨a, q1, hx⟩ => rw_bind (k := tb σ) (hb.run σ F1 L (satV_up e1 s) (satC_up e1 c) _ X q1) fun y F2 e2 ⟨b, q2, hy⟩ =>
    .of (o.run a b x y F2 L ((ha.mono a).mono _ _ _ e2 hx) hy Q X q2)⟩
/-- from a run of constants -/
theorem op_of {mf : α → β → Wm ε γ} (h : ∀ a b x y F L, Ra a x F → Rb b y F → ∀ Q X, mf a b Q X → ∃ c, Q c ∧ Run (tOp r (tC x) (tC y) []) F L (Rc c)) : Op2 ε r Ra Rb mf Rc :=
  ⟨fun a b x y F L hx hy Q X q => by
    obtain ⟨c, q1, h1⟩ := h a b x y F L hx hy Q X q
    exact Run.weak (k := fun H q => r x y H q) h1 fun v F1 e hv => ⟨c, q1, hv⟩⟩
theorem op_pur {f : α → β → γ} (h : ∀ a b x y F L, Ra a x F → Rb b y F → Run (tOp r (tC x) (tC y) []) F L (Rc (f a b))) : Op2 ε r Ra Rb (fun a b => pur (f a b)) Rc :=
  op_of fun a b x y F L hx hy Q X q => ⟨f a b, q, h a b x y F L hx hy⟩
variable {f : Int → Int → Int} {g : Int → Int → Bool} {C : Int → Int → Prop}
theorem o_i0i : Op2 ε (rI0 fun i j => .int (f i j)) (fD K dInt) (fD K dInt) (fun a b => pur (f a b)) (fD K dInt) :=
  op_pur fun a b x y F L hx hy => r_I0i (r_c (R := Dt K (.int a)) hx) (r_c (R := Dt K (.int b)) hy)
theorem o_i0b : Op2 ε (rI0 fun i j => .bl (g i j)) (fD K dInt) (fD K dInt) (fun a b => pur (g a b)) (fD K dB) :=
  op_pur fun a b x y F L hx hy => r_I0b (r_c (R := Dt K (.int a)) hx) (r_c (R := Dt K (.int b)) hy)
theorem o_ii : Op2 ε (rI C fun i j => .int (f i j)) (fD K dInt) (fD K dInt) (fun a b Q X => C a b ∧ Q (f a b)) (fD K dInt) :=
  op_of fun a b x y F L hx hy Q X q => ⟨_, q.2, r_Ii (r_c (R := Dt K (.int a)) hx) (r_c (R := Dt K (.int b)) hy) q.1⟩
theorem o_addN : Op2 ε (rI0 fun i j => .int (i + j)) (fD K dN) (fD K dN) (fun a b => pur (a + b)) (fD K dN) :=
  op_pur fun a b x y F L hx hy => r_is (r_I0i (r_c (R := Dt K (.int a)) hx) (r_c (R := Dt K (.int b)) hy)) (by show _ = PyData.int ((a + b : Nat) : Int); rw [Int.natCast_add])
theorem o_subN : Op2 ε (rI0 fun i j => .int (i - j)) (fD K dN) (fD K dN) (fun a b Q X => b ≤ a ∧ Q (a - b)) (fD K dN) :=
  op_of fun a b x y F L hx hy Q X q => ⟨_, q.2, r_is (r_I0i (r_c (R := Dt K (.int a)) hx) (r_c (R := Dt K (.int b)) hy)) (by show _ = PyData.int ((a - b : Nat) : Int); rw [Int.natCast_sub q.1])⟩
theorem o_ltN : Op2 ε (rI0 fun i j => .bl (decide (i < j))) (fD K dN) (fD K dN) (fun a b => pur (decide (a < b))) (fD K dB) :=
  op_pur fun a b x y F L hx hy => r_is (r_I0b (r_c (R := Dt K (.int a)) hx) (r_c (R := Dt K (.int b)) hy)) (congrArg PyData.bool (decide_eq_decide.mpr (by omega)))
theorem o_leN : Op2 ε (rI0 fun i j => .bl (decide (i ≤ j))) (fD K dN) (fD K dN) (fun a b => pur (decide (a ≤ b))) (fD K dB) :=
  op_pur fun a b x y F L hx hy => r_is (r_I0b (r_c (R := Dt K (.int a)) hx) (r_c (R := Dt K (.int b)) hy)) (congrArg PyData.bool (decide_eq_decide.mpr (by omega)))
theorem o_gtN : Op2 ε (rI0 fun i j => .bl (decide (j < i))) (fD K dN) (fD K dN) (fun a b => pur (decide (b < a))) (fD K dB) :=
  op_pur fun a b x y F L hx hy => r_is (r_I0b (r_c (R := Dt K (.int a)) hx) (r_c (R := Dt K (.int b)) hy)) (congrArg PyData.bool (decide_eq_decide.mpr (by omega)))
theorem o_geN : Op2 ε (rI0 fun i j => .bl (decide (j ≤ i))) (fD K dN) (fD K dN) (fun a b => pur (decide (b ≤ a))) (fD K dB) :=
  op_pur fun a b x y F L hx hy => r_is (r_I0b (r_c (R := Dt K (.int a)) hx) (r_c (R := Dt K (.int b)) hy)) (congrArg PyData.bool (decide_eq_decide.mpr (by omega)))
theorem o_eqN : Op2 ε rEq (fD K dN) (fD K dN) (fun a b => pur (decide (a = b))) (fD K dB) := op_pur fun a b x y F L hx hy => r_eqN (r_c (R := Dt K (nI a)) hx) (r_c (R := Dt K (nI b)) hy)
theorem o_neN : Op2 ε rNe (fD K dN) (fD K dN) (fun a b => pur (!decide (a = b))) (fD K dB) := op_pur fun a b x y F L hx hy => r_neN (r_c (R := Dt K (nI a)) hx) (r_c (R := Dt K (nI b)) hy)
theorem o_eqI : Op2 ε rEq (fD K dInt) (fD K dInt) (fun a b => pur (decide (a = b))) (fD K dB) := op_pur fun a b x y F L hx hy => r_eqI (r_c (R := Dt K (.int a)) hx) (r_c (R := Dt K (.int b)) hy)
theorem o_neI : Op2 ε rNe (fD K dInt) (fD K dInt) (fun a b => pur (!decide (a = b))) (fD K dB) := op_pur fun a b x y F L hx hy => r_neI (r_c (R := Dt K (.int a)) hx) (r_c (R := Dt K (.int b)) hy)
theorem o_eqS : Op2 ε rEq (fD K dS) (fD K dS) (fun a b => pur (decide (a = b))) (fD K dB) := op_pur fun a b x y F L hx hy => by
  cases hx; cases hy
  refine fun F2 N H e2 A Q q => ⟨rfl, q _ F2 H (Same.refl _) A ?_⟩
  have e : decide (V.str a = V.str b) = decide (a = b) := decide_eq_decide.mpr ⟨fun h => V.str.inj h, fun h => h ▸ rfl⟩
  rw [e]; exact .bl _
theorem o_neS : Op2 ε rNe (fD K dS) (fD K dS) (fun a b => pur (!decide (a = b))) (fD K dB) := op_pur fun a b x y F L hx hy => by
  cases hx; cases hy
  refine fun F2 N H e2 A Q q => ⟨rfl, q _ F2 H (Same.refl _) A ?_⟩
  have e : decide (V.str a = V.str b) = decide (a = b) := decide_eq_decide.mpr ⟨fun h => V.str.inj h, fun h => h ▸ rfl⟩
  rw [e]; exact .bl _
theorem o_eqB : Op2 ε rEq (fD K dB) (fD K dB) (fun a b => pur (decide (a = b))) (fD K dB) := op_pur fun a b x y F L hx hy => by
  cases hx; cases hy
  refine fun F2 N H e2 A Q q => ⟨rfl, q _ F2 H (Same.refl _) A ?_⟩
  have e : decide (V.bl a = V.bl b) = decide (a = b) := decide_eq_decide.mpr ⟨fun h => V.bl.inj h, fun h => h ▸ rfl⟩
  rw [e]; exact .bl _
theorem o_neB : Op2 ε rNe (fD K dB) (fD K dB) (fun a b => pur (!decide (a = b))) (fD K dB) := op_pur fun a b x y F L hx hy => by
  cases hx; cases hy
  refine fun F2 N H e2 A Q q => ⟨rfl, q _ F2 H (Same.refl _) A ?_⟩
  have e : decide (V.bl a = V.bl b) = decide (a = b) := decide_eq_decide.mpr ⟨fun h => V.bl.inj h, fun h => h ▸ rfl⟩
  rw [e]; exact .bl _
theorem o_eqD [DecidableEq α] {d : α → PyData} {n : Nat} [Nice d n] (hn : n ≤ 64 := by decide) : Op2 ε (rEqD K) (fD K d) (fD K d) (fun a b => pur (decide (a = b))) (fD K dB) :=
  op_pur fun a b x y F L hx hy => r_is (r_eqD (r_c (R := Dt K (d a)) hx) (r_c (R := Dt K (d b)) hy) (nice_shaped hn a) (nice_shaped hn b)) (congrArg PyData.bool (Nice.eq a b))
theorem o_neD [DecidableEq α] {d : α → PyData} {n : Nat} [Nice d n] (hn : n ≤ 64 := by decide) : Op2 ε (rNeD K) (fD K d) (fD K d) (fun a b => pur (!decide (a = b))) (fD K dB) :=
  op_pur fun a b x y F L hx hy => r_is (r_neD (r_c (R := Dt K (d a)) hx) (r_c (R := Dt K (d b)) hy) (nice_shaped hn a) (nice_shaped hn b)) (congrArg (fun b => PyData.bool (!b)) (Nice.eq a b))
theorem o_inT : Op2 ε (rIn K false) (fD K dN) (fD K (dT dN)) (fun a b => pur (decide (a ∈ b))) (fD K dB) := op_pur fun a b x y F L hx hy => r_inN (r_c (R := Dt K (nI a)) hx) (r_c (R := Dt K (dRow b)) hy)
theorem o_notInT : Op2 ε (rIn K true) (fD K dN) (fD K (dT dN)) (fun a b => pur (!decide (a ∈ b))) (fD K dB) := op_pur fun a b x y F L hx hy => r_notInN (r_c (R := Dt K (nI a)) hx) (r_c (R := Dt K (dRow b)) hy)
theorem seqI_l2 {r : List Nat} {v : V} {F : Hp} (h : Dt K (.list (r.map dN)) v F) : seqI (cI r) v F K := seqI_l (ns := cI r) (row_int (r := r) ▸ h)
theorem o_inL : Op2 ε (rIn K false) (fD K dN) (fD K (dL dN)) (fun a b => pur (decide (a ∈ b))) (fD K dB) := op_pur fun a b x y F L hx hy =>
  r_is (r_in (i := ((a : Nat) : Int)) (r_c (R := Dt K (.int (a : Nat))) hx) (r_c (R := Dt K (.list (b.map dN))) hy) fun v F1 h => seqI_l2 h) (congrArg PyData.bool (decide_eq_decide.mpr mem_cI))
theorem o_notInL : Op2 ε (rIn K true) (fD K dN) (fD K (dL dN)) (fun a b => pur (!decide (a ∈ b))) (fD K dB) := op_pur fun a b x y F L hx hy =>
  r_is (r_notIn (i := ((a : Nat) : Int)) (r_c (R := Dt K (.int (a : Nat))) hx) (r_c (R := Dt K (.list (b.map dN))) hy) fun v F1 h => seqI_l2 h) (congrArg (fun b => PyData.bool (!b)) (decide_eq_decide.mpr mem_cI))
theorem o_inDT [DecidableEq α] {d : α → PyData} {n : Nat} [h : Nice d n] (hn : n ≤ 63 := by decide) : Op2 ε (Nq.rInDT K false) (fD K d) (fD K (dT d)) (fun a b => pur (decide (a ∈ b))) (fD K dB) :=
  op_pur fun a b x y F L hx hy => r_is (r_inDT (r_c (R := Dt K (d a)) hx) (r_c (R := Dt K (.tuple (b.map d))) hy) (nice_shaped (by omega) a) (nice_shaped (d := dT d) (by omega) b)) (congrArg PyData.bool nice_any)
theorem o_notInDT [DecidableEq α] {d : α → PyData} {n : Nat} [h : Nice d n] (hn : n ≤ 63 := by decide) : Op2 ε (Nq.rInDT K true) (fD K d) (fD K (dT d)) (fun a b => pur (!decide (a ∈ b))) (fD K dB) :=
  op_pur fun a b x y F L hx hy => r_is (r_notInDT (r_c (R := Dt K (d a)) hx) (r_c (R := Dt K (.tuple (b.map d))) hy) (nice_shaped (by omega) a) (nice_shaped (d := dT d) (by omega) b)) (congrArg (fun b => PyData.bool (!b)) nice_any)
theorem o_inDL [DecidableEq α] {d : α → PyData} {n : Nat} [h : Nice d n] (hn : n ≤ 63 := by decide) : Op2 ε (rInD K) (fD K d) (fD K (dL d)) (fun a b => pur (decide (a ∈ b))) (fD K dB) :=
  op_pur fun a b x y F L hx hy => fun F2 N H e A Q q => ⟨d a, b.map d, dp_up (e.trans A.ex) hx, dp_up (e.trans A.ex) hy, nice_shaped (by omega) a, nice_shaped (d := dL d) (by omega) b, q _ F2 H (Same.refl _) A (by
    rw [nice_any (d := d)]; exact .bl _)⟩
theorem o_notInDL [DecidableEq α] {d : α → PyData} {n : Nat} [h : Nice d n] (hn : n ≤ 63 := by decide) : Op2 ε (rNotInD K) (fD K d) (fD K (dL d)) (fun a b => pur (!decide (a ∈ b))) (fD K dB) :=
  op_pur fun a b x y F L hx hy => fun F2 N H e A Q q => ⟨d a, b.map d, dp_up (e.trans A.ex) hx, dp_up (e.trans A.ex) hy, nice_shaped (by omega) a, nice_shaped (d := dL d) (by omega) b, q _ F2 H (Same.refl _) A (by
    rw [nice_any (d := d)]; exact .bl _)⟩
/-! items -/
theorem o_ixT {d : α → PyData} : Op2 ε (rIxT K) (fD K (dT d)) (fD K dN) (fun xs i Q X => ∃ a, xs[i]? = some a ∧ Q a) (fD K d) :=
  op_of fun xs i x y F L hx hy Q X ⟨a, h, q⟩ => ⟨a, q, r_ixT (r_c (R := Dt K (.tuple (xs.map d))) hx) (r_c (R := Dt K (.int (i : Nat))) hy) (by rw [List.getElem?_map, h]; rfl)⟩
theorem o_ixL {d : α → PyData} : Op2 ε (rIxL K) (fD K (dL d)) (fD K dN) (fun xs i Q X => ∃ a, xs[i]? = some a ∧ Q a) (fD K d) :=
  op_of fun xs i x y F L hx hy Q X ⟨a, h, q⟩ => ⟨a, q, r_ixL (r_c (R := Dt K (.list (xs.map d))) hx) (r_c (R := Dt K (.int (i : Nat))) hy) (by rw [List.getElem?_map, h]; rfl)⟩
theorem o_ixLn [∀ a, Mono (R a)] : Op2 ε (rIxL K) (fLn R) (fD K dN) (fun xs i Q X => ∃ a, xs[i]? = some a ∧ Q a) R :=
  op_of fun xs i x y F L hx hy Q X ⟨a, h, q⟩ => ⟨a, q, r_ixLs (r_ls (r_c (R := Ln (xs.map R)) hx)) (r_c (R := Dt K (.int (i : Nat))) hy) (by rw [List.getElem?_map, h]; rfl)⟩
theorem o_ixTp [∀ a, Mono (R a)] : Op2 ε (rIxT K) (fTp K R) (fD K dN) (fun xs i Q X => ∃ a, xs[i]? = some a ∧ Q a) R :=
  op_of fun xs n x y F L hx hy Q X ⟨a, h, q⟩ => ⟨a, q, fun F1 N H e A Q q => by
    obtain ⟨p, vs, rfl, hs, hr⟩ := hx
    cases hy
    have hn : n < vs.length := by rw [each_length hr, List.length_map]; exact (List.getElem?_eq_some_iff.mp h).1
    obtain ⟨R', g1, g2⟩ := each_at hr (List.getElem?_eq_getElem hn)
    rw [List.getElem?_map, h] at g1
    cases g1
    exact ⟨p, vs, (n : Int), _, rfl, rfl, sqT_up (e.trans A.ex) hs, atI_nat (List.getElem?_eq_getElem hn), q _ F1 H (Same.refl _) A (Mono.go g2 e)⟩⟩
/-! texts, lists put together -/
theorem o_addS : Op2 ε (fun u v H Q => ∃ i j, u = V.str i ∧ v = .str j ∧ i.length + j.length ≤ sizeLine ∧ Q (.str (i ++ j)) H) (fD K dS) (fD K dS) (fun a b Q X => a.length + b.length ≤ 100000 ∧ Q (a ++ b)) (fD K dS) :=
  op_of fun a b x y F L hx hy Q X q => ⟨_, q.2, r_addS (r_c (R := Dt K (.str a)) hx) (r_c (R := Dt K (.str b)) hy) q.1⟩
theorem o_cat [∀ a, Mono (R a)] : Op2 ε rCat (fLn R) (fLn R) (fun a b Q X => a.length + b.length ≤ 10000 ∧ Q (a ++ b)) (fLn R) :=
  op_of fun a b x y F L hx hy Q X q => ⟨_, q.2, r_cat (r_c (R := Ln (a.map R)) hx) (r_c (R := Ln (b.map R)) hy) q.1⟩

/-! ### chains, truth -/
def chW (ma mb mc : Wm ε Int) (g1 g2 : Int → Int → Bool) : Wm ε Bool := fun Q X => ma (fun a => mb (fun b => if g1 a b = true then mc (fun c => Q (g2 b c)) X else Q false) X) X
def andW (ma mb : Wm ε Bool) : Wm ε Bool := fun Q X => ma (fun a => if a = true then mb Q X else Q false) X
def orW (ma mb : Wm ε Bool) : Wm ε Bool := fun Q X => ma (fun a => if a = true then Q true else mb Q X) X
def iteW (b : Bool) (m1 m2 : Wm ε α) : Wm ε α := fun Q X => if b = true then m1 Q X else m2 Q X
theorem andW_p {a b : Bool} {Q : Bool → Prop} {X : ε → Prop} : andW (fun Q _ => Q a) (fun Q _ => Q b) Q X = Q (a && b) := by cases a <;> rfl
theorem orW_p {a b : Bool} {Q : Bool → Prop} {X : ε → Prop} : orW (fun Q _ => Q a) (fun Q _ => Q b) Q X = Q (a || b) := by cases a <;> rfl
theorem iteW_p {b : Bool} {x y : α} {Q : α → Prop} {X : ε → Prop} : iteW b (fun Q _ => Q x) (fun Q _ => Q y) Q X = Q (if b = true then x else y) := by cases b <;> rfl
theorem iteW_t {m1 m2 : Wm ε α} {Q : α → Prop} {X : ε → Prop} : iteW true m1 m2 Q X = m1 Q X := rfl
theorem iteW_f {m1 m2 : Wm ε α} {Q : α → Prop} {X : ε → Prop} : iteW false m1 m2 Q X = m2 Q X := rfl
theorem chW_p {a b c : Int} {g1 g2 : Int → Int → Bool} {Q : Bool → Prop} {X : ε → Prop} : chW (fun Q _ => Q a) (fun Q _ => Q b) (fun Q _ => Q c) g1 g2 Q X = Q (g1 a b && g2 b c) := by
  show (if g1 a b = true then Q (g2 b c) else Q false) = _
  cases g1 a b <;> rfl
theorem andW_of {ma mb : Wm ε Bool} {Q : Bool → Prop} {X : ε → Prop} (a b : Bool) (h1 : ∀ P : Bool → Prop, P a → ma P X) (h2 : a = true → ∀ P : Bool → Prop, P b → mb P X) (q : Q (a && b)) : andW ma mb Q X := by
  refine h1 _ ?_
  cases a with
  | true => exact h2 rfl Q q
  | false => exact q
theorem orW_of {ma mb : Wm ε Bool} {Q : Bool → Prop} {X : ε → Prop} (a b : Bool) (h1 : ∀ P : Bool → Prop, P a → ma P X) (h2 : a = false → ∀ P : Bool → Prop, P b → mb P X) (q : Q (a || b)) : orW ma mb Q X := by
  refine h1 _ ?_
  cases a with
  | false => exact h2 rfl Q q
  | true => exact q
theorem andW_l {a : Bool} {mb : Wm ε Bool} {Q : Bool → Prop} {X : ε → Prop} : andW (fun Q _ => Q a) mb Q X = if a = true then mb Q X else Q false := rfl
theorem orW_l {a : Bool} {mb : Wm ε Bool} {Q : Bool → Prop} {X : ε → Prop} : orW (fun Q _ => Q a) mb Q X = if a = true then Q true else mb Q X := rfl
theorem tr_chain {ma mb mc : Wm ε Int} {g1 g2 : Int → Int → Bool} (ha : TrE Z ρ κ ta ma (fD K dInt)) (hb : TrE Z ρ κ tb mb (fD K dInt)) (hc : TrE Z ρ κ tc mc (fD K dInt)) :
    TrE Z ρ κ (tChain (rI0 fun i j => .bl (g1 i j)) (rI0 fun i j => .bl (g2 i j)) ta tb tc) (chW ma mb mc g1 g2) (fD K dB) :=
  ⟨inferInstance, fun σ F L s c Q X q => rw_bind (k := ta σ) (ha.run σ F L s c _ X q) fun x F1 e1 ⟨a, q1, hx⟩ => rw_bind (k := tb σ) (hb.run σ F1 L (satV_up e1 s) (satC_up e1 c) _ X q1) fun y F2 e2 ⟨b, q2, hy⟩ => by
    cases hx; cases hy
    refine rw_bind (k := fun H Q => rI0 (fun i j => .bl (g1 i j)) (.int a) (.int b) H Q) (R := Eqv (.bl (g1 a b))) (.of (run_ex a (run_ex b (run_and (fun _ _ _ _ _ => rfl) (run_and (fun _ _ _ _ _ => rfl) (run_ret fun _ _ => rfl)))))) fun z F3 e3 hz => ?_
    cases hz
    intro F4 N H e4 A wsh Qk qk
    refine ⟨g1 a b, rfl, ?_⟩
    cases hg : g1 a b with
    | true =>
      rw [hg, if_pos rfl] at q2
      refine iteT ?_
      refine rw_bind (k := tc σ) (k2 := fun w' H4 Q => rI0 (fun i j => .bl (g2 i j)) (.int b) w' H4 Q) (S := fun v F1 => ∃ a, Q a ∧ fD K dB a v F1) (hc.run σ F3 L (satV_up ((e1.trans e2).trans e3) s) (satC_up ((e1.trans e2).trans e3) c) _ X q2) (fun u F5 e5 ⟨cc, q5, hu⟩ => ?_) F4 N H e4 A wsh Qk qk
      cases hu
      exact .of (run_ex b (run_ex cc (run_and (fun _ _ _ _ _ => rfl) (run_and (fun _ _ _ _ _ => rfl) (run_ret fun _ _ => ⟨_, q5, .bl _⟩)))))
    | false =>
      rw [hg, if_neg Bool.false_ne_true] at q2
      refine iteF ?_
      exact qk _ F4 H (Same.refl _) A ⟨false, q2, .bl _⟩⟩
section
variable {ma mb mm : Wm ε Bool}
theorem tr_and (ha : TrE Z ρ κ ta ma (fD K dB)) (hb : TrE Z ρ κ tb mb (fD K dB)) : TrE Z ρ κ (tAndV ta tb) (andW ma mb) (fD K dB) :=
  ⟨inferInstance, fun σ F L s c Q X q => rw_bind (k := ta σ) (ha.run σ F L s c _ X q) fun x F1 e1 ⟨a, q1, hx⟩ => by
    cases hx
    intro F4 N H e4 A wsh Qk qk
    refine ⟨a, rfl, ?_⟩
    cases a with
    | true => exact iteT (hb.run σ F1 L (satV_up e1 s) (satC_up e1 c) Q X (by rwa [if_pos rfl] at q1) F4 N H e4 A wsh Qk qk)
    | false => exact iteF (qk _ F4 H (Same.refl _) A ⟨false, by rwa [if_neg Bool.false_ne_true] at q1, .bl false⟩)⟩
theorem tr_or (ha : TrE Z ρ κ ta ma (fD K dB)) (hb : TrE Z ρ κ tb mb (fD K dB)) : TrE Z ρ κ (tOrV ta tb) (orW ma mb) (fD K dB) :=
  ⟨inferInstance, fun σ F L s c Q X q => rw_bind (k := ta σ) (ha.run σ F L s c _ X q) fun x F1 e1 ⟨a, q1, hx⟩ => by
    cases hx
    intro F4 N H e4 A wsh Qk qk
    refine ⟨a, rfl, ?_⟩
    cases a with
    | false => exact iteF (hb.run σ F1 L (satV_up e1 s) (satC_up e1 c) Q X (by rwa [if_neg Bool.false_ne_true] at q1) F4 N H e4 A wsh Qk qk)
    | true => exact iteT (qk _ F4 H (Same.refl _) A ⟨true, by rwa [if_pos rfl] at q1, .bl true⟩)⟩
theorem tr_not (ha : TrE Z ρ κ ta ma (fD K dB)) : TrE Z ρ κ (tNotV ta) (fun Q X => ma (fun a => Q (!a)) X) (fD K dB) :=
  ⟨inferInstance, fun σ F L s c Q X q => rw_bind (k := ta σ) (ha.run σ F L s c _ X q) fun x F1 e1 ⟨a, q1, hx⟩ => by
    cases hx
    intro F4 N H e4 A wsh Qk qk
    exact ⟨a, rfl, qk _ F4 H (Same.refl _) A ⟨_, q1, .bl _⟩⟩⟩
theorem tr_if {m1 m2 : Wm ε α} (ht : TrT Z ρ κ tt mm) (h1 : TrE Z ρ κ ta m1 R) (h2 : TrE Z ρ κ tb m2 R) : TrE Z ρ κ (tIf tt ta tb) (fun Q X => mm (fun b => iteW b m1 m2 Q X) X) R :=
  ⟨h1.mono, fun σ F L s c Q X q => rw_bind (k := tt σ) (ht.run σ F L s c _ X q) fun b F1 e1 q1 => by
    intro F4 N H e4 A wsh Qk qk
    cases b with
    | true => exact iteT (h1.run σ F1 L (satV_up e1 s) (satC_up e1 c) Q X q1 F4 N H e4 A wsh Qk qk)
    | false => exact iteF (h2.run σ F1 L (satV_up e1 s) (satC_up e1 c) Q X q1 F4 N H e4 A wsh Qk qk)⟩
theorem tt_test (ha : TrE Z ρ κ ta ma (fD K dB)) : TrT Z ρ κ (tTest ta) ma :=
  ⟨fun σ F L s c Q X q => rw_bind (k := ta σ) (ha.run σ F L s c _ X q) fun x F1 e1 ⟨a, q1, hx⟩ => by
    cases hx
    intro F4 N H e4 A wsh Qk qk
    exact ⟨a, rfl, qk _ F4 H (Same.refl _) A q1⟩⟩
theorem tt_B (ha : TrE Z ρ κ ta ma (fD K dB)) : TrT Z ρ κ (tB ta) ma :=
  ⟨fun σ F L s c Q X q => rw_bind (k := ta σ) (ha.run σ F L s c _ X q) fun x F1 e1 ⟨a, q1, hx⟩ => by
    cases hx
    intro F4 N H e4 A wsh Qk qk
    exact ⟨a, rfl, qk _ F4 H (Same.refl _) A q1⟩⟩
theorem tt_yes : TrT Z ρ κ tYes (pur true) := ⟨fun σ F L s c Q X q => .of (run_ret fun _ _ => q)⟩
theorem tt_not (h : TrT Z ρ κ tt ma) : TrT Z ρ κ (tNot tt) (fun Q X => ma (fun a => Q (!a)) X) :=
  ⟨fun σ F L s c Q X q => rw_bind (k := tt σ) (h.run σ F L s c _ X q) fun x F1 e1 q1 => rw_ret fun _ _ => q1⟩
theorem tt_and (h : TrT Z ρ κ tt ma) (h2 : TrT Z ρ κ tu mb) : TrT Z ρ κ (tAnd tt tu) (andW ma mb) :=
  ⟨fun σ F L s c Q X q => rw_bind (k := tt σ) (h.run σ F L s c _ X q) fun a F1 e1 q1 => by
    intro F4 N H e4 A wsh Qk qk
    cases a with
    | true => exact iteT (h2.run σ F1 L (satV_up e1 s) (satC_up e1 c) Q X (by rwa [if_pos rfl] at q1) F4 N H e4 A wsh Qk qk)
    | false => exact iteF (qk _ F4 H (Same.refl _) A (by rwa [if_neg Bool.false_ne_true] at q1))⟩
theorem tt_or (h : TrT Z ρ κ tt ma) (h2 : TrT Z ρ κ tu mb) : TrT Z ρ κ (tOr tt tu) (orW ma mb) :=
  ⟨fun σ F L s c Q X q => rw_bind (k := tt σ) (h.run σ F L s c _ X q) fun a F1 e1 q1 => by
    intro F4 N H e4 A wsh Qk qk
    cases a with
    | false => exact iteF (h2.run σ F1 L (satV_up e1 s) (satC_up e1 c) Q X q1 F4 N H e4 A wsh Qk qk)
    | true => exact iteT (qk _ F4 H (Same.refl _) A (by rwa [if_pos rfl] at q1))⟩
end
end
end Tw

/-! Tw2: arguments, calls, what is built in. -/
namespace Tw
open PySem PySem.Spec PyProof.Rows L2 SlX StX Rs Ma
def fSet (w : World) : List Nat → VP := fun xs => Rs.St w (cI xs)
instance {w : World} {xs : List Nat} : Mono (fSet w xs) := inferInstanceAs (Mono (Rs.St w (cI xs)))
/-- ascending, each once -/
def sset (xs : List Nat) : List Nat := (List.range (xs.foldr max 0 + 1)).filter fun x => decide (x ∈ xs)
theorem le_foldr {xs : List Nat} {x : Nat} (h : x ∈ xs) : x ≤ xs.foldr max 0 := by
  induction xs with
  | nil => cases h
  | cons a xs ih =>
    rw [List.foldr_cons]
    rcases List.mem_cons.mp h with z | z
    · subst z; exact Nat.le_max_left _ _
    · exact Nat.le_trans (ih z) (Nat.le_max_right _ _)
theorem mem_sset {xs : List Nat} {x : Nat} : x ∈ sset xs ↔ x ∈ xs := by
  unfold sset
  rw [List.mem_filter, decide_eq_true_eq, List.mem_range]
  exact ⟨fun h => h.2, fun h => ⟨Nat.lt_succ_of_le (le_foldr h), h⟩⟩
theorem asc_sset {xs : List Nat} : (sset xs).Pairwise (· < ·) := List.pairwise_lt_range.filter _
theorem sset_eq {xs ys : List Nat} (h1 : ys.Pairwise (· < ·)) (h2 : ∀ x, x ∈ ys ↔ x ∈ xs) : sset xs = ys :=
  List.Perm.eq_of_pairwise (le := (· < ·)) (fun a b _ _ x y => absurd x (Nat.lt_asymm y)) asc_sset h1 ((List.perm_ext_iff_of_nodup (asc_sset.imp fun x => Nat.ne_of_lt x) (h1.imp fun x => Nat.ne_of_lt x)).mpr fun k => by rw [mem_sset, h2])
/-- ascending, as often as they are -/
def strN (n : Nat) : Str := toString (n : Int)
def sortN (xs : List Nat) : List Nat := xs.mergeSort fun a b => decide (a ≤ b)
theorem sortN_perm {xs : List Nat} : (sortN xs).Perm xs := List.mergeSort_perm _ _
theorem sortN_asc {xs : List Nat} : (sortN xs).Pairwise (· ≤ ·) := by
  have := List.pairwise_mergeSort (le := fun a b : Nat => decide (a ≤ b)) (fun a b c h1 h2 => by simp only [decide_eq_true_eq] at *; omega) (fun a b => by simp only [Bool.or_eq_true, decide_eq_true_eq]; omega) xs
  exact this.imp fun h => of_decide_eq_true h
theorem sortN_eq {xs ys : List Nat} (h1 : ys.Pairwise (· ≤ ·)) (h2 : ys.Perm xs) : sortN xs = ys :=
  List.Perm.eq_of_pairwise (le := (· ≤ ·)) (fun a b _ _ x y => Nat.le_antisymm x y) sortN_asc h1 (sortN_perm.trans h2.symm)
section
variable {ε α β γ δ : Type} {Z : Wsh ε} {ρ : List (Option VP)} {κ : List Ow} {K : PySem.W.Frag} {w : World} {te ta tb tc : TE} {t : TA} {ma : Wm ε α} {mb : Wm ε β} {m : Wm ε α} {mg : Wm ε γ} {Ra R : α → VP} {Rb : β → VP} {Rc : γ → VP} {Rd : δ → VP} {Rs : γ → List VP}
/-! ### arguments -/
theorem ta_nil : TrA Z ρ κ tNil (pur ()) fun _ => [] := ⟨fun _ => inferInstance, fun σ F L s c Q X q => .of (run_ret fun F1 e => ⟨(), q, True.intro⟩)⟩
theorem ta_one (h : TrE Z ρ κ te m R) : TrA Z ρ κ (tCons te tNil) m fun a => [R a] :=
  have := h.mono
  ⟨fun a => inferInstanceAs (MonoL [R a]), fun σ F L s c Q X q => rw_bind (k := te σ) (h.run σ F L s c Q X q) fun v F1 e ⟨a, q1, r1⟩ => rw_ret fun F2 e2 => ⟨a, q1, Mono.go r1 e2, True.intro⟩⟩
theorem ta_cons (h : TrE Z ρ κ te m R) (h2 : TrA Z ρ κ t mg Rs) : TrA Z ρ κ (tCons te t) (fun Q X => m (fun a => mg (fun g => Q (a, g)) X) X) fun p => R p.1 :: Rs p.2 :=
  have := h.mono
  have := h2.mono
  ⟨fun p => inferInstanceAs (MonoL (R p.1 :: Rs p.2)), fun σ F L s c Q X q => rw_bind (k := te σ) (h.run σ F L s c _ X q) fun v F1 e ⟨a, q1, r1⟩ => rw_bind (k := t σ) (h2.run σ F1 L (satV_up e s) (satC_up e c) _ X q1) fun vs F2 e2 ⟨g, q2, r2⟩ =>
    rw_ret fun F3 e3 => ⟨(a, g), q2, Mono.go r1 (e2.trans e3), MonoL.mono _ _ _ e3 r2⟩⟩
/-- as many of one kind -/
theorem ta_lnil [∀ a, Mono (R a)] : TrA Z ρ κ tNil (pur []) fun xs : List α => xs.map R := ⟨fun _ => inferInstance, fun σ F L s c Q X q => .of (run_ret fun F1 e => ⟨[], q, True.intro⟩)⟩
theorem ta_lcons {ml : Wm ε (List α)} (h : TrE Z ρ κ te m R) (h2 : TrA Z ρ κ t ml fun xs => xs.map R) : TrA Z ρ κ (tCons te t) (fun Q X => m (fun a => ml (fun g => Q (a :: g)) X) X) fun xs => xs.map R :=
  have := h.mono
  ⟨fun p => inferInstance, fun σ F L s c Q X q => rw_bind (k := te σ) (h.run σ F L s c _ X q) fun v F1 e ⟨a, q1, r1⟩ => rw_bind (k := t σ) (h2.run σ F1 L (satV_up e s) (satC_up e c) _ X q1) fun vs F2 e2 ⟨g, q2, r2⟩ =>
    rw_ret fun F3 e3 => ⟨a :: g, q2, Mono.go r1 (e2.trans e3), MonoL.mono _ _ _ e3 r2⟩⟩
theorem ta_lstar {ml m2 : Wm ε (List α)} [∀ a, Mono (R a)] (h : TrE Z ρ κ te ml (fTp K R)) (h2 : TrA Z ρ κ t m2 fun xs => xs.map R) : TrA Z ρ κ (tStar K te t) (fun Q X => ml (fun a => m2 (fun g => Q (a ++ g)) X) X) fun xs => xs.map R :=
  ⟨fun p => inferInstance, fun σ F L s c Q X q => rw_bind (k := te σ) (h.run σ F L s c _ X q) fun v F1 e ⟨xs, q1, a, vs, ev, r1, r2⟩ => by
    subst ev
    intro F4 N H e4 A wsh Qk qk
    refine ⟨a, vs, rfl, .inl (sqT_up (e4.trans A.ex) r1), ?_⟩
    refine h2.run σ F1 L (satV_up e s) (satC_up e c) _ X q1 F4 N H e4 A wsh _ fun us F5 H5 e5 A5 ⟨ys, q2, r5⟩ => qk _ F5 H5 e5 A5 ⟨xs ++ ys, q2, ?_⟩
    rw [List.map_append]
    exact each_app (MonoL.mono _ _ _ (e4.trans e5) r2) r5⟩
theorem tr_tup {ml : Wm ε (List α)} [∀ a, Mono (R a)] (h : TrA Z ρ κ t ml fun xs => xs.map R) : TrE Z ρ κ (tTup t) (fun Q X => ml (fun xs => xs.length ≤ 100000 ∧ Q xs) X) (fTp K R) :=
  ⟨inferInstance, fun σ F L s c Q X q => rw_bind (k := t σ) (h.run σ F L s c _ X q) fun vs F1 e ⟨xs, ⟨q0, q1⟩, r1⟩ =>
    .of (run_and (fun _ _ _ _ _ => len_ok (by rw [each_length r1, List.length_map]; exact q0)) (run_new fun F2 p e2 hp => ⟨xs, q1, p, vs, rfl, .inl (.inl upd_same), MonoL.mono _ _ _ (e2.trans (same_new hp)) r1⟩))⟩
theorem tr_pair (ha : TrE Z ρ κ ta ma Ra) (hb : TrE Z ρ κ tb mb Rb) : TrE Z ρ κ (tTup (tCons ta (tCons tb tNil))) (fun Q X => ma (fun a => mb (fun b => Q (a, b)) X) X) (fP K Ra Rb) :=
  have := ha.mono
  have := hb.mono
  ⟨inferInstance, fun σ F L s c Q X q => rw_bind (k := tCons ta (tCons tb tNil) σ) ((ta_cons ha (ta_one hb)).run σ F L s c _ X q) fun vs F1 e ⟨p, q1, r1⟩ =>
    .of (run_and (fun _ _ _ _ _ => len_ok (by rw [each_length r1]; show 2 ≤ 100000; decide)) (run_new fun F2 a e2 hp => ⟨p, q1, a, vs, rfl, .inl (.inl upd_same), MonoL.mono (Rs := [Ra p.1, Rb p.2]) _ _ _ (e2.trans (same_new hp)) r1⟩))⟩
/-- a list that stays -/
theorem tr_lst {ml : Wm ε (List α)} [∀ a, Mono (R a)] (h : TrA Z ρ κ t ml fun xs => xs.map R) : TrE Z ρ κ (tLst t) (fun Q X => ml (fun xs => xs.length ≤ 100000 ∧ Q xs) X) (fLn R) :=
  ⟨inferInstance, fun σ F L s c Q X q => rw_bind (k := t σ) (h.run σ F L s c _ X q) fun vs F1 e ⟨xs, ⟨q0, q1⟩, r1⟩ =>
    .of (run_and (fun _ _ _ _ _ => len_ok (by rw [each_length r1, List.length_map]; exact q0)) (run_new fun F2 p e2 hp => ⟨xs, q1, p, vs, rfl, upd_same, MonoL.mono _ _ _ (e2.trans (same_new hp)) r1⟩))⟩

/-! ### promises -/
def SpN {γ δ : Type} (Rs : γ → List VP) (spec : γ → (δ → Prop) → Prop) (R : δ → VP) : Sp := fun vs H Q _ => ∃ g F N P, At F N H ∧ Each (Rs g) vs F ∧ spec g P ∧ ∀ d v F' H', Same F F' → At F' N H' → P d → R d v F' → Q v H'
theorem tr_call {spec : γ → (δ → Prop) → Prop} {E : XK} [∀ d, Mono (Rd d)] (h : TrA Z ρ κ t mg Rs) : TrE Z ρ κ (tCall (SpN Rs spec Rd) [] E t) (fun Q X => mg (fun g => spec g Q) X) Rd :=
  ⟨inferInstance, fun σ F L s c Q X q => rw_bind (k := t σ) (h.run σ F L s c _ X q) fun vs F1 e ⟨g, q1, r1⟩ => by
    rw [List.append_nil]
    have := h.mono
    exact fun F2 N H e2 A wsh Qk qk => ⟨g, F2, L ++ N, Q, A, MonoL.mono _ _ _ e2 r1, q1, fun d v F3 H3 e3 A3 p r => qk v F3 H3 e3 A3 ⟨d, p, r⟩⟩⟩
theorem tr_met {C : Addr} {spec : α × γ → (δ → Prop) → Prop} {E : XK} [∀ d, Mono (Rd d)] (ho : TrE Z ρ κ ta ma Ra) (hS : ∀ a v F, Ra a v F → IsOb C v F) (h : TrA Z ρ κ t mg Rs) :
    TrE Z ρ κ (tMethSl C (SpN (fun p => Ra p.1 :: Rs p.2) spec Rd) E ta t) (fun Q X => ma (fun a => mg (fun g => spec (a, g) Q) X) X) Rd :=
  have := ho.mono
  have := h.mono
  ⟨inferInstance, fun σ F L s c Q X q => rw_bind (k := ta σ) (ho.run σ F L s c _ X q) fun x F1 e1 ⟨o, q1, hx⟩ => by
    obtain ⟨a, dx, vs, rfl, ha, hd⟩ := hS _ _ _ hx
    intro F2 N H e2 A wsh Qk qk
    refine ⟨a, dx, vs, rfl, .inr ⟨A.ex _ _ (e2 _ _ ha), A.ex _ _ (e2 _ _ hd)⟩, ?_⟩
    refine h.run σ F1 L (satV_up e1 s) (satC_up e1 c) _ X q1 F2 N H e2 A wsh _ fun ws F3 H3 e3 A3 ⟨g, q3, hv⟩ => ?_
    exact ⟨(o, g), F3, L ++ N, Q, A3, ⟨Mono.go hx (e2.trans e3), hv⟩, q3, fun d v F4 H4 e4 A4 p r => qk v F4 H4 (e3.trans e4) A4 ⟨d, p, r⟩⟩⟩
theorem tr_met0 {C : Addr} {spec : α → (δ → Prop) → Prop} {E : XK} [∀ d, Mono (Rd d)] (ho : TrE Z ρ κ ta ma Ra) (hS : ∀ a v F, Ra a v F → IsOb C v F) :
    TrE Z ρ κ (tMethSl C (SpN (fun a => [Ra a]) spec Rd) E ta tNil) (fun Q X => ma (fun a => spec a Q) X) Rd :=
  have := ho.mono
  ⟨inferInstance, fun σ F L s c Q X q => rw_bind (k := ta σ) (ho.run σ F L s c _ X q) fun x F1 e1 ⟨o, q1, hx⟩ => by
    obtain ⟨a, dx, vs, rfl, ha, hd⟩ := hS _ _ _ hx
    intro F2 N H e2 A wsh Qk qk
    exact ⟨a, dx, vs, rfl, .inr ⟨A.ex _ _ (e2 _ _ ha), A.ex _ _ (e2 _ _ hd)⟩, o, F2, L ++ N, Q, A, ⟨Mono.go hx e2, True.intro⟩, q1, fun d v F4 H4 e4 A4 p r => qk v F4 H4 e4 A4 ⟨d, p, r⟩⟩⟩
theorem tr_prp {C : Addr} {spec : α → (δ → Prop) → Prop} {E : XK} [∀ d, Mono (Rd d)] (ho : TrE Z ρ κ ta ma Ra) (hS : ∀ a v F, Ra a v F → IsOb C v F) :
    TrE Z ρ κ (tPropSl C (SpN (fun a => [Ra a]) spec Rd) E ta) (fun Q X => ma (fun a => spec a Q) X) Rd :=
  have := ho.mono
  ⟨inferInstance, fun σ F L s c Q X q => rw_bind (k := ta σ) (ho.run σ F L s c _ X q) fun x F1 e1 ⟨o, q1, hx⟩ => by
    obtain ⟨a, dx, vs, rfl, ha, hd⟩ := hS _ _ _ hx
    intro F2 N H e2 A wsh Qk qk
    exact ⟨a, dx, vs, rfl, .inr ⟨A.ex _ _ (e2 _ _ ha), A.ex _ _ (e2 _ _ hd)⟩, o, F2, L ++ N, Q, A, ⟨Mono.go hx e2, True.intro⟩, q1, fun d v F4 H4 e4 A4 p r => qk v F4 H4 e4 A4 ⟨d, p, r⟩⟩⟩
/-- C(..) by SpI -/
theorem tr_mk {C : Addr} {pre : γ → Prop} {R : γ → VP} {E : XK} [∀ d, Mono (R d)] (h : TrA Z ρ κ t mg Rs) : TrE Z ρ κ (tMake C (SpI C pre Rs R) [] E t) (fun Q X => mg (fun g => pre g ∧ Q g) X) R :=
  ⟨inferInstance, fun σ F L s c Q X q => rw_bind (k := t σ) (h.run σ F L s c _ X q) fun vs F1 e ⟨g, ⟨q0, q1⟩, r1⟩ => by
    have := h.mono
    refine RunW.weak (R := fun v F1 => R g v F1) (.of ?_) fun v F2 e2 hv => ⟨g, q1, hv⟩
    exact fun F2 N H e2 A Q q x dx h1 h2 h3 => (r_mk (γ := γ) (tt := fun _ H Q => Q vs H) (σ := σ) (E := E) (R := R) (Rs := Rs) g q0 (run_ret fun F3 e3 => MonoL.mono _ _ _ (e2.trans e3) r1)) F2 N H (Same.refl _) A Q q x dx h1 h2 h3⟩
/-- a reading over one value -/
theorem tr_lift {kk : TE → TE} {mf : α → Wm ε β} (hk : ∀ te σ H Q, kk te σ H Q = te σ H fun x H1 => kk (tC x) [] H1 Q) [∀ b, Mono (Rb b)] (h : TrE Z ρ κ te ma Ra) (f : ∀ a v F L, Ra a v F → ∀ Q X, mf a Q X → ∃ b, Q b ∧ Run (kk (tC v) []) F L (Rb b)) :
    TrE Z ρ κ (kk te) (fun Q X => ma (fun a => mf a Q X) X) Rb :=
  ⟨inferInstance, fun σ F L s c Q X q => by
    have e : kk te σ = fun H Q => te σ H fun x H1 => kk (tC x) [] H1 Q := by
      funext H Q
      exact hk te σ H Q
    rw [e]
    exact rw_bind (k := te σ) (h.run σ F L s c _ X q) fun x F1 e1 ⟨a, q1, hx⟩ => by
      obtain ⟨b, q2, r2⟩ := f a x F1 L hx Q X q1
      exact .of (r2.weak fun v F2 e2 hv => ⟨b, q2, hv⟩)⟩
/-- a slot of an object -/
structure Fld (K : PySem.W.Frag) (Ra : α → VP) (x : Str) (f : α → β) (Rb : β → VP) : Prop where
  run : ∀ a v F L, Ra a v F → Run (SlX.tSl K (tC v) x []) F L (Rb (f a))
theorem tr_fld {x : Str} {f : α → β} (fl : Fld K Ra x f Rb) [∀ b, Mono (Rb b)] (h : TrE Z ρ κ te ma Ra) : TrE Z ρ κ (SlX.tSl K te x) (fun Q X => ma (fun a => Q (f a)) X) Rb :=
  tr_lift (kk := fun te => SlX.tSl K te x) (mf := fun a => pur (f a)) (fun _ _ _ _ => rfl) h fun a v F L hx Q X q => ⟨f a, q, fl.run a v F L hx⟩

/-! ### what is built in -/
structure Cb (ε : Type) (q : List V → Hp → VK → Prop) (Rs : γ → List VP) (mf : γ → Wm ε δ) (R : δ → VP) : Prop where
  run : ∀ g vs F L, Each (Rs g) vs F → ∀ Q X, mf g Q X → Run (q vs) F L fun v F1 => ∃ d, Q d ∧ R d v F1
theorem Cb.of {q : List V → Hp → VK → Prop} {mf : γ → Wm ε δ} (h : ∀ g vs F L, Each (Rs g) vs F → ∀ Q X, mf g Q X → ∃ d, Q d ∧ Run (q vs) F L (Rd d)) : Cb ε q Rs mf Rd :=
  ⟨fun g vs F L hv Q X q => by
    obtain ⟨d, q2, r2⟩ := h g vs F L hv Q X q
    exact r2.weak fun v F2 e2 hv => ⟨d, q2, hv⟩⟩
theorem tr_cb {q : List V → Hp → VK → Prop} {mf : γ → Wm ε δ} [∀ d, Mono (Rd d)] (o : Cb ε q Rs mf Rd) (h : TrA Z ρ κ t mg Rs) : TrE Z ρ κ (tCB q t) (fun Q X => mg (fun g => mf g Q X) X) Rd :=
  ⟨inferInstance, fun σ F L s c Q X q => rw_bind (k := t σ) (h.run σ F L s c _ X q) fun vs F1 e ⟨g, q1, r1⟩ => .of (o.run g vs F1 L r1 Q X q1)⟩
theorem cb1 {q : List V → Hp → VK → Prop} {mf : α → Wm ε δ} (h : ∀ a v F L, Ra a v F → ∀ Q X, mf a Q X → ∃ d, Q d ∧ Run (tCB q (tCons (tC v) tNil) []) F L (Rd d)) : Cb ε q (fun a => [Ra a]) mf Rd :=
  .of fun g vs F L hv Q X q1 => by
    obtain ⟨v, rfl, hx⟩ := each1 hv
    exact h g v F L hx Q X q1
theorem cb1p {q : List V → Hp → VK → Prop} {f : α → δ} (h : ∀ a v F L, Ra a v F → Run (tCB q (tCons (tC v) tNil) []) F L (Rd (f a))) : Cb ε q (fun a => [Ra a]) (fun a => pur (f a)) Rd :=
  cb1 fun a v F L hx Q X q1 => ⟨f a, q1, h a v F L hx⟩

theorem cv {v : V} {F : Hp} {L : Cells} {R : VP} [Mono R] {σ : L2.St} (h : R v F) : Run (tCons (tC v) tNil σ) F L (Each [R]) := r_cons (r_c h) r_nil
theorem c_lenT [∀ a, Mono (R a)] : Cb ε (rLn K) (fun xs => [fTp K R xs]) (fun xs => pur xs.length) (fD K dN) :=
  cb1p fun xs v F L hx => r_is (r_lnT (cv (R := Tp K (xs.map R)) hx)) (by rw [List.length_map]; rfl)
theorem c_lenL [∀ a, Mono (R a)] : Cb ε (rLn K) (fun xs => [fLn R xs]) (fun xs => pur xs.length) (fD K dN) :=
  cb1p fun xs v F L hx => r_is (r_lnL (r_cons (r_ls (r_c (R := Ln (xs.map R)) hx)) r_nil)) (by rw [List.length_map]; rfl)
theorem c_lenDT {d : α → PyData} : Cb ε (rLn K) (fun xs => [fD K (dT d) xs]) (fun xs => pur xs.length) (fD K dN) :=
  cb1p fun xs v F L hx => r_lnN (xs := xs) (f := d) (cv (R := Dt K (.tuple (xs.map d))) hx)
theorem c_lenDL {d : α → PyData} : Cb ε (rLn K) (fun xs => [fD K (dL d) xs]) (fun xs => pur xs.length) (fD K dN) :=
  cb1p fun xs v F L hx => r_is (r_lnLD (r_c (R := Dt K (.list (xs.map d))) hx)) (by rw [List.length_map]; rfl)
theorem c_all : Cb ε (rAll K) (fun xs => [fLn (fD K dB) xs]) (fun xs => pur (xs.all id)) (fD K dB) :=
  cb1p fun xs v F L hx => r_all (r_cons (r_ls (r_c (R := Ln (xs.map (fD K dB))) hx)) r_nil)
theorem c_listT [∀ a, Mono (R a)] : Cb ε (rListOf K) (fun xs => [fTp K R xs]) (fun xs => pur xs) (fLn R) := cb1p fun xs v F L hx => r_listT (cv (R := Tp K (xs.map R)) hx)
theorem c_tupL [∀ a, Mono (R a)] : Cb ε (rTupOf K) (fun xs => [fLn R xs]) (fun xs => pur xs) (fTp K R) := cb1p fun xs v F L hx => r_tupL (r_cons (r_ls (r_c (R := Ln (xs.map R)) hx)) r_nil)
theorem c_tupDL {d : α → PyData} : Cb ε (rTupOf K) (fun xs => [fD K (dL d) xs]) (fun xs => pur xs) (fD K (dT d)) := cb1p fun xs v F L hx => r_tupD (ds := xs.map d) (cv (R := Dt K (.list (xs.map d))) hx)
theorem sq_dL {xs : List Nat} {v : V} {F : Hp} (h : fD K (dL dN) xs v F) : ∃ a, v = .ref a ∧ SqL K F a ((cI xs).map V.int) := by
  have h' : Dt K (.list ((cI xs).map PyData.int)) v F := by
    have e : xs.map dN = (cI xs).map PyData.int := row_int (r := xs)
    rw [← e]; exact h
  cases h' with
  | lst s r => rw [vs_ints r] at s; exact ⟨_, rfl, s⟩
theorem c_sorted : Cb ε (rSorted K) (fun xs => [fD K (dL dN) xs]) (fun xs Q X => xs.length < 64 ∧ Q (sortN xs)) (fD K (dL dN)) :=
  cb1 fun xs v F L hx Q X ⟨q0, q1⟩ => ⟨_, q1, r_is (r_sortedI (R := fD K (dL dN) xs) (ns := cI xs) (cv hx) (fun v F1 h => sq_dL h) (by rw [List.length_map]; exact q0) (cI (sortN xs)) (sortN_perm.map _) (List.pairwise_map.mpr (sortN_asc.imp fun {a b} h => by show (a : Int) ≤ (b : Int); omega))) (by
    show PyData.list _ = PyData.list _
    exact congrArg PyData.list (row_int (r := sortN xs)).symm)⟩
theorem seq_any {xs : List Nat} {v : V} {F1 : Hp} (h : fD K (dL dN) xs v F1) : seqI (cI xs) v F1 K := by
  obtain ⟨a, h1, h2⟩ := sq_dL h
  exact ⟨a, h1, .inl h2⟩
theorem c_setL : Cb ε (rSetI K w) (fun xs => [fD K (dL dN) xs]) (fun xs Q X => xs.length ≤ 1000 ∧ Q xs) (fSet w) :=
  cb1 fun xs v F L hx Q X ⟨q0, q1⟩ => ⟨_, q1, r_set (R := fD K (dL dN) xs) (cv hx) (fun v F1 h => seq_any h) (by rw [List.length_map]; exact q0)⟩
theorem c_setT : Cb ε (rSetI K w) (fun xs => [fD K (dT dN) xs]) (fun xs Q X => xs.length ≤ 1000 ∧ Q xs) (fSet w) :=
  cb1 fun xs v F L hx Q X ⟨q0, q1⟩ => ⟨_, q1, r_set (R := fD K (dT dN) xs) (cv hx) (fun v F1 h => seqI_row h) (by rw [List.length_map]; exact q0)⟩
theorem mem_cI2 {r : List Nat} {k : Int} : k ∈ cI r ↔ ∃ n : Nat, k = n ∧ n ∈ r := by
  rw [cI, List.mem_map]
  exact ⟨fun ⟨a, h, e⟩ => ⟨a, e.symm, h⟩, fun ⟨a, h, e⟩ => ⟨a, e, h.symm⟩⟩
theorem sset_cI {xs : List Nat} (k : Int) : k ∈ cI (sset xs) ↔ k ∈ cI xs := by
  rw [mem_cI2, mem_cI2]
  exact ⟨fun ⟨n, h, e⟩ => ⟨n, h, mem_sset.mp e⟩, fun ⟨n, h, e⟩ => ⟨n, h, mem_sset.mpr e⟩⟩
theorem c_sortedSet : Cb ε (rSortedSet w) (fun xs => [fSet w xs]) (fun xs Q X => xs.length < 64 ∧ Q (sset xs)) (fD K (dL dN)) :=
  cb1 fun xs v F L hx Q X ⟨q0, q1⟩ => ⟨_, q1, r_is (r_sortedSet (w := w) (ns := cI xs) (cv (R := Rs.St w (cI xs)) hx) (by rw [List.length_map]; exact q0) (cI (sset xs)) (asc_cI asc_sset) sset_cI) (by
    show PyData.list _ = PyData.list _
    exact congrArg PyData.list (row_int (r := sset xs)).symm)⟩
theorem c_lenSet : Cb ε (rLenSet w) (fun xs => [fSet w xs]) (fun xs => pur (sset xs).length) (fD K dN) :=
  cb1p fun xs v F L hx => r_is (r_lenS (w := w) (ns := cI xs) (os := cI (sset xs)) (cv (R := Rs.St w (cI xs)) hx) ((asc_cI asc_sset).imp fun h => Int.ne_of_lt h) sset_cI) (by rw [List.length_map]; rfl)
theorem c_str : Cb ε (fun xs H Q => ∃ i, xs = [V.int i] ∧ i.natAbs.log2 < 1920 ∧ Q (.str (toString i)) H) (fun n => [fD K dN n]) (fun n Q X => n ≤ 1000 ∧ Q (strN n)) (fD K dS) :=
  cb1 fun n v F L hx Q X ⟨q0, q1⟩ => ⟨_, q1, r_strI (n := n) (cv (R := Dt K (nI n)) hx) q0⟩
theorem c_minN : Cb ε rMin2 (fun p : Nat × Nat => [fD K dN p.1, fD K dN p.2]) (fun p => pur (min p.1 p.2)) (fD K dN) := .of fun g vs F L hv Q X q1 => by
  obtain ⟨v, u, rfl, h1, h2⟩ := each2 hv
  exact ⟨_, q1, r_min2N (σ := []) (t := tCons (tC v) (tCons (tC u) tNil)) (K := K) (r_cons (r_c (R := Dt K (nI g.1)) h1) (r_cons (r_c (R := Dt K (nI g.2)) h2) r_nil))⟩
theorem c_maxN : Cb ε rMax2 (fun p : Nat × Nat => [fD K dN p.1, fD K dN p.2]) (fun p => pur (max p.1 p.2)) (fD K dN) := .of fun g vs F L hv Q X q1 => by
  obtain ⟨v, u, rfl, h1, h2⟩ := each2 hv
  exact ⟨_, q1, r_max2N (σ := []) (t := tCons (tC v) (tCons (tC u) tNil)) (K := K) (r_cons (r_c (R := Dt K (nI g.1)) h1) (r_cons (r_c (R := Dt K (nI g.2)) h2) r_nil))⟩
theorem tr_ty {T : String} : TrE Z ρ κ (tC (.ty T)) (pur ()) fun _ : Unit => Eqv (.ty T) := ⟨fun _ => inferInstance, fun σ F L s c Q X q => .of (run_ret fun F1 e => ⟨(), q, rfl⟩)⟩
theorem c_isi {T : String} : Cb ε (rIsi K) (fun p : PyData × Unit => [fD K dA p.1, Eqv (.ty T)]) (fun p Q X => ∃ b, kitB (tyName p.1) T = some b ∧ Q b) (fD K dB) := .of fun g vs F L hv Q X ⟨b, q0, q1⟩ => by
  obtain ⟨v, u, rfl, h1, h2⟩ := each2 hv
  exact ⟨_, q1, r_isiD (σ := []) (t := tCons (tC v) (tCons (tC u) tNil)) (K := K) (d := g.1) (r_cons (r_c (R := Dt K g.1) h1) (r_cons (r_c h2) r_nil)) q0⟩
theorem tr_listRg {mN : Wm ε Nat} (h : TrE Z ρ κ te mN (fD K dN)) : TrE Z ρ κ (tLstRg (tRg1 te)) (fun Q X => mN (fun n => n ≤ 1000 ∧ Q (List.range n)) X) (fD K (dL dN)) :=
  tr_lift (kk := fun te => tLstRg (tRg1 te)) (mf := fun n Q X => n ≤ 1000 ∧ Q (List.range n)) (fun _ _ _ _ => rfl) h fun n v F L hx Q X ⟨q0, q1⟩ => ⟨_, q1, r_listRg (r_c (R := Dt K (nI n)) hx) q0⟩
theorem tr_tupRg {mN : Wm ε Nat} (h : TrE Z ρ κ te mN (fD K dN)) : TrE Z ρ κ (tTupRg (tRg1 te)) (fun Q X => mN (fun n => n ≤ 1000 ∧ Q (List.range n)) X) (fD K (dT dN)) :=
  tr_lift (kk := fun te => tTupRg (tRg1 te)) (mf := fun n Q X => n ≤ 1000 ∧ Q (List.range n)) (fun _ _ _ _ => rfl) h fun n v F L hx Q X ⟨q0, q1⟩ => ⟨_, q1, r_tupRg (r_c (R := Dt K (nI n)) hx) q0⟩
theorem o_join : Op2 ε (fun x y H Q => rJoin K x [y] H Q) (fD K dS) (fD K (dL dS)) (fun a ys Q X => (ys.map (·.length)).sum + ys.length * a.length ≤ 16777216 ∧ Q (Txt.join a ys)) (fD K dS) := ⟨fun a ys x y F L hx hy Q X ⟨q0, q1⟩ => by
  cases hx
  have h := (r_join (σ := []) (L := L) (a := a) (r_c (R := Dt K (.str a)) (.str a)) (r_c (R := Dt K (.list (ys.map PyData.str))) hy) q0)
  intro F1 N H e A Qk qk
  exact (h F1 N H e A Qk fun v F2 H2 e2 A2 r => qk v F2 H2 e2 A2 ⟨_, q1, r⟩).2⟩
theorem tr_join {m1 : Wm ε Str} {m2 : Wm ε (List Str)} (ha : TrE Z ρ κ ta m1 (fD K dS)) (hb : TrE Z ρ κ tb m2 (fD K (dL dS))) :
    TrE Z ρ κ (tM1 (rJoin K) ta tb) (fun Q X => m1 (fun a => m2 (fun ys => (ys.map (·.length)).sum + ys.length * a.length ≤ 16777216 ∧ Q (Txt.join a ys)) X) X) (fD K dS) :=
  ⟨inferInstance, fun σ F L s c Q X q => rw_bind (k := ta σ) (ha.run σ F L s c _ X q) fun x F1 e1 ⟨a, q1, hx⟩ => by
    intro F2 N H e2 A wsh Qk qk
    refine ⟨by cases hx; exact ⟨a, rfl⟩, ?_⟩
    refine hb.run σ F1 L (satV_up e1 s) (satC_up e1 c) _ X q1 F2 N H e2 A wsh _ fun y F3 H3 e3 A3 ⟨ys, q3, hy⟩ => ?_
    exact o_join.run (ε := ε) a ys x y F3 L (Mono.go hx (e2.trans e3)) hy Q X q3 F3 N H3 (Same.refl _) A3 Qk fun v F4 H4 e4 A4 r => qk v F4 H4 (e3.trans e4) A4 r⟩
def orSW (a : Str) (m2 : Wm ε Str) : Wm ε Str := fun Q X => if a.length = 0 then m2 Q X else Q a
theorem orSW_p {a b : Str} {Q : Str → Prop} {X : ε → Prop} : orSW a (fun Q _ => Q b) Q X = Q (if a.length = 0 then b else a) := by
  unfold orSW; split <;> rfl
theorem tr_orS {m1 m2 : Wm ε Str} (ha : TrE Z ρ κ ta m1 (fD K dS)) (hb : TrE Z ρ κ tb m2 (fD K dS)) :
    TrE Z ρ κ (tOrS ta tb) (fun Q X => m1 (fun a => a.length ≤ 100000 ∧ orSW a m2 Q X) X) (fD K dS) :=
  ⟨inferInstance, fun σ F L s c Q X q => rw_bind (k := ta σ) (ha.run σ F L s c _ X q) fun x F1 e1 ⟨a, ⟨q0, q1⟩, hx⟩ => by
    cases hx
    intro F2 N H e2 A wsh Qk qk
    refine ⟨a, rfl, q0, ?_⟩
    unfold orSW at q1
    by_cases h : a.length = 0
    · rw [if_pos h] at q1 ⊢
      exact hb.run σ F1 L (satV_up e1 s) (satC_up e1 c) _ X q1 F2 N H e2 A wsh _ qk
    · rw [if_neg h] at q1 ⊢
      exact qk _ F2 H (Same.refl _) A ⟨a, q1, .str a⟩⟩
/-! f-strings -/
theorem tr_fmtN {mN : Wm ε Nat} (h : TrE Z ρ κ te mN (fD K dN)) : TrE Z ρ κ (tFmt te) (fun Q X => mN (fun n => n ≤ 1000 ∧ Q (strN n)) X) (fD K dS) :=
  tr_lift (kk := tFmt) (mf := fun n Q X => n ≤ 1000 ∧ Q (strN n)) (fun _ _ _ _ => rfl) h fun n v F L hx Q X ⟨q0, q1⟩ => ⟨_, q1, r_fmtI (n := n) (r_c (R := Dt K (nI n)) hx) q0⟩
theorem tr_fmtS {mS : Wm ε Str} (h : TrE Z ρ κ te mS (fD K dS)) : TrE Z ρ κ (tFmt te) (fun Q X => mS (fun n => n.length ≤ 100000 ∧ Q n) X) (fD K dS) :=
  tr_lift (kk := tFmt) (mf := fun (n : Str) Q X => n.length ≤ 100000 ∧ Q n) (fun _ _ _ _ => rfl) h fun n v F L hx Q X ⟨q0, q1⟩ => ⟨_, q1, r_fmtS (r_c (R := Dt K (.str n)) hx) q0⟩
structure TrJ (Z : Wsh ε) (ρ : List (Option VP)) (κ : List Ow) (ts : List TE) (m : Str → Wm ε Str) : Prop where
  run : ∀ acc σ F L, SatV ρ σ F → SatC κ σ F L → ∀ Q X, m acc Q X → RunW Z (fun H Q => tJs ts acc σ H Q) F L (fun o _ => Q o) X
theorem tj_nil : TrJ Z ρ κ [] fun acc => pur acc := ⟨fun acc σ F L s c Q X q => rw_ret fun _ _ => q⟩
theorem tj_cons {mS : Wm ε Str} {mr : Str → Wm ε Str} {ts : List TE} (h : TrE Z ρ κ te mS (fD K dS)) (r : TrJ Z ρ κ ts mr) : TrJ Z ρ κ (te :: ts) fun acc Q X => mS (fun y => (acc ++ y).length ≤ 100000 ∧ mr (acc ++ y) Q X) X :=
  ⟨fun acc σ F L s c Q X q => by
    have hcons := fun y F1 (hy : Dt K (.str y) (.str y) F1) => hy
    intro F1 N H e A wsh Qk qk
    show te σ H _
    refine h.run σ F L s c _ X q F1 N H e A wsh _ fun x F2 H2 e2 A2 ⟨y, ⟨q0, q1⟩, hx⟩ => ?_
    cases hx
    refine ⟨y, rfl, len_ok q0, ?_⟩
    exact r.run (acc ++ y) σ F2 L (satV_up (e.trans e2) s) (satC_up (e.trans e2) c) Q X q1 F2 N H2 (Same.refl _) A2 (wsh.up e2) Qk fun o F3 H3 e3 A3 r => qk o F3 H3 (e2.trans e3) A3 r⟩
theorem tr_js {ts : List TE} {mf : Str → Wm ε Str} (h : TrJ Z ρ κ ts mf) : TrE Z ρ κ (fun σ H (Q : VK) => tJs ts Str.empty σ H fun out H1 => Q (V.str out) H1) (mf Str.empty) (fD K dS) :=
  ⟨inferInstance, fun σ F L s c Q X q => rw_bind (k := fun H Q => tJs ts Str.empty σ H Q) (k2 := fun out H1 Q => Q (V.str out) H1) (h.run Str.empty σ F L s c Q X q) fun o F1 e1 q1 => rw_ret fun _ _ => ⟨o, q1, Dp.str o⟩⟩
end
end Tw

/-! Tw3: what is walked, targets, comprehensions, statements. -/
namespace Tw
open PySem PySem.Spec PyProof.Rows L2 SlX StX Rs Ma
/-- each with its place -/
def enumL {α : Type} (xs : List α) : List (Nat × α) := xs.zipIdx.map fun p => (p.2, p.1)
section
variable {ε α β γ δ S S1 : Type} {Z : Wsh ε} {ρ : List (Option VP)} {κ κ' : List Ow} {K : PySem.W.Frag} {w : World} {te ta tb tc : TE} {t : TA} {tt : TT} {wi : TI} {g g1 g2 : TG} {ma : Wm ε α} {mb : Wm ε β} {m : Wm ε α} {ml : Wm ε (List α)} {Ra R : α → VP} {Rb : β → VP} {Rd : δ → VP} {i j : Nat}
/-! ### what is walked -/
theorem tI_of (wi' : TE → TI) {Rl : List α → VP} [∀ a, Mono (R a)] (h : TrE Z ρ κ te ml Rl) (i : ∀ xs v σ F L, Rl xs v F → Run (wi' (tC v) σ) F L (fun J F1 => Seqs J (xs.map R) F1)) (hk : ∀ te σ H Q, wi' te σ H Q = te σ H fun x H1 => wi' (tC x) σ H1 Q) : TrI Z ρ κ (wi' te) ml R :=
  ⟨inferInstance, fun σ F L s c Q X q => by
    have e : wi' te σ = fun H Q => te σ H fun x H1 => wi' (tC x) σ H1 Q := by
      funext H Q
      exact hk te σ H Q
    rw [e]
    exact rw_bind (k := te σ) (h.run σ F L s c Q X q) fun x F1 e1 ⟨xs, q1, hx⟩ => .of ((i xs x σ F1 L hx).weak fun J F2 e2 hJ => ⟨xs, q1, hJ⟩)⟩
theorem ti_tup [∀ a, Mono (R a)] (h : TrE Z ρ κ te ml (fTp K R)) : TrI Z ρ κ (iTup K te) ml R :=
  tI_of (iTup K) h (fun xs v σ F L hx => i_tup (r_c (R := Tp K (xs.map R)) hx)) fun _ _ _ _ => rfl
theorem ti_tupD {d : α → PyData} (h : TrE Z ρ κ te ml (fD K (dT d))) : TrI Z ρ κ (iTup K te) ml (fD K d) := ti_tup (tr_dTp h)
theorem ti_lst [∀ a, Mono (R a)] (h : TrE Z ρ κ te ml (fLn R)) : TrI Z ρ κ (iList K te) ml R :=
  tI_of (iList K) h (fun xs v σ F L hx => i_lst (r_ls (r_c (R := Ln (xs.map R)) hx))) fun _ _ _ _ => rfl
theorem ti_lstD {d : α → PyData} (h : TrE Z ρ κ te ml (fD K (dL d))) : TrI Z ρ κ (iList K te) ml (fD K d) :=
  tI_of (iList K) h (fun xs v σ F L hx => i_lstN (f := d) (r_c (R := Dt K (.list (xs.map d))) hx)) fun _ _ _ _ => rfl
theorem ti_rangeN {mN : Wm ε Nat} (h : TrE Z ρ κ te mN (fD K dN)) : TrI Z ρ κ (iRng1 (tCons te tNil)) (fun Q X => mN (fun n => n ≤ 1000 ∧ Q (List.range n)) X) (fD K dN) :=
  ⟨inferInstance, fun σ F L s c Q X q => rw_bind (k := te σ) (k2 := fun x H Q => iRng1 (tCons (tC x) tNil) σ H Q) (h.run σ F L s c _ X q) fun x F1 e1 ⟨n, ⟨q0, q1⟩, hx⟩ => .of (Run.weak (i_rangeN (n := n) (r_c (R := Dt K (nI n)) hx) q0) fun J F2 e2 hJ => ⟨_, q1, hJ⟩)⟩
theorem ti_rangeI {mN : Wm ε Int} (h : TrE Z ρ κ te mN (fD K dInt)) : TrI Z ρ κ (iRng1 (tCons te tNil)) (fun Q X => mN (fun n => (n ≤ 1000 ∧ -1000 ≤ n) ∧ Q (List.range n.toNat)) X) (fD K dN) :=
  ⟨inferInstance, fun σ F L s c Q X q => rw_bind (k := te σ) (k2 := fun x H Q => iRng1 (tCons (tC x) tNil) σ H Q) (h.run σ F L s c _ X q) fun x F1 e1 ⟨n, ⟨q0, q1⟩, hx⟩ => .of (Run.weak (i_range (n := n) (K := K) (r_cons (r_c (R := Dt K (.int n)) hx) r_nil) (by omega) (by omega)) fun J F2 e2 hJ => ⟨_, q1, hJ⟩)⟩
theorem seqs_range2 {a : Nat} {n : Nat} {F1 : Hp} : Seqs (Itr (a : Int) n) ((List.range' a n).map (fD K dN)) F1 := by
  rw [Seqs, List.length_map, List.length_range']
  refine ⟨_, _, walk_range, fun F2 L H e A => True.intro, fun F2 L H i x H' e A hi y => ?_⟩
  obtain ⟨rfl, rfl⟩ := y
  refine ⟨F2, fD K dN (a + i), Same.refl _, A, by simp [hi], ?_⟩
  show Dp K F2 (.int ((a : Int) + (i : Int))) (.int ((a + i : Nat) : Int))
  rw [Int.natCast_add]
  exact .int _
theorem ti_range2N {m1 m2 : Wm ε Nat} (ha : TrE Z ρ κ ta m1 (fD K dN)) (hb : TrE Z ρ κ tb m2 (fD K dN)) : TrI Z ρ κ (iRng2 (tCons ta (tCons tb tNil))) (fun Q X => m1 (fun a => m2 (fun b => (a ≤ 100000 ∧ b ≤ 100000) ∧ Q (List.range' a (b - a))) X) X) (fD K dN) :=
  ⟨inferInstance, fun σ F L s c Q X q => rw_bind (k := tCons ta (tCons tb tNil) σ) ((ta_cons ha (ta_one hb)).run σ F L s c (fun p => (p.1 ≤ 100000 ∧ p.2 ≤ 100000) ∧ Q (List.range' p.1 (p.2 - p.1))) X q) fun vs F1 e1 ⟨p, ⟨q0, q1⟩, hx⟩ => by
    obtain ⟨v, u, rfl, h1, h2⟩ := each2 hx
    obtain ⟨a, b⟩ := p
    cases h1; cases h2
    have q0' : a ≤ 100000 ∧ b ≤ 100000 := q0
    have e : ((b : Int) - (a : Int)).toNat = b - a := by omega
    refine .of (run_ex (a : Int) (run_ex (b : Int) (run_and (fun _ _ _ _ _ => rfl) (run_and (fun _ _ _ _ _ => by omega) ?_))))
    rw [e]
    exact run_ret fun F2 e2 => ⟨_, q1, seqs_range2⟩⟩
theorem enum_map {f : α → VP} {xs : List α} : (enumL xs).map (fP K (fD K dN) f) = Pairs K (xs.map f) := by
  rw [pairs_map, enumL, List.map_map]
  rfl
theorem ti_enumT [∀ a, Mono (R a)] (h : TrE Z ρ κ te ml (fTp K R)) : TrI Z ρ κ (iEnumT K (tCons te tNil)) (fun Q X => ml (fun xs => Q (enumL xs)) X) (fP K (fD K dN) R) :=
  ⟨inferInstance, fun σ F L s c Q X q => rw_bind (k := te σ) (k2 := fun x H Q => iEnumT K (tCons (tC x) tNil) σ H Q) (h.run σ F L s c _ X q) fun x F1 e1 ⟨xs, q1, hx⟩ => .of (Run.weak (i_enumT (Rs := xs.map R) (r_cons (r_c (R := Tp K (xs.map R)) hx) r_nil)) fun J F2 e2 hJ => ⟨_, q1, by rw [enum_map]; exact hJ⟩)⟩
theorem TrI.conv {R' : α → VP} (h : TrI Z ρ κ wi ml R) [∀ a, Mono (R' a)] (e : R = R') : TrI Z ρ κ wi ml R' := by subst e; exact h

/-! ### targets -/
structure TrG (g : TG) (Rx : β → VP) (js : List Nat) (up : β → List (Option VP) → List (Option VP)) : Prop where
  run : ∀ x v σ F ρ N H, SatV ρ σ F → Rx x v F → At F N H → ∀ Q : L2.St → Hp → Prop, (∀ σ2, (∀ i, i ∉ js → σ2[i]? = σ[i]?) → SatV (up x ρ) σ2 F → Q σ2 H) → g v σ H Q
theorem tg_name (j : Nat) [m : ∀ a, Mono (R a)] : TrG (gName j) R [j] fun x ρ => st ρ j (some (R x)) :=
  ⟨fun x v σ F ρ N H s hx A Q q => q _ (fun i hi => List.getElem?_set_ne fun z => hi (by rw [z]; exact List.mem_singleton.mpr rfl)) (satV_set hx (m x) s)⟩
theorem tg_pair {js1 js2 : List Nat} {up1 : α → List (Option VP) → List (Option VP)} {up2 : β → List (Option VP) → List (Option VP)} (h1 : TrG g1 R js1 up1) (h2 : TrG g2 Rb js2 up2) :
    TrG (gTup K 2 (gCons g1 (gCons g2 gNil))) (fP K R Rb) (js1 ++ js2) fun p ρ => up2 p.2 (up1 p.1 ρ) :=
  ⟨fun x v σ F ρ N H s hx A Q q => by
    obtain ⟨a, vs, rfl, hs, hr⟩ := hx
    obtain ⟨v1, v2, rfl, r1, r2⟩ := each2 hr
    refine ⟨a, [v1, v2], rfl, sqT_up A.ex hs, rfl, v1, [v2], rfl, h1.run x.1 v1 σ F ρ N H s r1 A _ fun σ1 a1 s1 => ⟨v2, [], rfl, h2.run x.2 v2 σ1 F _ N H s1 r2 A _ fun σ2 a2 s2 => ⟨rfl, q σ2 (fun i hi => ?_) s2⟩⟩⟩
    rw [List.mem_append, not_or] at hi
    rw [a2 i hi.2, a1 i hi.1]⟩
theorem TrG.conv {js : List Nat} {up : α → List (Option VP) → List (Option VP)} {R' : α → VP} (h : TrG g R js up) (e : ∀ a v F, R' a v F → R a v F) : TrG g R' js up :=
  ⟨fun x v σ F ρ N H s hx A Q q => h.run x v σ F ρ N H s (e _ _ _ hx) A Q q⟩
theorem tg_pairD {d : α → PyData} {e : β → PyData} {js1 js2 : List Nat} {up1 : α → List (Option VP) → List (Option VP)} {up2 : β → List (Option VP) → List (Option VP)} (h1 : TrG g1 (fD K d) js1 up1) (h2 : TrG g2 (fD K e) js2 up2) :
    TrG (gTup K 2 (gCons g1 (gCons g2 gNil))) (fD K (dP d e)) (js1 ++ js2) fun p ρ => up2 p.2 (up1 p.1 ρ) := (tg_pair h1 h2).conv fun _ _ _ => rP_dP.mpr
theorem wipe_agree {σ σ2 : L2.St} {js : List Nat} (hl : σ2.length = σ.length) (ag : ∀ i, i ∉ js → σ2[i]? = σ[i]?) : ∀ {vs : List Nat}, (js.all fun j => vs.contains j) = true → wipe σ2 vs = wipe σ vs := by
  have key : ∀ (vs : List Nat) (σ : L2.St) (i : Nat), (wipe σ vs)[i]? = if i ∈ vs then (if i < σ.length then some none else none) else σ[i]? := by
    intro vs
    induction vs with
    | nil => intro σ i; simp [wipe]
    | cons v vs ih =>
      intro σ i
      unfold wipe
      by_cases h : v = i
      · subst h
        rw [List.getElem?_set_self', ih]
        by_cases h2 : v ∈ vs
        · by_cases h3 : v < σ.length <;> simp [h2, h3]
        · by_cases h3 : v < σ.length <;> simp [h2, h3]
      · rw [List.getElem?_set_ne h, ih]
        have h' : ¬ i = v := fun z => h z.symm
        simp [h']
  intro vs h
  apply List.ext_getElem?
  intro i
  rw [key, key]
  by_cases hi : i ∈ vs
  · rw [if_pos hi, if_pos hi, hl]
  · rw [if_neg hi, if_neg hi]
    refine ag i fun z => hi ?_
    have := List.all_eq_true.mp h i z
    simpa using this
theorem sat_len : ∀ {ρ σ F}, SatV ρ σ F → ρ.length = σ.length
  | [], [], _, _ => rfl
  | none :: ρ, _ :: σ, F, h => by rw [List.length_cons, List.length_cons, sat_len (ρ := ρ) (σ := σ) h]
  | some _ :: ρ, _ :: σ, F, h => by rw [List.length_cons, List.length_cons, sat_len (ρ := ρ) (σ := σ) h.2]
  | [], _ :: _, _, h => h.elim
  | none :: _, [], _, h => h.elim
  | some _ :: _, [], _, h => h.elim
theorem st_len : ∀ {ρ i o}, (st ρ i o).length = ρ.length
  | [], _, _ => rfl
  | _ :: ρ, 0, _ => rfl
  | _ :: ρ, i + 1, o => by rw [st, List.length_cons, List.length_cons, st_len]
theorem wipeE_len {ρ : List (Option VP)} : ∀ {vs}, (wipeE ρ vs).length = ρ.length
  | [] => rfl
  | v :: vs => by rw [wipeE, st_len, wipeE_len]

/-! ### lists of one's own that come to be -/
structure TrN (Z : Wsh ε) (ρ : List (Option VP)) (κ : List Ow) (te : TE) (m : Wm ε (List α)) (R : α → VP) : Prop where
  mono : ∀ a, Mono (R a)
  run : ∀ σ F L, SatV ρ σ F → SatC κ σ F L → ∀ Q X, m Q X → ∀ F1 N H, Same F F1 → At F1 (L ++ N) H → WishOk Z F1 N X → ∀ Qk : VK, (∀ a vs F2 H2 xs, Same F1 F2 → At F2 ((a, .lst vs) :: (L ++ N)) H2 → Each (xs.map R) vs F2 → Q xs → Qk (.ref a) H2) → te σ H Qk
/-- it stays -/
theorem TrN.e (h : TrN Z ρ κ te ml R) : TrE Z ρ κ te ml (fLn R) :=
  have := h.mono
  ⟨inferInstance, fun σ F L s c Q X q F1 N H e A wsh Qk qk => h.run σ F L s c Q X q F1 N H e A wsh Qk fun a vs F2 H2 xs e2 A2 r q1 =>
    qk _ _ _ (e2.trans (same_new A2.off1)) A2.keep ⟨xs, q1, a, vs, rfl, upd_same, MonoL.mono _ _ _ (same_new A2.off1) r⟩⟩
theorem tn_lst [∀ a, Mono (R a)] (h : TrA Z ρ κ t ml fun xs => xs.map R) : TrN Z ρ κ (tLst t) (fun Q X => ml (fun xs => xs.length ≤ 100000 ∧ Q xs) X) R :=
  ⟨inferInstance, fun σ F L s c Q X q F1 N H e A wsh Qk qk => h.run σ F L s c _ X q F1 N H e A wsh _ fun vs F2 H2 e2 A2 ⟨xs, ⟨q0, q1⟩, r⟩ =>
    ⟨len_ok (by rw [each_length r, List.length_map]; exact q0), fun p hp => qk p vs F2 _ xs e2 (A2.cell hp) r q1⟩⟩
theorem tn_listT [∀ a, Mono (R a)] (h : TrE Z ρ κ te ml (fTp K R)) : TrN Z ρ κ (tCB (rListOf K) (tCons te tNil)) ml R :=
  ⟨inferInstance, fun σ F L s c Q X q F1 N H e A wsh Qk qk => h.run σ F L s c _ X q F1 N H e A wsh _ fun v F2 H2 e2 A2 ⟨xs, q1, a, vs, ev, hs, r⟩ => by
    subst ev
    exact ⟨a, vs, rfl, .inr (sqT_up A2.ex hs), fun l hl => qk l vs F2 _ xs e2 (A2.cell hl) r q1⟩⟩
theorem tn_listL [∀ a, Mono (R a)] (h : TrE Z ρ κ te ml (fLn R)) : TrN Z ρ κ (tCB (rListOf K) (tCons te tNil)) ml R :=
  ⟨inferInstance, fun σ F L s c Q X q F1 N H e A wsh Qk qk => h.run σ F L s c _ X q F1 N H e A wsh _ fun v F2 H2 e2 A2 ⟨xs, q1, a, vs, ev, hs, r⟩ => by
    subst ev
    exact ⟨a, vs, rfl, .inl (.inl (.inl (A2.ex _ _ hs))), fun l hl => qk l vs F2 _ xs e2 (A2.cell hl) r q1⟩⟩
/-- a comprehension, one behind the other -/
def lcW (mc : β → Wm ε Bool) (me : β → Wm ε δ) : List β → Wm ε (List δ)
  | [], Q, _ => Q []
  | x :: xs, Q, X => mc x (fun b => if b = true then me x (fun y => lcW mc me xs (fun ys => Q (y :: ys)) X) X else lcW mc me xs Q X) X
theorem drop_at {xs : List β} {i : Nat} {x : β} (h : xs[i]? = some x) : xs.drop i = x :: xs.drop (i + 1) := by
  obtain ⟨hl, hx⟩ := List.getElem?_eq_some_iff.mp h
  rw [List.drop_eq_getElem_cons hl, hx]
theorem tn_lc {vs js : List Nat} {up : β → List (Option VP) → List (Option VP)} {mi : Wm ε (List β)} {mc : β → Wm ε Bool} {me : β → Wm ε δ} {Rx : β → VP} [∀ d, Mono (Rd d)] (hi : TrI Z ρ κ wi mi Rx) (hg : TrG g Rx js up) (hj : (js.all fun j => vs.contains j) = true) (fc : freeCs vs κ = true) (fj : freeCs js κ = true)
    (hc : ∀ x, TrT Z (up x (wipeE ρ vs)) κ tt (mc x)) (he : ∀ x, TrE Z (up x (wipeE ρ vs)) κ te (me x) Rd) (hlen : ∀ x, (up x (wipeE ρ vs)).length = ρ.length) :
    TrN Z ρ κ (tLc wi g tt te vs) (fun Q X => mi (fun xs => xs.length ≤ 40000 ∧ lcW mc me xs Q X) X) Rd :=
  ⟨inferInstance, fun σ F L s c Q X q F1 N H e A wsh Qk qk => hi.run σ F L s c _ X q F1 N H e A wsh _ fun J F2 H2 e2 A2 ⟨xs, ⟨hz, q1⟩, ⟨G, Y, wk, hG, hY⟩⟩ D hD => by
    have hl := sat_len s
    rw [List.length_map] at wk
    refine lc_it wk (Qd := fun H => Qk (.ref D) H) (fun i H' => ∃ F' acc ys, Same F2 F' ∧ At F' ((D, .lst acc) :: (L ++ N)) H' ∧ Each (ys.map Rd) acc F' ∧ ys.length ≤ i ∧ lcW mc me (xs.drop i) (fun zs => Q (ys ++ zs)) X) ⟨F2, [], [], Same.refl _, A2.cell hD, (show Each [] [] F2 from True.intro), Nat.le_refl _, q1⟩
      (fun i H' _ ⟨F', acc, ys, e', A', _⟩ => hG F' _ H' e' A') ?_ ?_
    · rintro i x H3 H4 hi ⟨F', acc, ys, e', A', hacc, hyl, q2⟩ y
      obtain ⟨F3, R, e3, A3, hR, hx⟩ := hY F' _ H3 i x H4 e' A' (by rw [List.length_map]; exact hi) y
      rw [List.getElem?_map] at hR
      have hxi : xs[i]? = some xs[i] := List.getElem?_eq_getElem hi
      rw [hxi] at hR
      cases hR
      rw [drop_at hxi, lcW] at q2
      have P0 : ((D, HO.lst acc) :: (L ++ N)).Perm (L ++ ((D, .lst acc) :: N)) := List.perm_middle.symm
      have e13 : Same F F3 := ((e.trans e2).trans e').trans e3
      have s3 := satV_up e13 s
      have c3 := satC_up e13 c
      have w3 : WishOk Z F3 ((D, HO.lst acc) :: N) X := (wsh.up ((e2.trans e').trans e3)).push1
      refine hg.run xs[i] x (wipe σ vs) F3 (wipeE ρ vs) _ H4 (satV_wipe s3 vs) hx A3 _ fun σ2 ag s4 => ⟨?_, ?_⟩
      · have h1 : σ2.length = (wipe σ vs).length := by
          rw [← sat_len s4, hlen, wipe_length, hl]
        rw [wipe_agree h1 ag hj]
        apply List.ext_getElem?
        intro i
        have key := wipe_agree (σ := σ) (σ2 := wipe σ vs) (js := vs) (wipe_length _ _) (fun i hi => by
          cases h : (wipe σ vs)[i]? with
          | none =>
            have : σ.length ≤ i := by
              have := List.getElem?_eq_none_iff.mp h
              rwa [wipe_length] at this
            exact (List.getElem?_eq_none_iff.mpr this).symm
          | some o =>
            have hkey : ∀ (vs : List Nat) (i : Nat), i ∉ vs → (wipe σ vs)[i]? = σ[i]? := by
              intro vs
              induction vs with
              | nil => intro i _; rfl
              | cons v vs ih =>
                intro i hi
                rw [List.mem_cons, not_or] at hi
                rw [wipe, List.getElem?_set_ne (fun z => hi.1 z.symm), ih i hi.2]
            rw [← h, hkey vs i hi]) (vs := vs) (by rw [List.all_eq_true]; intro x hx; simpa using hx)
        rw [key]
      · have c4 : SatC κ σ2 F3 L := satC_agree ag fj (satC_wipe c3 fc)
        refine (hc xs[i]).run σ2 F3 L s4 c4 _ X q2 F3 _ H4 (Same.refl _) (A3.perm P0) w3 _ fun b F5 H5 e5 A5 q5 => ?_
        cases b with
        | true =>
          rw [if_pos rfl] at q5
          refine iteT ?_
          refine (he xs[i]).run σ2 F5 L (satV_up e5 s4) (satC_up e5 c4) _ X q5 F5 _ H5 (Same.refl _) A5 (w3.up e5) _ fun y F6 H6 e6 A6 ⟨d, q6, hy⟩ => ?_
          have A7 := A6.perm P0.symm
          have hla : acc.length = ys.length := by rw [each_length hacc, List.length_map]
          refine ⟨acc, A7.on1, len_lt (by omega), F6, acc ++ [y], ys ++ [d], ((e'.trans e3).trans e5).trans e6, A7.put, ?_, by rw [List.length_append]; show ys.length + 1 ≤ i + 1; omega, ?_⟩
          · rw [List.map_append]
            exact each_app (Mono.go hacc ((e3.trans e5).trans e6)) ⟨hy, True.intro⟩
          · have e9 : (fun zs => Q (ys ++ [d] ++ zs)) = fun zs => Q (ys ++ d :: zs) := by funext zs; rw [List.append_assoc]; rfl
            rw [e9]; exact q6
        | false =>
          rw [if_neg Bool.false_ne_true] at q5
          exact iteF ⟨F5, acc, ys, (e'.trans e3).trans e5, A5.perm P0.symm, Mono.go hacc (e3.trans e5), Nat.le_succ_of_le hyl, q5⟩
    · rintro H3 ⟨F', acc, ys, e', A', hacc, hyl, q2⟩
      rw [List.drop_length, lcW, List.append_nil] at q2
      exact qk D acc F' H3 ys (e2.trans e') A' hacc q2⟩
theorem tr_lc {vs js : List Nat} {up : β → List (Option VP) → List (Option VP)} {mi : Wm ε (List β)} {mc : β → Wm ε Bool} {me : β → Wm ε δ} {Rx : β → VP} [∀ d, Mono (Rd d)] (hi : TrI Z ρ κ wi mi Rx) (hg : TrG g Rx js up) (hj : (js.all fun j => vs.contains j) = true) (fc : freeCs vs κ = true) (fj : freeCs js κ = true)
    (hlen : ∀ x, (up x (wipeE ρ vs)).length = ρ.length) (hc : ∀ x, TrT Z (up x (wipeE ρ vs)) κ tt (mc x)) (he : ∀ x, TrE Z (up x (wipeE ρ vs)) κ te (me x) Rd) :
    TrE Z ρ κ (tLc wi g tt te vs) (fun Q X => mi (fun xs => xs.length ≤ 40000 ∧ lcW mc me xs Q X) X) (fLn Rd) := (tn_lc hi hg hj fc fj hc he hlen).e
theorem lcW_pure {f : β → Bool} {h : β → δ} {Q : List δ → Prop} {X : ε → Prop} : ∀ {xs : List β}, lcW (ε := ε) (fun x => pur (f x)) (fun x => pur (h x)) xs Q X ↔ Q ((xs.filter f).map h)
  | [] => Iff.rfl
  | x :: xs => by
    rw [lcW, List.filter_cons]
    cases f x with
    | true => exact lcW_pure (Q := fun ys => Q (h x :: ys))
    | false => exact lcW_pure
theorem lcW_p {f : β → Bool} {h : β → δ} {Q : List δ → Prop} {X : ε → Prop} {xs : List β} : lcW (ε := ε) (fun x Q _ => Q (f x)) (fun x Q _ => Q (h x)) xs Q X = Q ((xs.filter f).map h) := propext lcW_pure
theorem lcW_pt {h : β → δ} {Q : List δ → Prop} {X : ε → Prop} {xs : List β} : lcW (ε := ε) (fun x Q _ => Q true) (fun x Q _ => Q (h x)) xs Q X = Q (xs.map h) := by
  rw [lcW_p (f := fun _ => true), List.filter_eq_self.mpr fun _ _ => rfl]
/-- what is asked, by what each asks -/
theorem lcW_of {mc : β → Wm ε Bool} {me : β → Wm ε δ} {f : β → Bool} {h : β → δ} {X : ε → Prop} : ∀ {xs : List β} {Q : List δ → Prop}, (∀ x ∈ xs, ∀ Q : Bool → Prop, Q (f x) → mc x Q X) → (∀ x ∈ xs, f x = true → ∀ Q : δ → Prop, Q (h x) → me x Q X) → Q ((xs.filter f).map h) → lcW mc me xs Q X
  | [], Q, _, _, q => q
  | x :: xs, Q, hc, he, q => by
    rw [lcW]
    refine hc x List.mem_cons_self _ ?_
    rw [List.filter_cons] at q
    cases hf : f x with
    | true =>
      rw [hf, if_pos rfl] at q
      rw [if_pos rfl]
      exact he x List.mem_cons_self hf _ (lcW_of (fun y hy => hc y (List.mem_cons_of_mem _ hy)) (fun y hy => he y (List.mem_cons_of_mem _ hy)) q)
    | false =>
      rw [hf, if_neg Bool.false_ne_true] at q
      rw [if_neg Bool.false_ne_true]
      exact lcW_of (fun y hy => hc y (List.mem_cons_of_mem _ hy)) (fun y hy => he y (List.mem_cons_of_mem _ hy)) q
/-- without a test -/
theorem lcW_map {me : β → Wm ε δ} {h : β → δ} {X : ε → Prop} {xs : List β} {Q : List δ → Prop} (he : ∀ x ∈ xs, ∀ Q : δ → Prop, Q (h x) → me x Q X) (q : Q (xs.map h)) : lcW (fun _ Q _ => Q true) me xs Q X :=
  lcW_of (f := fun _ => true) (fun _ _ _ q => q) (fun x hx _ => he x hx) (by rw [List.filter_eq_self.mpr fun _ _ => rfl]; exact q)
/-- with demons: each one says P of what it gives -/
theorem lcW_all {me : β → Wm ε δ} {X : ε → Prop} : ∀ {xs : List β} {P : β → δ → Prop} {Q : List δ → Prop}, (∀ x ∈ xs, ∀ Q : δ → Prop, (∀ y, P x y → Q y) → me x Q X) → (∀ ys : List δ, ys.length = xs.length → (∀ (i : Nat) (x : β) (y : δ), xs[i]? = some x → ys[i]? = some y → P x y) → Q ys) → lcW (fun _ Q _ => Q true) me xs Q X
  | [], P, Q, _, q => q [] rfl fun i x y h => by simp at h
  | x :: xs, P, Q, he, q => by
    rw [lcW]
    show if true = true then _ else _
    rw [if_pos rfl]
    refine he x List.mem_cons_self _ fun y hy => lcW_all (P := P) (fun z hz => he z (List.mem_cons_of_mem _ hz)) fun ys hl h => q (y :: ys) (by rw [List.length_cons, List.length_cons, hl]) fun i a b h1 h2 => ?_
    cases i with
    | zero => cases h1; cases h2; exact hy
    | succ i => exact h i a b (by simpa using h1) (by simpa using h2)
end
end Tw

/-! Tw4: statements, defs. -/
namespace Tw
open PySem PySem.Spec PyProof.Rows L2 SlX StX Rs Ma
theorem leV_nil : leV [] [] := True.intro
theorem leV_none {o : Option VP} {ρ ρ' : List (Option VP)} (h : leV ρ ρ') : leV (o :: ρ) (none :: ρ') := by cases o <;> exact h
theorem leV_some {R : VP} {ρ ρ' : List (Option VP)} (h : leV ρ ρ') : leV (some R :: ρ) (some R :: ρ') := ⟨rfl, h⟩
theorem leV_refl : ∀ {ρ : List (Option VP)}, leV ρ ρ
  | [] => True.intro
  | none :: ρ => leV_refl (ρ := ρ)
  | some _ :: ρ => ⟨rfl, leV_refl (ρ := ρ)⟩
section
variable {ε α β γ δ S S1 S2 : Type} {Z : Wsh ε} {ρ ρ' : List (Option VP)} {κ κ' κ1 : List Ow} {K : PySem.W.Frag} {w : World} {te ta tb tc : TE} {t u : TS} {tg : TA} {tt : TT} {wi : TI} {g : TG} {ma : Wm ε α} {mb : Wm ε β} {m : Wm ε α} {ml : Wm ε (List α)} {Ra R : α → VP} {Rb : β → VP} {Rd : δ → VP} {i j : Nat}
  {ρ2 : S → List (Option VP)} {κ2 : S → List Ow} {ρ1 : S1 → List (Option VP)} {κ1s : S1 → List Ow}
/-- the last statement -/
theorem ts_one {mm : Ws ε S δ} (h : TrS Z ρ κ (tSeq t tNext) mm ρ2 κ2 Rd) : TrS Z ρ κ t mm ρ2 κ2 Rd := h
theorem ts_next (s : S) (hv : leV ρ (ρ2 s)) (hc : ∀ σ F L, SatC κ σ F L → SatC (κ2 s) σ F L) : TrS Z ρ κ tNext (fun Nx (_ : δ → Prop) _ => Nx s) ρ2 κ2 Rd :=
  ⟨fun σ F L sv sc Nx Rt X q F1 N H e A wsh D nx rt => nx σ F1 L H (Same.refl _) A ⟨s, q, satV_le hv (satV_up e sv), hc _ _ _ (satC_up e sc)⟩⟩
theorem ts_nextq {mm : Ws ε S δ} (h : TrS Z ρ κ u mm ρ2 κ2 Rd) : TrS Z ρ κ (tSeq tNext u) mm ρ2 κ2 Rd := h
theorem ts_asg {js : List Nat} {up : α → List (Option VP) → List (Option VP)} {mk : α → Ws ε S δ} (h : TrE Z ρ κ te m R) (hg : TrG g R js up) (fj : freeCs js κ = true) (k : ∀ a, TrS Z (up a ρ) κ u (mk a) ρ2 κ2 Rd) :
    TrS Z ρ κ (tSeq (tAsg te g) u) (fun Nx Rt X => m (fun a => mk a Nx Rt X) X) ρ2 κ2 Rd :=
  ⟨fun σ F L sv sc Nx Rt X q F1 N H e A wsh D nx rt => h.run σ F L sv sc _ X q F1 N H e A wsh _ fun v F2 H2 e2 A2 ⟨a, q1, hv⟩ =>
    hg.run a v σ F2 ρ _ H2 (satV_up (e.trans e2) sv) hv A2 _ fun σ2 ag s2 => (k a).run σ2 F2 L s2 (satC_agree ag fj (satC_up (e.trans e2) sc)) Nx Rt X q1 F2 N H2 (Same.refl _) A2 (wsh.up e2) D
      (fun σ3 F3 L3 H3 e3 A3 n => nx σ3 F3 L3 H3 (e2.trans e3) A3 n) fun v F3 H3 e3 A3 n => rt v F3 H3 (e2.trans e3) A3 n⟩
theorem ts_set {mk : α → Ws ε S δ} (i : Nat) (h : TrE Z ρ κ te m R) (f : freeCs [i] κ = true) (k : ∀ a, TrS Z (st ρ i (some (R a))) κ u (mk a) ρ2 κ2 Rd) :
    TrS Z ρ κ (tSeq (tAsg te (gName i)) u) (fun Nx Rt X => m (fun a => mk a Nx Rt X) X) ρ2 κ2 Rd :=
  have := h.mono
  ts_asg h (tg_name i) f k
theorem ts_par {i j : Nat} {mk : α × β → Ws ε S δ} (ha : TrE Z ρ κ ta ma Ra) (hb : TrE Z ρ κ tb mb Rb) (f : freeCs [i, j] κ = true) (k : ∀ p : α × β, TrS Z (st (st ρ i (some (Ra p.1))) j (some (Rb p.2))) κ u (mk p) ρ2 κ2 Rd) :
    TrS Z ρ κ (tSeq (tPar i j (tCons ta (tCons tb tNil))) u) (fun Nx Rt X => ma (fun a => mb (fun b => mk (a, b) Nx Rt X) X) X) ρ2 κ2 Rd :=
  ⟨fun σ F L sv sc Nx Rt X q F1 N H e A wsh D nx rt => by
    show tCons ta (tCons tb tNil) σ H (fun vs H1 => ∃ v w, vs = [v, w] ∧ u D ((σ.set i (some v)).set j (some w)) H1)
    refine (ta_cons ha (ta_one hb)).run σ F L sv sc (fun p => mk p Nx Rt X) X q F1 N H e A wsh _ fun vs F2 H2 e2 A2 ⟨p, q1, hv⟩ => ?_
    obtain ⟨v, v', rfl, h1, h2⟩ := each2 hv
    refine ⟨v, v', rfl, ?_⟩
    have c2 : SatC κ ((σ.set i (some v)).set j (some v')) F2 L := satC_agree (js := [i, j]) (fun l hl => by
      rw [List.mem_cons, List.mem_singleton, not_or] at hl
      rw [List.getElem?_set_ne (fun z => hl.2 z.symm), List.getElem?_set_ne (fun z => hl.1 z.symm)]) f (satC_up (e.trans e2) sc)
    exact (k p).run _ F2 L (satV_set h2 (hb.mono _) (satV_set h1 (ha.mono _) (satV_up (e.trans e2) sv))) c2 Nx Rt X q1 F2 N H2 (Same.refl _) A2 (wsh.up e2) D
      (fun σ3 F3 L3 H3 e3 A3 n => nx σ3 F3 L3 H3 (e2.trans e3) A3 n) fun v F3 H3 e3 A3 n => rt v F3 H3 (e2.trans e3) A3 n⟩
theorem ts_ret (h : TrE Z ρ κ te m R) : TrS Z ρ κ (tRet te) (fun (_ : S → Prop) Rt X => m Rt X) ρ2 κ2 R :=
  ⟨fun σ F L sv sc Nx Rt X q F1 N H e A wsh D nx rt => h.run σ F L sv sc _ X q F1 N H e A wsh _ fun v F2 H2 e2 A2 ⟨a, q1, hv⟩ => rt v F2 H2 e2 A2.drop ⟨a, q1, hv⟩⟩
theorem ts_retq (h : TrE Z ρ κ te m R) : TrS Z ρ κ (tSeq (tRet te) u) (fun (_ : S → Prop) Rt X => m Rt X) ρ2 κ2 R := ⟨(ts_ret h).run⟩
theorem ts_retN : TrS Z ρ κ tRetN (fun (_ : S → Prop) Rt X => Rt ()) ρ2 κ2 (fD K dU) :=
  ⟨fun σ F L sv sc Nx Rt X q F1 N H e A wsh D nx rt => rt .non F1 H (Same.refl _) A.drop ⟨(), q, .non⟩⟩
theorem ts_retNq : TrS Z ρ κ (tSeq tRetN u) (fun (_ : S → Prop) Rt X => Rt ()) ρ2 κ2 (fD K dU) := ⟨ts_retN.run⟩
theorem ts_drop {mk : Ws ε S δ} (h : TrE Z ρ κ te m R) (k : TrS Z ρ κ u mk ρ2 κ2 Rd) : TrS Z ρ κ (tSeq (tDrop te) u) (fun Nx Rt X => m (fun _ => mk Nx Rt X) X) ρ2 κ2 Rd :=
  ⟨fun σ F L sv sc Nx Rt X q F1 N H e A wsh D nx rt => h.run σ F L sv sc _ X q F1 N H e A wsh _ fun v F2 H2 e2 A2 ⟨a, q1, hv⟩ =>
    k.run σ F2 L (satV_up (e.trans e2) sv) (satC_up (e.trans e2) sc) Nx Rt X q1 F2 N H2 (Same.refl _) A2 (wsh.up e2) D (fun σ3 F3 L3 H3 e3 A3 n => nx σ3 F3 L3 H3 (e2.trans e3) A3 n) fun v F3 H3 e3 A3 n => rt v F3 H3 (e2.trans e3) A3 n⟩
theorem ts_if {mc : Wm ε Bool} {m1 m2 : Ws ε S δ} (h : TrT Z ρ κ tt mc) (h1 : TrS Z ρ κ t m1 ρ2 κ2 Rd) (h2 : TrS Z ρ κ u m2 ρ2 κ2 Rd) : TrS Z ρ κ (tIfS tt t u) (fun Nx Rt X => mc (fun b => if b = true then m1 Nx Rt X else m2 Nx Rt X) X) ρ2 κ2 Rd :=
  ⟨fun σ F L sv sc Nx Rt X q F1 N H e A wsh D nx rt => h.run σ F L sv sc _ X q F1 N H e A wsh _ fun b F2 H2 e2 A2 q1 => by
    cases b with
    | true =>
      rw [if_pos rfl] at q1
      exact iteT (h1.run σ F2 L (satV_up (e.trans e2) sv) (satC_up (e.trans e2) sc) Nx Rt X q1 F2 N H2 (Same.refl _) A2 (wsh.up e2) D (fun σ3 F3 L3 H3 e3 A3 n => nx σ3 F3 L3 H3 (e2.trans e3) A3 n) fun v F3 H3 e3 A3 n => rt v F3 H3 (e2.trans e3) A3 n)
    | false =>
      rw [if_neg Bool.false_ne_true] at q1
      exact iteF (h2.run σ F2 L (satV_up (e.trans e2) sv) (satC_up (e.trans e2) sc) Nx Rt X q1 F2 N H2 (Same.refl _) A2 (wsh.up e2) D (fun σ3 F3 L3 H3 e3 A3 n => nx σ3 F3 L3 H3 (e2.trans e3) A3 n) fun v F3 H3 e3 A3 n => rt v F3 H3 (e2.trans e3) A3 n)⟩
/-- an if, what follows in each of both -/
theorem ts_ifq {w' : TS} {mc : Wm ε Bool} {m1 m2 : Ws ε S δ} (h : TrT Z ρ κ tt mc) (h1 : TrS Z ρ κ (tSeq t w') m1 ρ2 κ2 Rd) (h2 : TrS Z ρ κ (tSeq u w') m2 ρ2 κ2 Rd) : TrS Z ρ κ (tSeq (tIfS tt t u) w') (fun Nx Rt X => mc (fun b => if b = true then m1 Nx Rt X else m2 Nx Rt X) X) ρ2 κ2 Rd :=
  ⟨fun σ F L sv sc Nx Rt X q F1 N H e A wsh D nx rt => h.run σ F L sv sc _ X q F1 N H e A wsh _ fun b F2 H2 e2 A2 q1 => by
    cases b with
    | true =>
      rw [if_pos rfl] at q1
      exact iteT (h1.run σ F2 L (satV_up (e.trans e2) sv) (satC_up (e.trans e2) sc) Nx Rt X q1 F2 N H2 (Same.refl _) A2 (wsh.up e2) D (fun σ3 F3 L3 H3 e3 A3 n => nx σ3 F3 L3 H3 (e2.trans e3) A3 n) fun v F3 H3 e3 A3 n => rt v F3 H3 (e2.trans e3) A3 n)
    | false =>
      rw [if_neg Bool.false_ne_true] at q1
      exact iteF (h2.run σ F2 L (satV_up (e.trans e2) sv) (satC_up (e.trans e2) sc) Nx Rt X q1 F2 N H2 (Same.refl _) A2 (wsh.up e2) D (fun σ3 F3 L3 H3 e3 A3 n => nx σ3 F3 L3 H3 (e2.trans e3) A3 n) fun v F3 H3 e3 A3 n => rt v F3 H3 (e2.trans e3) A3 n)⟩
/-- a block, then what follows -/
theorem ts_seq {m1 : Ws ε S1 δ} {m2 : S1 → Ws ε S δ} (h1 : TrS Z ρ κ t m1 ρ1 κ1s Rd) (h2 : ∀ s, TrS Z (ρ1 s) (κ1s s) u (m2 s) ρ2 κ2 Rd) : TrS Z ρ κ (tSeq t u) (fun Nx Rt X => m1 (fun s => m2 s Nx Rt X) Rt X) ρ2 κ2 Rd :=
  ⟨fun σ F L sv sc Nx Rt X q F1 N H e A wsh D nx rt => h1.run σ F L sv sc _ Rt X q F1 N H e A wsh { D with nx := u D } (fun σ2 F2 L2 H2 e2 A2 ⟨s, q1, sv1, sc1⟩ =>
    (h2 s).run σ2 F2 L2 sv1 sc1 Nx Rt X q1 F2 N H2 (Same.refl _) A2 (wsh.up e2) D (fun σ3 F3 L3 H3 e3 A3 n => nx σ3 F3 L3 H3 (e2.trans e3) A3 n) fun v F3 H3 e3 A3 n => rt v F3 H3 (e2.trans e3) A3 n) rt⟩
/-! ### loops -/
def forW (mb : S → β → Ws ε S δ) : List β → S → Ws ε S δ
  | [], s, Nx, _, _ => Nx s
  | x :: xs, s, Nx, Rt, X => mb s x (fun s' => forW mb xs s' Nx Rt X) Rt X
theorem ts_for {js : List Nat} {up : β → List (Option VP) → List (Option VP)} {mi : Wm ε (List β)} {Rx : β → VP} {mbd : S1 → β → Ws ε S1 δ} {mr : S1 → Ws ε S δ} (s0 : S1) (h0 : leV ρ (ρ1 s0)) (hc0 : ∀ σ F L, SatC κ σ F L → SatC (κ1s s0) σ F L)
    (hi : TrI Z ρ κ wi mi Rx) (hg : TrG g Rx js up) (fj : ∀ s, freeCs js (κ1s s) = true) (hb : ∀ s x, TrS Z (up x (ρ1 s)) (κ1s s) t (mbd s x) ρ1 κ1s Rd) (hr : ∀ s, TrS Z (ρ1 s) (κ1s s) u (mr s) ρ2 κ2 Rd) :
    TrS Z ρ κ (tSeq (tFor wi g t) u) (fun Nx Rt X => mi (fun xs => forW mbd xs s0 (fun s => mr s Nx Rt X) Rt X) X) ρ2 κ2 Rd :=
  ⟨fun σ F L sv sc Nx Rt X q F1 N H e A wsh D nx rt => hi.run σ F L sv sc _ X q F1 N H e A wsh _ fun J F2 H2 e2 A2 ⟨xs, q1, ⟨G, Y, wk, hG, hY⟩⟩ => by
    rw [List.length_map] at wk
    refine for_it wk (D := { D with nx := u D }) (fun i σ' H' => ∃ F' L' s, Same F2 F' ∧ At F' (L' ++ N) H' ∧ SatV (ρ1 s) σ' F' ∧ SatC (κ1s s) σ' F' L' ∧ forW mbd (xs.drop i) s (fun s => mr s Nx Rt X) Rt X) ⟨F2, L, s0, Same.refl _, A2, satV_le h0 (satV_up (e.trans e2) sv), hc0 _ _ _ (satC_up (e.trans e2) sc), q1⟩
      (fun i σ' H' _ ⟨F', L', s, e', A', _⟩ => hG F' _ H' e' A') ?_ ?_
    · rintro i x σ' H3 H4 hi ⟨F', L', s, e', A', sv', sc', q2⟩ y
      obtain ⟨F3, R, e3, A3, hR, hx⟩ := hY F' _ H3 i x H4 e' A' (by rw [List.length_map]; exact hi) y
      rw [List.getElem?_map] at hR
      have hxi : xs[i]? = some xs[i] := List.getElem?_eq_getElem hi
      rw [hxi] at hR
      cases hR
      rw [drop_at hxi, forW] at q2
      refine hg.run xs[i] x σ' F3 (ρ1 s) _ H4 (satV_up e3 sv') hx A3 _ fun σ2 ag s2 => ?_
      exact (hb s xs[i]).run σ2 F3 L' s2 (satC_agree ag (fj s) (satC_up e3 sc')) _ Rt X q2 F3 N H4 (Same.refl _) A3 (wsh.up ((e2.trans e').trans e3)) _
        (fun σ5 F5 L5 H5 e5 A5 ⟨s', q5, sv5, sc5⟩ => ⟨F5, L5, s', (e'.trans e3).trans e5, A5, sv5, sc5, q5⟩) fun v F5 H5 e5 A5 n => rt v F5 H5 (((e2.trans e').trans e3).trans e5) A5 n
    · rintro σ' H3 ⟨F', L', s, e', A', sv', sc', q2⟩
      rw [List.drop_length, forW] at q2
      exact (hr s).run σ' F' L' sv' sc' Nx Rt X q2 F' N H3 (Same.refl _) A' (wsh.up (e2.trans e')) D (fun σ3 F3 L3 H3 e3 A3 n => nx σ3 F3 L3 H3 ((e2.trans e').trans e3) A3 n) fun v F3 H3 e3 A3 n => rt v F3 H3 ((e2.trans e').trans e3) A3 n⟩
/-- by an invariant -/
theorem forW_inv {mbd : S → β → Ws ε S δ} {Nx : S → Prop} {Rt : δ → Prop} {X : ε → Prop} (Inv : Nat → S → Prop) : ∀ {xs : List β} {s : S}, Inv 0 s → (∀ i x s, xs[i]? = some x → Inv i s → mbd s x (Inv (i + 1)) Rt X) → (∀ s, Inv xs.length s → Nx s) →
    (∀ s x (P Q : S → Prop), (∀ s, P s → Q s) → mbd s x P Rt X → mbd s x Q Rt X) → forW mbd xs s Nx Rt X := by
  intro xs s h0 hs hd mono
  suffices H : ∀ (ys : List β) (i : Nat) (s : S), (∀ j, ys[j]? = xs[i + j]?) → ys.length + i = xs.length → Inv i s → forW mbd ys s Nx Rt X from H xs 0 s (fun j => by rw [Nat.zero_add]) rfl h0
  intro ys
  induction ys with
  | nil => intro i s hj hl h; exact hd s (by simp only [List.length_nil, Nat.zero_add] at hl; rwa [hl] at h)
  | cons y ys ih =>
    intro i s hj hl h
    rw [forW]
    have hy : xs[i]? = some y := by have := hj 0; simpa using this.symm
    exact mono s y _ _ (fun s' h' => ih (i + 1) s' (fun j => by have := hj (j + 1); rw [List.getElem?_cons_succ] at this; rw [this]; congr 1; omega) (by simp only [List.length_cons] at hl; omega) h') (hs i y s hy h)
/-- each turn is known -/
theorem forW_fold {mbd : S → β → Ws ε S δ} {f : S → β → S} {Nx : S → Prop} {Rt : δ → Prop} {X : ε → Prop} : ∀ {xs : List β} {s : S}, (∀ x ∈ xs, ∀ s P, P (f s x) → mbd s x P Rt X) → Nx (xs.foldl f s) → forW mbd xs s Nx Rt X
  | [], _, _, q => q
  | x :: xs, s, h, q => h x List.mem_cons_self s _ (forW_fold (fun y hy => h y (List.mem_cons_of_mem _ hy)) q)
/-- each turn is known where the invariant holds -/
theorem forW_at {mbd : S → β → Ws ε S δ} {f : Nat → S} {Nx : S → Prop} {Rt : δ → Prop} {X : ε → Prop} {xs : List β} (h : ∀ i x, xs[i]? = some x → ∀ P : S → Prop, P (f (i + 1)) → mbd (f i) x P Rt X) (q : Nx (f xs.length)) : forW mbd xs (f 0) Nx Rt X := by
  suffices H : ∀ (ys : List β) (i : Nat), (∀ j, ys[j]? = xs[i + j]?) → ys.length + i = xs.length → forW mbd ys (f i) Nx Rt X from H xs 0 (fun j => by rw [Nat.zero_add]) rfl
  intro ys
  induction ys with
  | nil => intro i hj hl; simp only [List.length_nil, Nat.zero_add] at hl; subst hl; exact q
  | cons y ys ih =>
    intro i hj hl
    rw [forW]
    have hy : xs[i]? = some y := by have := hj 0; simpa using this.symm
    exact h i y hy _ (ih (i + 1) (fun j => by have := hj (j + 1); rw [List.getElem?_cons_succ] at this; rw [this]; congr 1; omega) (by simp only [List.length_cons] at hl; omega))
theorem ts_while {mc : S1 → Wm ε Bool} {mbd : S1 → Ws ε S1 δ} {mr : S1 → Ws ε S δ} (s0 : S1) (h0 : leV ρ (ρ1 s0)) (hc0 : ∀ σ F L, SatC κ σ F L → SatC (κ1s s0) σ F L) (hc : ∀ s, TrT Z (ρ1 s) (κ1s s) tt (mc s)) (hb : ∀ s, TrS Z (ρ1 s) (κ1s s) t (mbd s) ρ1 κ1s Rd) (hr : ∀ s, TrS Z (ρ1 s) (κ1s s) u (mr s) ρ2 κ2 Rd) :
    TrS Z ρ κ (tSeq (tWhile tt t) u) (fun Nx Rt X => ∃ (I : Nat → S1 → Prop) (n : Nat), I n s0 ∧ ∀ n s, I n s → mc s (fun b => if b = true then mbd s (fun s' => ∃ n', n' < n ∧ I n' s') Rt X else mr s Nx Rt X) X) ρ2 κ2 Rd :=
  ⟨fun σ F L sv sc Nx Rt X ⟨I, n, i0, q⟩ F1 N H e A wsh D nx rt => by
    refine ⟨fun m σ' H' => ∃ F' L' s, Same F1 F' ∧ At F' (L' ++ N) H' ∧ SatV (ρ1 s) σ' F' ∧ SatC (κ1s s) σ' F' L' ∧ I m s, ⟨n, F1, L, s0, Same.refl _, A, satV_le h0 (satV_up e sv), hc0 _ _ _ (satC_up e sc), i0⟩, ?_⟩
    rintro m σ' H' ⟨F', L', s, e', A', sv', sc', im⟩
    refine (hc s).run σ' F' L' sv' sc' _ X (q m s im) F' N H' (Same.refl _) A' (wsh.up e') _ fun b F2 H2 e2 A2 q1 => ?_
    cases b with
    | true =>
      rw [if_pos rfl] at q1
      refine iteT ⟨fun σ2 H2 => ∃ F2 L2 m' s', m' < m ∧ Same F1 F2 ∧ At F2 (L2 ++ N) H2 ∧ SatV (ρ1 s') σ2 F2 ∧ SatC (κ1s s') σ2 F2 L2 ∧ I m' s', fun σ2 H2 ⟨F2, L2, m', s', hm, e3, A3, x1, x2, x3⟩ => ⟨m', hm, F2, L2, s', e3, A3, x1, x2, x3⟩, ?_⟩
      exact (hb s).run σ' F2 L' (satV_up e2 sv') (satC_up e2 sc') _ Rt X q1 F2 N H2 (Same.refl _) A2 (wsh.up (e'.trans e2)) _ (fun σ3 F3 L3 H3 e3 A3 ⟨s', ⟨m', hm, im'⟩, x1, x2⟩ => ⟨F3, L3, m', s', hm, (e'.trans e2).trans e3, A3, x1, x2, im'⟩) fun v F3 H3 e3 A3 n => rt v F3 H3 ((e'.trans e2).trans e3) A3 n
    | false =>
      rw [if_neg Bool.false_ne_true] at q1
      exact iteF ((hr s).run σ' F2 L' (satV_up e2 sv') (satC_up e2 sc') Nx Rt X q1 F2 N H2 (Same.refl _) A2 (wsh.up (e'.trans e2)) D (fun σ3 F3 L3 H3 e3 A3 n => nx σ3 F3 L3 H3 ((e'.trans e2).trans e3) A3 n) fun v F3 H3 e3 A3 n => rt v F3 H3 ((e'.trans e2).trans e3) A3 n)⟩
/-! ### lists of one's own -/
theorem ts_newC {mk : List α → Ws ε S δ} (i : Nat) (h : TrN Z ρ κ te ml R) (f : freeCs [i] κ = true) (hi : Nat.blt i ρ.length = true) (k : ∀ xs, TrS Z (st ρ i none) ((i, ownL (xs.map R)) :: κ) u (mk xs) ρ2 κ2 Rd) :
    TrS Z ρ κ (tSeq (tAsg te (gName i)) u) (fun Nx Rt X => ml (fun xs => mk xs Nx Rt X) X) ρ2 κ2 Rd :=
  have := h.mono
  ⟨fun σ F L sv sc Nx Rt X q F1 N H e A wsh D nx rt => h.run σ F L sv sc _ X q F1 N H e A wsh _ fun a vs F2 H2 xs e2 A2 r q1 => by
    have e12 := e.trans e2
    refine (k xs).run (σ.set i (some (.ref a))) F2 ((a, .lst vs) :: L) (satV_none (satV_up e12 sv)) ⟨a, .lst vs, L, rfl, ?_, fun F' e' => ⟨vs, rfl, MonoL.mono _ _ _ e' r⟩, satC_agree (js := [i]) (fun l hl => List.getElem?_set_ne fun z => hl (by rw [z]; exact List.mem_singleton.mpr rfl)) f (satC_up e12 sc)⟩ Nx Rt X q1 F2 N H2 (Same.refl _) A2 (wsh.up e2) D
      (fun σ3 F3 L3 H3 e3 A3 n => nx σ3 F3 L3 H3 (e2.trans e3) A3 n) fun v F3 H3 e3 A3 n => rt v F3 H3 (e2.trans e3) A3 n
    rw [List.getElem?_set_self (by rw [← sat_len sv]; exact Nat.le_of_ble_eq_true hi)]⟩
/-- what is one's own no more -/
theorem ts_dropC {c : Ow} {mm : Ws ε S δ} (h : TrS Z ρ κ t mm ρ2 κ2 Rd) : TrS Z ρ (c :: κ) t mm ρ2 κ2 Rd :=
  ⟨fun σ F L sv ⟨a, o, L', hL, h1, h2, h3⟩ Nx Rt X q F1 N H e A wsh D nx rt => by
    subst hL
    have P : ((a, o) :: L' ++ N).Perm (L' ++ ((a, o) :: N)) := (List.perm_middle (a := (a, o)) (l₁ := L') (l₂ := N)).symm
    refine h.run σ F L' sv h3 Nx Rt X q F1 ((a, o) :: N) H e (A.perm P) wsh.push1 D (fun σ3 F3 L3 H3 e3 A3 ⟨s, n1, n2, n3⟩ => ?_) fun v F3 H3 e3 A3 n => rt v F3 H3 e3 (At.tail A3) n
    refine nx σ3 F3 (L3 ++ [(a, o)]) H3 e3 ?_ ⟨s, n1, n2, satC_tail n3⟩
    rw [List.append_assoc]; exact A3⟩
theorem ts_perm2 {c d : Ow} {mm : Ws ε S δ} (h : TrS Z ρ (d :: c :: κ) t mm ρ2 κ2 Rd) : TrS Z ρ (c :: d :: κ) t mm ρ2 κ2 Rd :=
  ⟨fun σ F L sv ⟨a, o, L', hL, h1, h2, ⟨a', o', L'', hL', h1', h2', h3'⟩⟩ Nx Rt X q F1 N H e A wsh D nx rt => by
    subst hL hL'
    have P : ((a, o) :: (a', o') :: L'' ++ N).Perm ((a', o') :: (a, o) :: L'' ++ N) := List.Perm.swap _ _ _
    exact h.run σ F ((a', o') :: (a, o) :: L'') sv ⟨a', o', _, rfl, h1', h2', a, o, _, rfl, h1, h2, h3'⟩ Nx Rt X q F1 N H e (A.perm P) wsh D nx rt⟩
theorem ts_app {xs : List α} {mk : α → Ws ε S δ} (h : TrE Z ρ ((i, ownL (xs.map R)) :: κ) te m R) (k : ∀ a, TrS Z ρ ((i, ownL ((xs ++ [a]).map R)) :: κ) u (mk a) ρ2 κ2 Rd) :
    TrS Z ρ ((i, ownL (xs.map R)) :: κ) (tSeq (tDrop (tBM K "list" rAppend (tVar i) (tCons te tNil))) u) (fun Nx Rt X => m (fun a => xs.length < 100000 ∧ mk a Nx Rt X) X) ρ2 κ2 Rd :=
  have := h.mono
  ⟨fun σ F L sv sc Nx Rt X q F1 N H e A wsh D nx rt => by
    obtain ⟨a, o, L', hL, h1, h2, h3⟩ := sc
    obtain ⟨vs, ho, hv⟩ := h2 F (Same.refl _)
    subst hL ho
    refine ⟨.ref a, h1, .inl ⟨rfl, vs, .inl (.inl (A.on1))⟩, ?_⟩
    refine h.run σ F ((a, .lst vs) :: L') sv ⟨a, .lst vs, L', rfl, h1, h2, h3⟩ _ X q F1 N H e A wsh _ fun v F2 H2 e2 A2 ⟨x, ⟨hz, q1⟩, hx⟩ => ?_
    refine ⟨a, vs, v, rfl, rfl, A2.on1, len_lt (by rw [each_length hv, List.length_map]; exact hz), ?_⟩
    have e12 := e.trans e2
    have hv2 : Each ((xs ++ [x]).map R) (vs ++ [v]) F2 := by rw [List.map_append]; exact each_app (MonoL.mono _ _ _ e12 hv) ⟨hx, True.intro⟩
    exact (k x).run σ F2 ((a, .lst (vs ++ [v])) :: L') (satV_up e12 sv) ⟨a, _, L', rfl, h1, fun F' e' => ⟨_, rfl, MonoL.mono _ _ _ e' hv2⟩, satC_up e12 h3⟩ Nx Rt X q1 F2 N _ (Same.refl _) (At.put A2) (wsh.up e2) D
      (fun σ3 F3 L3 H3 e3 A3 n => nx σ3 F3 L3 H3 (e2.trans e3) A3 n) fun v F3 H3 e3 A3 n => rt v F3 H3 (e2.trans e3) A3 n⟩
/-- l[n] = x -/
theorem ts_putC {xs : List α} {mn : Wm ε Nat} {mk : α → Nat → Ws ε S δ} (h : TrE Z ρ ((i, ownL (xs.map R)) :: κ) te m R) (hn : TrE Z ρ ((i, ownL (xs.map R)) :: κ) tb mn (fD K dN)) (k : ∀ a n, TrS Z ρ ((i, ownL ((xs.set n a).map R)) :: κ) u (mk a n) ρ2 κ2 Rd) :
    TrS Z ρ ((i, ownL (xs.map R)) :: κ) (tSeq (tAsg te (gSub (tVar i) tb rSetL)) u) (fun Nx Rt X => m (fun a => mn (fun n => n < xs.length ∧ mk a n Nx Rt X) X) X) ρ2 κ2 Rd :=
  have := h.mono
  ⟨fun σ F L sv sc Nx Rt X q F1 N H e A wsh D nx rt => by
    obtain ⟨a, o, L', hL, h1, h2, h3⟩ := sc
    obtain ⟨vs, ho, hv⟩ := h2 F (Same.refl _)
    subst hL ho
    have sc0 : SatC ((i, ownL (xs.map R)) :: κ) σ F ((a, .lst vs) :: L') := ⟨a, .lst vs, L', rfl, h1, h2, h3⟩
    refine h.run σ F ((a, .lst vs) :: L') sv sc0 _ X q F1 N H e A wsh _ fun v F2 H2 e2 A2 ⟨x, q1, hx⟩ => ⟨.ref a, h1, ?_⟩
    have e12 := e.trans e2
    refine hn.run σ F2 ((a, .lst vs) :: L') (satV_up e12 sv) (satC_up e12 sc0) _ X q1 F2 N H2 (Same.refl _) A2 (wsh.up e2) _ fun y F3 H3 e3 A3 ⟨n, ⟨hz, q2⟩, hy⟩ => ?_
    cases hy
    have hl : vs.length = xs.length := by rw [each_length hv, List.length_map]
    have hz' : n < vs.length := by omega
    refine ⟨a, vs, (n : Int), n, rfl, rfl, A3.on1, by unfold ixN; rw [if_pos (by omega), if_pos (by omega)]; simp, ?_⟩
    have e13 := e12.trans e3
    have hv2 : Each ((xs.set n x).map R) (vs.set n v) F3 := by
      have hv3 : Each (xs.map R) vs F3 := MonoL.mono _ _ _ e13 hv
      have hx3 : R x v F3 := Mono.go hx e3
      have key : ∀ (xs : List α) (vs : List V) (n : Nat), Each (xs.map R) vs F3 → Each ((xs.set n x).map R) (vs.set n v) F3 := by
        intro xs
        induction xs with
        | nil => intro vs n h; cases vs with
          | nil => exact h
          | cons _ _ => exact h.elim
        | cons y ys ih => intro vs n h; cases vs with
          | nil => exact h.elim
          | cons u us => cases n with
            | zero => exact ⟨hx3, h.2⟩
            | succ n => exact ⟨h.1, ih us n h.2⟩
      exact key xs vs n hv3
    exact (k x n).run σ F3 ((a, .lst (vs.set n v)) :: L') (satV_up e13 sv) ⟨a, _, L', rfl, h1, fun F' e' => ⟨_, rfl, MonoL.mono _ _ _ e' hv2⟩, satC_up e13 h3⟩ Nx Rt X q2 F3 N _ (Same.refl _) (At.put A3) (wsh.up (e2.trans e3)) D
      (fun σ4 F4 L4 H4 e4 A4 n => nx σ4 F4 L4 H4 ((e2.trans e3).trans e4) A4 n) fun v F4 H4 e4 A4 n => rt v F4 H4 ((e2.trans e3).trans e4) A4 n⟩
/-- one's own list handed back -/
theorem ts_retC {xs : List α} [∀ a, Mono (R a)] : TrS Z ρ ((i, ownL (xs.map R)) :: κ) (tRet (tVar i)) (fun (_ : S → Prop) Rt X => Rt xs) ρ2 κ2 (fLn R) :=
  ⟨fun σ F L sv sc Nx Rt X q F1 N H e A wsh D nx rt => by
    obtain ⟨a, o, L', hL, h1, h2, h3⟩ := sc
    obtain ⟨vs, ho, hv⟩ := h2 F1 e
    subst hL ho
    have A1 : At F1 ((a, .lst vs) :: (L' ++ N)) H := A
    exact ⟨.ref a, h1, rt _ _ _ (same_new A1.off1) (A1.keep.drop) ⟨xs, q, a, vs, rfl, upd_same, MonoL.mono _ _ _ (same_new A1.off1) hv⟩⟩⟩
theorem TrS.same {mm : Ws ε S δ} {R' : δ → VP} (h : TrS Z ρ κ t mm ρ2 κ2 Rd) (hr : ∀ a v F, Rd a v F → R' a v F) : TrS Z ρ κ t mm ρ2 κ2 R' :=
  ⟨fun σ F L sv sc Nx Rt X q F1 N H e A wsh D nx rt => h.run σ F L sv sc Nx Rt X q F1 N H e A wsh D nx fun v F' H' e' A' ⟨a, r1, r2⟩ => rt v F' H' e' A' ⟨a, r1, hr _ _ _ r2⟩⟩
theorem ts_retCD {d : α → PyData} {xs : List α} : TrS Z ρ ((i, ownL (xs.map (fD K d))) :: κ) (tRet (tVar i)) (fun (_ : S → Prop) Rt X => Rt xs) ρ2 κ2 (fD K (dL d)) := (ts_retC).same fun _ _ _ => rLn_dL
theorem tr_tupC {xs : List α} [∀ a, Mono (R a)] : TrE Z ρ ((i, ownL (xs.map R)) :: κ) (tCB (rTupOf K) (tCons (tVar i) tNil)) (pur xs) (fTp K R) :=
  .of fun σ F L sv sc Q X q => by
    obtain ⟨a, o, L', hL, h1, h2, h3⟩ := sc
    obtain ⟨vs, ho, hv⟩ := h2 F (Same.refl _)
    subst hL ho
    exact Run.weak (r_tupC (l := a) (xs := vs) (Rs := xs.map R) List.mem_cons_self (r_cons (r_varE h1) r_nil) hv) fun v F1 e r => ⟨xs, q, r⟩
/-- what a value says of what it stands for -/
theorem tr_fact {p : α → Prop} (hp : ∀ a v F, R a v F → p a) (h : TrE Z ρ κ te m R) : TrE Z ρ κ te (fun Q X => m (fun a => p a → Q a) X) R :=
  ⟨h.mono, fun σ F L s c Q X q => (h.run σ F L s c _ X q).weak fun v F2 e ⟨a, q1, r1⟩ => ⟨a, q1 (hp a v F2 r1), r1⟩⟩
/-- what does not hang on the heap -/
class FlatR (R : α → VP) : Prop where
  fl : ∀ a v F F', R a v F → R a v F'
instance : FlatR (fD K dInt) := ⟨fun a v F F' h => by cases h; exact .int a⟩
instance : FlatR (fD K dN) := ⟨fun a v F F' h => by cases h; exact .int _⟩
instance : FlatR (fD K dB) := ⟨fun a v F F' h => by cases h; exact .bl a⟩
instance : FlatR (fD K dS) := ⟨fun a v F F' h => by cases h; exact .str a⟩
instance : FlatR (fD K dU) := ⟨fun a v F F' h => by cases h; exact .non⟩
theorem At.unkeep {F F2 : Hp} {L : Cells} {a : Addr} {o : HO} {H : Hp} (ho : ∀ xs, o ≠ .tup xs) (e : Same (upd F a o) F2) (A : At F2 L H) : At (fun b => if b = a then none else F2 b) ((a, o) :: L) H := by
  have h2 : F2 a = some o := e _ _ upd_same
  refine ⟨fun b u h => ?_, fun p q => ?_, fun p q => ?_, ?_, fun p q => ?_⟩
  · by_cases hb : b = a
    · rw [if_pos hb] at h; cases h
    · rw [if_neg hb] at h; exact A.ex b u h
  · rcases List.mem_cons.mp q with z | z
    · subst z; exact A.ex _ _ h2
    · exact A.on p z
  · rcases List.mem_cons.mp q with z | z
    · subst z; simp
    · show (if p.1 = a then none else F2 p.1) = none
      rw [A.off p z]; simp
  · rw [List.map_cons, List.nodup_cons]
    refine ⟨fun z => ?_, A.nd⟩
    obtain ⟨p, hp, he⟩ := List.mem_map.mp z
    have := A.off p hp
    rw [he, h2] at this; cases this
  · rcases List.mem_cons.mp q with z | z
    · subst z; exact ho
    · exact A.nt p z
theorem satV_down {F F' : Hp} (e : Same F F') {ρ σ} (h : SatV ρ σ F) : SatV ρ σ F' := satV_up e h
/-- one's own list, looked at as a value -/
theorem tr_bor {xs : List α} {mm : Wm ε δ} [FlatR Rd] [∀ a, Mono (R a)] (h : TrE Z (st ρ i (some (fLn R xs))) κ te mm Rd) (f : freeCs [i] κ = true) (hi : Nat.blt i ρ.length = true) (hX : ∀ Q X, mm Q X → mm Q (fun _ => False)) : TrE Z ρ ((i, ownL (xs.map R)) :: κ) te mm Rd :=
  ⟨h.mono, fun σ F L sv sc Q X q F1 N H e A wsh Qk qk => by
    obtain ⟨a, o, L', hL, h1, h2, h3⟩ := sc
    obtain ⟨vs, ho, hv⟩ := h2 F1 e
    subst hL ho
    have A1 : At F1 ((a, .lst vs) :: (L' ++ N)) H := A
    have e1 : Same F1 (upd F1 a (.lst vs)) := same_new A1.off1
    have sv1 : SatV (st ρ i (some (fLn R xs))) (σ.set i (some (.ref a))) (upd F1 a (.lst vs)) := satV_set (show fLn R xs (.ref a) _ from ⟨a, vs, rfl, upd_same, MonoL.mono _ _ _ e1 hv⟩) inferInstance (satV_up (e.trans e1) sv)
    have eσ : σ.set i (some (.ref a)) = σ := by
      apply List.ext_getElem?
      intro j
      by_cases hj : i = j
      · subst hj
        rw [List.getElem?_set_self (by rw [← sat_len sv]; exact Nat.le_of_ble_eq_true hi), h1]
      · rw [List.getElem?_set_ne hj]
    rw [eσ] at sv1
    refine h.run σ (upd F1 a (.lst vs)) L' sv1 (satC_up (e.trans e1) h3) Q _ (hX Q X q) (upd F1 a (.lst vs)) N H (Same.refl _) A1.keep (fun _ _ _ _ _ _ _ _ _ _ z => z.elim) Qk fun v F2 H2 e2 A2 ⟨d, q2, r⟩ => ?_
    have A3 := At.unkeep (F := F1) (o := .lst vs) (fun xs z => nomatch z) e2 A2
    refine qk v _ H2 (fun b u hb => ?_) A3 ⟨d, q2, FlatR.fl _ _ _ _ r⟩
    have hne : b ≠ a := ne_of_none hb A1.off1
    show (if b = a then none else F2 b) = some u
    rw [if_neg hne]
    exact e2 b u (e1 b u hb)⟩
theorem tt_of_bor {mm : Wm ε Bool} (h : TrE Z ρ κ te mm (fD K dB)) : TrT Z ρ κ (tB te) mm := tt_B h
end

/-! ### defs -/
def Z0 : Wsh Empty where
  wi := fun _ _ _ _ => False
  xr := fun _ _ _ _ => False
  t := fun _ _ _ => True
  tl := fun _ _ _ _ h => h
def X0 : Empty → Prop := fun _ => False
theorem wish0 {F : Hp} {N : Cells} {X : Empty → Prop} : WishOk Z0 F N X := fun e => nomatch e
def ofArgs : List VP → Nat → List (Option VP)
  | [], n => List.replicate n none
  | R :: Rs, n + 1 => some R :: ofArgs Rs n
  | R :: Rs, 0 => some R :: ofArgs Rs 0
class MonoAll (Rs : List VP) : Prop where
  all : ∀ R ∈ Rs, Mono R
instance : MonoAll [] := ⟨fun _ h => nomatch h⟩
instance {R : VP} {Rs : List VP} [m : Mono R] [h : MonoAll Rs] : MonoAll (R :: Rs) := ⟨fun S hS => (List.mem_cons.mp hS).elim (fun z => z ▸ m) (h.all S)⟩
theorem sat_start : ∀ {Rs : List VP} {vs : List V} {F : Hp} {n : Nat}, MonoAll Rs → Each Rs vs F → SatV (ofArgs Rs n) (vs.map some ++ List.replicate (n - vs.length) none) F
  | [], [], F, n, _, _ => by
    rw [ofArgs, List.map_nil, List.nil_append, List.length_nil, Nat.sub_zero]
    induction n with
    | zero => exact True.intro
    | succ n ih => exact ih
  | R :: Rs, v :: vs, F, n, m, h => by
    have ih := sat_start (n := n - 1) (Rs := Rs) (vs := vs) ⟨fun S hS => m.all S (List.mem_cons_of_mem _ hS)⟩ h.2
    have hm := m.all R List.mem_cons_self
    cases n with
    | zero =>
      refine ⟨⟨v, rfl, h.1, hm⟩, ?_⟩
      have e : 0 - (v :: vs).length = 0 - 1 - vs.length := by rw [List.length_cons]; omega
      rw [e]; exact ih
    | succ n =>
      refine ⟨⟨v, rfl, h.1, hm⟩, ?_⟩
      have e : n + 1 - (v :: vs).length = n + 1 - 1 - vs.length := by rw [List.length_cons]; omega
      rw [e]; exact ih
  | [], _ :: _, _, _, _, h => h.elim
  | _ :: _, [], _, _, _, h => h.elim
section
variable {P : Program} {w : World} {K : PySem.W.Frag} {mg : Str → Option Value} {base : Heap} {γ δ S : Type}
theorem gw_ok {x qual : Str} {stt : Stmt} {f : Addr} {fd : FuncData} {N ps : List Str} {k : Nat} {Rs : γ → List VP} {spec : γ → (δ → Prop) → Prop} {R : δ → VP} (Nx : (δ → Prop) → S → Prop) (F : Fun K x qual stt f fd) (Sc : FnScope N ps (defScope stt)) (len : ∀ g, (Rs g).length = ps.length) (hm : ∀ g, MonoAll (Rs g)) (ρ2 : S → List (Option VP)) (κ2 : S → List Ow)
    (hN : ∀ Q s, Nx Q s → ∃ d, Q d ∧ ∀ F, R d .non F)
    (body : ∀ (cdv : Value) (A : Around) (outer : List Env) (s : Shared) (H : Hp) (E : XK) (g : γ), Room k (A.deeper (envOfC qual (defScope stt) s.heap.objs.size f cdv)) →
      ∃ t, PSs (cxOf CX0 P w K mg base N qual (defScope stt) f cdv A outer s H E).nox (defBody stt) t ∧ ∃ m : Ws Empty S δ, TrS Z0 (ofArgs (Rs g) N.length) [] t m ρ2 κ2 R ∧ ∀ Q, (∃ vs F, Each (Rs g) vs F) → spec g Q → m (Nx Q) Q X0) :
    FnOk P w K mg base CX0 (k + 1) f fd ps (SpN Rs spec R) := by
  refine F.ok Sc (fun vs H Q E ⟨g, F0, N0, P0, A, hv, q⟩ => (each_length hv).trans (len g)) fun cdv A outer s H vs Q E hr ⟨g, F0, N0, P0, A0, hv, hs, q⟩ => ?_
  obtain ⟨t, h1, m, h2, h3⟩ := body cdv A outer s H E g hr
  refine ⟨t, h1, ?_⟩
  refine h2.run (start N vs) F0 [] (sat_start (hm g) hv) True.intro _ _ _ (h3 P0 ⟨vs, F0, hv⟩ hs) F0 N0 H (Same.refl _) A0 wish0 _ (fun σ' F' L' H' e' A' ⟨s', n, _⟩ => ?_) fun v F' H' e' A' ⟨d, pd, r⟩ => q d v F' H' e' A' pd r
  obtain ⟨d, pd, rd⟩ := hN _ _ n
  exact q d .non F' H' e' A'.drop pd (rd F')
theorem gw_mk {x : Str} {stt : Stmt} {f : Addr} {fd : FuncData} {N ps : List Str} {k : Nat} {Rs : γ → List VP} {spec : γ → (δ → Prop) → Prop} {R : δ → VP} (F : Fun K x x stt f fd) (hmg : mg x = some (.ref f)) (b : Binds K fd ps []) (Sc : FnScope N ps (defScope stt)) (len : ∀ g, (Rs g).length = ps.length) (hm : ∀ g, MonoAll (Rs g))
    (body : ∀ (cdv : Value) (A : Around) (outer : List Env) (s : Shared) (H : Hp) (E : XK) (g : γ), Room k (A.deeper (envOfC x (defScope stt) s.heap.objs.size f cdv)) →
      ∃ t, PSs (cxOf CX0 P w K mg base N x (defScope stt) f cdv A outer s H E).nox (defBody stt) t ∧ ∃ m : Ws Empty Unit δ, TrS Z0 (ofArgs (Rs g) N.length) [] t m (fun _ => List.replicate N.length none) (fun _ => []) R ∧ ∀ Q, (∃ vs F, Each (Rs g) vs F) → spec g Q → m (fun _ => False) Q X0) :
    Gf P w K mg base (k + 1) x (SpN Rs spec R) :=
  ⟨f, fd, ps, gw_ok (fun _ _ => False) F Sc len hm _ _ (fun _ _ h => h.elim) body, hmg, F.kp, b⟩
theorem gw_met {x qual : Str} {stt : Stmt} {f : Addr} {fd : FuncData} {N ps : List Str} {k : Nat} {Rs : γ → List VP} {spec : γ → (δ → Prop) → Prop} {R : δ → VP} (F : Fun K x qual stt f fd) (Sc : FnScope N ps (defScope stt)) (len : ∀ g, (Rs g).length = ps.length) (hm : ∀ g, MonoAll (Rs g))
    (body : ∀ (cdv : Value) (A : Around) (outer : List Env) (s : Shared) (H : Hp) (E : XK) (g : γ), Room k (A.deeper (envOfC qual (defScope stt) s.heap.objs.size f cdv)) →
      ∃ t, PSs (cxOf CX0 P w K mg base N qual (defScope stt) f cdv A outer s H E).nox (defBody stt) t ∧ ∃ m : Ws Empty Unit δ, TrS Z0 (ofArgs (Rs g) N.length) [] t m (fun _ => List.replicate N.length none) (fun _ => []) R ∧ ∀ Q, (∃ vs F, Each (Rs g) vs F) → spec g Q → m (fun _ => False) Q X0) :
    FnOk P w K mg base CX0 (k + 1) f fd ps (SpN Rs spec R) := gw_ok (fun _ _ => False) F Sc len hm _ _ (fun _ _ h => h.elim) body
/-- a promise by a precondition, as one by a wish -/
theorem SpF.toN {pre : γ → Prop} {Rs : γ → List VP} {f : γ → δ} {R : δ → VP} {vs : List V} {H : Hp} {Q : VK} {E : XK} (h : SpN Rs (fun g Q => pre g ∧ Q (f g)) R vs H Q E) : SpF pre Rs (fun g => R (f g)) vs H Q E :=
  let ⟨g, F, N, P, A, hv, ⟨hp, p⟩, q⟩ := h
  ⟨g, F, N, hp, A, hv, fun v F' H' e A' r => q _ v F' H' e A' p r⟩
theorem Gf.toN {k : Nat} {x : Str} {pre : γ → Prop} {Rs : γ → List VP} {f : γ → δ} {R : δ → VP} (h : Gf P w K mg base k x (SpF pre Rs (fun g => R (f g)))) : Gf P w K mg base k x (SpN Rs (fun g Q => pre g ∧ Q (f g)) R) :=
  let ⟨a, fd, ps, F, h1, h2, h3⟩ := h
  ⟨a, fd, ps, F.imp fun _ _ _ _ => SpF.toN, h1, h2, h3⟩
end
end Tw

/-! Tw5: a class's own ==, len, str, in; more of numbers, lists, pairs. -/
namespace Tw
open PySem PySem.Spec PyProof.Rows L2 SlX StX Rs Ma
section
variable {ε α β γ δ S : Type} {Z : Wsh ε} {ρ : List (Option VP)} {κ : List Ow} {K : PySem.W.Frag} {w : World} {te ta tb tc : TE} {t : TA} {u u1 w1 : TS} {ma : Wm ε α} {mb : Wm ε β} {m : Wm ε α} {ml : Wm ε (List α)} {Ra R : α → VP} {Rb : β → VP} {Rc : γ → VP} {Rd : δ → VP} {C : Addr} {E : XK} {i j : Nat}
  {ρ2 : S → List (Option VP)} {κ2 : S → List Ow}
theorem o_eqOwn {spec : α × β → (Bool → Prop) → Prop} [∀ a, Mono (Ra a)] [∀ b, Mono (Rb b)] (hn : PySem.W.notFirst K C (.ref C) = true) (h1 : ∀ a v F, Ra a v F → IsOb C v F) (h2 : ∀ a v F, Rb a v F → IsOb C v F) :
    Op2 ε (rOwn K C (SpN (fun p : α × β => [Ra p.1, Rb p.2]) spec (fD K dB)) E) Ra Rb (fun a b Q _ => spec (a, b) Q) (fD K dB) :=
  ⟨fun a b x y F L hx hy Q X q => fun F2 N H e2 A Qk qk => by
    obtain ⟨p, dx, vs, rfl, q1, q2⟩ := h1 _ _ _ hx
    obtain ⟨p', dy, ws, rfl, q3, q4⟩ := h2 _ _ _ hy
    exact ⟨p, dx, vs, p', C, dy, ws, rfl, rfl, at_slt A (e2 _ _ q1) (e2 _ _ q2), at_slt A (e2 _ _ q3) (e2 _ _ q4), hn, (a, b), F2, L ++ N, Q, A, ⟨Mono.go hx e2, Mono.go hy e2, True.intro⟩, q, fun d v F3 H3 e3 A3 pd r => qk v F3 H3 e3 A3 ⟨d, pd, r⟩⟩⟩
theorem o_neOwn {spec : α × β → (Bool → Prop) → Prop} [∀ a, Mono (Ra a)] [∀ b, Mono (Rb b)] (hn : PySem.W.notFirst K C (.ref C) = true) (h1 : ∀ a v F, Ra a v F → IsOb C v F) (h2 : ∀ a v F, Rb a v F → IsOb C v F) :
    Op2 ε (Nq.rNeOwn K C (SpN (fun p : α × β => [Ra p.1, Rb p.2]) spec (fD K dB)) E) Ra Rb (fun a b Q _ => spec (a, b) fun c => Q (!c)) (fD K dB) :=
  ⟨fun a b x y F L hx hy Q X q => fun F2 N H e2 A Qk qk => by
    obtain ⟨p, dx, vs, rfl, q1, q2⟩ := h1 _ _ _ hx
    obtain ⟨p', dy, ws, rfl, q3, q4⟩ := h2 _ _ _ hy
    exact ⟨p, dx, vs, p', C, dy, ws, rfl, rfl, at_slt A (e2 _ _ q1) (e2 _ _ q2), at_slt A (e2 _ _ q3) (e2 _ _ q4), hn, (a, b), F2, L ++ N, fun c => Q (!c), A, ⟨Mono.go hx e2, Mono.go hy e2, True.intro⟩, q, fun d v F3 H3 e3 A3 pd r => ⟨d, dt_bl r, qk _ F3 H3 e3 A3 ⟨!d, pd, .bl _⟩⟩⟩⟩
theorem c_lenOwn {spec : α → (Nat → Prop) → Prop} [∀ a, Mono (Ra a)] (h1 : ∀ a v F, Ra a v F → IsOb C v F) : Cb ε (rLenOwn C (SpN (fun a => [Ra a]) spec (fD K dN)) E) (fun a => [Ra a]) (fun a Q _ => spec a fun n => n ≤ 100000 ∧ Q n) (fD K dN) :=
  ⟨fun g vs F L hv Q X q => fun F2 N H e2 A Qk qk => by
    obtain ⟨x, rfl, hx⟩ := each1 hv
    obtain ⟨a, dx, us, rfl, q1, q2⟩ := h1 _ _ _ hx
    refine ⟨a, dx, us, rfl, at_slt A (e2 _ _ q1) (e2 _ _ q2), g, F2, L ++ N, fun n => n ≤ 100000 ∧ Q n, A, ⟨Mono.go hx e2, True.intro⟩, q, fun d v F3 H3 e3 A3 pd r => ?_⟩
    obtain ⟨p1, p2⟩ := pd
    cases r
    exact ⟨(d : Int), rfl, by omega, by omega, qk _ F3 H3 e3 A3 ⟨d, p2, .int _⟩⟩⟩
theorem c_strOwn {spec : α → (Str → Prop) → Prop} [∀ a, Mono (Ra a)] (h1 : ∀ a v F, Ra a v F → IsOb C v F) : Cb ε (rStrOwn C (SpN (fun a => [Ra a]) spec (fD K dS)) E) (fun a => [Ra a]) (fun a Q _ => spec a Q) (fD K dS) :=
  ⟨fun g vs F L hv Q X q => fun F2 N H e2 A Qk qk => by
    obtain ⟨x, rfl, hx⟩ := each1 hv
    obtain ⟨a, dx, us, rfl, q1, q2⟩ := h1 _ _ _ hx
    refine ⟨a, dx, us, rfl, at_slt A (e2 _ _ q1) (e2 _ _ q2), g, F2, L ++ N, Q, A, ⟨Mono.go hx e2, True.intro⟩, q, fun d v F3 H3 e3 A3 pd r => ?_⟩
    cases r
    exact ⟨d, rfl, qk _ F3 H3 e3 A3 ⟨d, pd, .str _⟩⟩⟩
theorem o_inOwn {spec : α × β → (Bool → Prop) → Prop} [∀ a, Mono (Ra a)] [∀ b, Mono (Rb b)] (h1 : ∀ a v F, Ra a v F → IsOb C v F) :
    Op2 ε (rInOwn C (SpN (fun p : α × β => [Ra p.1, Rb p.2]) spec (fD K dB)) E) Rb Ra (fun b a Q _ => spec (a, b) Q) (fD K dB) :=
  ⟨fun b a x y F L hx hy Q X q => fun F2 N H e2 A Qk qk => by
    obtain ⟨p, dx, us, rfl, q1, q2⟩ := h1 _ _ _ hy
    exact ⟨p, dx, us, rfl, at_slt A (e2 _ _ q1) (e2 _ _ q2), (a, b), F2, L ++ N, Q, A, ⟨Mono.go hy e2, Mono.go hx e2, True.intro⟩, q, fun d v F3 H3 e3 A3 pd r => ⟨d, dt_bl r, qk _ F3 H3 e3 A3 ⟨d, pd, .bl _⟩⟩⟩⟩
/-! numbers -/
theorem o_mulN : Op2 ε (rI CMul fun i j => .int (i * j)) (fD K dN) (fD K dN) (fun a b Q X => (a < 2 ^ 64 ∨ b < 2 ^ 64) ∧ Q (a * b)) (fD K dN) :=
  op_of fun a b x y F L hx hy Q X q => ⟨_, q.2, r_is (r_Ii (r_c (R := Dt K (.int a)) hx) (r_c (R := Dt K (.int b)) hy) (by unfold CMul; rcases q.1 with h | h <;> omega)) (by show _ = PyData.int ((a * b : Nat) : Int); rw [Int.natCast_mul])⟩
theorem o_modN : Op2 ε (rI (fun _ j => 0 < j) fun i j => .int (i % j)) (fD K dN) (fD K dN) (fun a b Q X => 0 < b ∧ Q (a % b)) (fD K dN) :=
  op_of fun a b x y F L hx hy Q X q => ⟨_, q.2, r_is (r_Ii (C := fun _ j => 0 < j) (f := fun i j => i % j) (r_c (R := Dt K (.int a)) hx) (r_c (R := Dt K (.int b)) hy) (by show (0 : Int) < (b : Int); omega)) (by show _ = PyData.int ((a % b : Nat) : Int); rw [Int.natCast_emod])⟩
/-! lists, pairs -/
theorem TrE.lnMap {R' : α → VP} [∀ a, Mono (R' a)] (h : TrE Z ρ κ te ml (fLn R)) (hr : ∀ a v F, R a v F → R' a v F) : TrE Z ρ κ te ml (fLn R') := h.same fun xs v F ⟨a, vs, e, s, r⟩ => ⟨a, vs, e, s, by
  have key : ∀ (xs : List α) (vs : List V), Each (xs.map R) vs F → Each (xs.map R') vs F := by
    intro xs
    induction xs with
    | nil => intro vs h; cases vs <;> exact h
    | cons x xs ih => intro vs h; cases vs with
      | nil => exact h.elim
      | cons v vs => exact ⟨hr _ _ _ h.1, ih vs h.2⟩
  exact key _ _ r⟩
theorem ts_assoc {m : Ws ε S δ} (h : TrS Z ρ κ (tSeq u (tSeq u1 w1)) m ρ2 κ2 Rd) : TrS Z ρ κ (tSeq (tSeq u u1) w1) m ρ2 κ2 Rd := ⟨h.run⟩
/-- x, l = a, a new list -/
theorem ts_parN {i j : Nat} {mlb : Wm ε (List β)} {mk : α → List β → Ws ε S δ} (ha : TrE Z ρ κ ta ma Ra) (hb : TrN Z ρ κ tb mlb Rb) (f : freeCs [i, j] κ = true) (hij : Nat.beq i j = false) (hi : Nat.blt j ρ.length = true) (k : ∀ a xs, TrS Z (st (st ρ i (some (Ra a))) j none) ((j, ownL (xs.map Rb)) :: κ) u (mk a xs) ρ2 κ2 Rd) :
    TrS Z ρ κ (tSeq (tPar i j (tCons ta (tCons tb tNil))) u) (fun Nx Rt X => ma (fun a => mlb (fun xs => mk a xs Nx Rt X) X) X) ρ2 κ2 Rd :=
  have := hb.mono
  ⟨fun σ F L sv sc Nx Rt X q F1 N H e A wsh D nx rt => by
    show ta σ H (fun v H1 => tb σ H1 fun v' H2 => ∃ v1 w1, [v, v'] = [v1, w1] ∧ u D ((σ.set i (some v1)).set j (some w1)) H2)
    refine ha.run σ F L sv sc _ X q F1 N H e A wsh _ fun v F2 H2 e2 A2 ⟨a, q1, hv⟩ => ?_
    have e12 := e.trans e2
    refine hb.run σ F2 L (satV_up e12 sv) (satC_up e12 sc) _ X q1 F2 N H2 (Same.refl _) A2 (wsh.up e2) _ fun p vs F3 H3 xs e3 A3 r q2 => ⟨v, .ref p, rfl, ?_⟩
    have e13 := e12.trans e3
    have c3 : SatC κ ((σ.set i (some v)).set j (some (.ref p))) F3 L := satC_agree (js := [i, j]) (fun l hl => by
      rw [List.mem_cons, List.mem_singleton, not_or] at hl
      rw [List.getElem?_set_ne (fun z => hl.2 z.symm), List.getElem?_set_ne (fun z => hl.1 z.symm)]) f (satC_up e13 sc)
    refine (k a xs).run _ F3 ((p, .lst vs) :: L) (satV_none (satV_set ((ha.mono a).mono _ _ _ e3 hv) (ha.mono _) (satV_up e13 sv))) ⟨p, .lst vs, L, rfl, ?_, fun F' e' => ⟨vs, rfl, MonoL.mono _ _ _ e' r⟩, c3⟩ Nx Rt X q2 F3 N H3 (Same.refl _) A3 (wsh.up (e2.trans e3)) D
      (fun σ4 F4 L4 H4 e4 A4 n => nx σ4 F4 L4 H4 ((e2.trans e3).trans e4) A4 n) fun v F4 H4 e4 A4 n => rt v F4 H4 ((e2.trans e3).trans e4) A4 n
    rw [List.getElem?_set_self (by rw [List.length_set, ← sat_len sv]; exact Nat.le_of_ble_eq_true hi)]⟩
end
end Tw

/-! Rz: list(zip(a, b, strict=True)) of two tuples. -/
namespace Rz
open PySem PySem.Spec PyProof.Rows
open PySem.Sem (wp)
abbrev kwS : List (Str × Value) := [(Str.ofString "strict", .bool true)]
theorem typeCall_zipS (a b : Value) : checkTypeCall "zip" ⟨[a, b], kwS⟩ = pure () := by kernel_rfl
theorem newCall_zipS (a b : Value) : checkBuiltinCall "zip.__new__" ⟨[.type "zip", a, b], kwS⟩ = pure () := by kernel_rfl
abbrev zH1 (h : Heap) (l1 : Addr) : Heap := h.push { cls := .type "tuple_iterator", data := .fields #[.ref l1, .int 0 0] }
abbrev zH2 (h : Heap) (l1 l2 : Addr) : Heap := (zH1 h l1).push { cls := .type "tuple_iterator", data := .fields #[.ref l2, .int 0 0] }
abbrev zH3 (h : Heap) (l1 l2 : Addr) : Heap := (zH2 h l1 l2).push { cls := .type "tuple", data := .seq #[.ref h.objs.size, .ref (zH1 h l1).objs.size] }
abbrev zH4 (h : Heap) (l1 l2 : Addr) : Heap := (zH3 h l1 l2).push { cls := .type "tuple", data := .seq #[.none, .none] }
abbrev zH5 (h : Heap) (l1 l2 : Addr) : Heap := (zH4 h l1 l2).push { cls := .type "zip", data := .fields #[.none, .bool false, .bool true, .ref (zH2 h l1 l2).objs.size, .ref (zH3 h l1 l2).objs.size] }
theorem meets_zipS (l1 l2 : Addr) (xs ys : Array Value) :
    Meets (Builtin.«zip.__new__» ⟨[.type "zip", .ref l1, .ref l2], kwS⟩) (fun _ R s => s.heap.IsTuple l1 xs ∧ s.heap.IsTuple l2 ys ∧
      ∀ tk, R (.ok (.ret (.ref (zH4 s.heap l1 l2).objs.size))) { s with heap := zH5 s.heap l1 l2, toks := tk }) :=
  .of_wp fun prog w A R s h => by
    obtain ⟨hp, g, d, tk, os⟩ := s; obtain ⟨hl1, hl2, h⟩ := h
    have hsub := sub_zip
    have hL1 : Heap.IsTuple (Shared.heap ⟨hp, g, d, tk, os⟩) l1 xs := hl1
    have hL2 : Heap.IsTuple (Shared.heap ⟨hp.push { cls := .type "tuple_iterator", data := .fields #[.ref l1, .int 0 0] }, g, d, tk, os⟩) l2 ys := Heap.IsTuple.push hl2 _
    wp_walk using wpAny_pyIter_tuple hL1, wpAny_pyIter_tuple hL2
    exact ⟨_, rfl, h _⟩
section
variable {prog : Program} {w : World} {A : Around} {E : Value → Shared → Prop} {s : Shared}
theorem object_init_kw {self : Value} {a b : Value} :
    Meets (Builtin.«object.__init__» ⟨[self, a, b], kwS⟩) (fun _ R s => s.TypeIs self "zip" ∧ R (.ok (.ret .none)) s) := by
  refine Meets.of_wp fun prog w A R s hs => ?_
  obtain ⟨hT, hq⟩ := hs
  have hl := F.called_zip.init.lookup
  have hm := F.called_zip.made
  repeat (any_goals (first | assumption | wp_step))
  exact ⟨_, rfl, hq⟩
theorem args_object_initS (a b c : Value) : argsOk "object.__init__" ⟨[a, b, c], kwS⟩ := by
  unfold argsOk; rw [signature?_of (id := "object.__init__") (n := ['_', '_', 't', 'i', 'n', 'i', '_', '_']) (o := ['t', 'c', 'e', 'j', 'b', 'o']) (by kernel_rfl) F.owner_object]; kernel_rfl
theorem call_zipS0 {l1 l2 : Addr} {xs ys : Array Value} {Q : Value → Shared → Prop} (hl1 : s.heap.IsTuple l1 xs) (hl2 : s.heap.IsTuple l2 ys)
    (h : ∀ tk, Q (.ref (zH4 s.heap l1 l2).objs.size) { s with heap := zH5 s.heap l1 l2, toks := tk }) :
    wpAny (model prog w) A (call (.type "zip") [.ref l1, .ref l2] kwS) Q E s := by
  have ft := F.called_zip
  obtain ⟨c, tl, hmro⟩ := ft.mro
  have hmade := ft.made
  have hsub := ft.sub
  refine wpAny_call (codeAny_of_tree ?_)
  show wpAny _ _ (callAny (.type "zip") _) _ _ _
  refine wpAny_pure ⟨Code.quiet_builtin _ (by decide +kernel), codeAny_builtin F.entry_type_call ?_⟩
  rw [Around.under_plain (show (Code.builtin "type.__call__" ⟨.type "zip" :: [.ref l1, .ref l2], kwS⟩).weight = 0 from rfl) (show (Code.builtin "type.__call__" ⟨.type "zip" :: [.ref l1, .ref l2], kwS⟩).cUnits = 1 from rfl)]
  have h1 := ft.notType
  have h2 := ft.canCreate
  have hct := typeCall_zipS (.ref l1) (.ref l2)
  repeat (any_goals (first | assumption | wp_step))
  refine codeAny_mono (codeAny_call_builtin ft.plain F.entry_zip_new (wpAny_of_eq (newCall_zipS _ _) (meets_zipS l1 l2 xs ys prog w A.in1 (wants (fun obj s₁ => s₁.TypeIs obj "zip" ∧ Q obj s₁) E) s ⟨hl1, hl2, fun tk => ⟨⟨_, Heap.get?_push_size _ rfl, rfl⟩, h tk⟩⟩))) fun r s₁ hr => ?_
  cases r with
  | error e => exact hr
  | ok fl =>
    cases fl with
    | ret obj =>
      obtain ⟨hT, hq⟩ := hr
      have hli := ft.init.lookup
      have hbi := ft.init.bind obj
      repeat (any_goals (first | assumption | wp_step))
      refine codeAny_mono (codeAny_call_builtin ft.init.plain F.entry_object_init (ft.init.check _ _ _ _ _ _ _ _ hT (args_object_initS _ _ _) (object_init_kw prog w A.in1 (wants (fun r s₂ => r = .none ∧ Q obj s₂) E) s₁ ⟨hT, rfl, hq⟩))) fun r₂ s₂ hr₂ => ?_
      cases r₂ with
      | error e => exact hr₂
      | ok fl₂ =>
        cases fl₂ with
        | ret r =>
          obtain ⟨rfl, hq⟩ := hr₂
          repeat (any_goals (first | assumption | wp_step))
        | _ => exact hr₂.elim
    | _ => exact hr.elim
open Builtin.SmallTypes (nextOf nextOrEnd)
theorem nextOrEnd_item {it l : Addr} {i : Nat} {items} {x : Value} {Q : Option Value → Shared → Prop} (hit : s.heap.IsTupleIter it l i) (hl : s.heap.IsTuple l items) (hx : items[i]? = some x)
    (hQ : ∀ h', h'.IsTupleIter it l (i + 1) → Heap.SameBut it s.heap h' → Q (some x) { s with heap := h' }) : wpAny (model prog w) A (nextOrEnd (.ref it)) Q E s := by
  unfold nextOrEnd
  exact wpAny_bind (wpAny_attempt (RZ.nextOf_tuple_item hit hl hx fun h' a b => wpAny_pure (hQ h' a b)))
theorem nextOrEnd_end {it l : Addr} {i : Nat} {items} {Q : Option Value → Shared → Prop} (hh : A.handled = none) (hit : s.heap.IsTupleIter it l i) (hl : s.heap.IsTuple l items) (hx : items[i]? = none)
    (hQ : ∀ h', Heap.ExtBut it s.heap h' → Q none { s with heap := h' }) : wpAny (model prog w) A (nextOrEnd (.ref it)) Q E s := by
  unfold nextOrEnd
  refine wpAny_bind (wpAny_attempt (RZ.nextOf_tuple_end hh hit hl hx fun h' e k ⟨o, ho, hc⟩ => ?_))
  refine wpAny_bind (wpAny_isInstance (T := "StopIteration") (b := true) ⟨o, ho, hc⟩ isSubtype_stop ?_)
  exact wpAny_pure (hQ h' k)
abbrev IsZS (h : Heap) (z TI TO : Addr) (f0 : Value) (f1 : Bool) : Prop :=
  h.get? z = some { cls := .type "zip", dict := none, data := .fields #[f0, .bool f1, .bool true, .ref TI, .ref TO], slots := #[] }
theorem zs_first {z TI TO i1 i2 l1 l2 : Addr} {k1 k2 : Nat} {xs ys : Array Value} {x y a b : Value} {Q : Value → Shared → Prop} (D : ZipApart z TI TO i1 i2 l1 l2)
    (hz : IsZS s.heap z TI TO .none false) (hTI : IsPair s.heap TI (.ref i1) (.ref i2)) (hTO : IsPair s.heap TO a b)
    (h1 : s.heap.IsTupleIter i1 l1 k1) (h2 : s.heap.IsTupleIter i2 l2 k2) (hl1 : s.heap.IsTuple l1 xs) (hl2 : s.heap.IsTuple l2 ys) (hx : xs[k1]? = some x) (hy : ys[k2]? = some y)
    (hQ : ∀ h', IsZS h' z TI TO (rawInt s.heap.objs.size) false → h'.IsTupleIter i1 l1 (k1 + 1) → h'.IsTupleIter i2 l2 (k2 + 1) → IsPair h' s.heap.objs.size x y → h'.objs.size = s.heap.objs.size + 1 →
      (∀ c o, c ≠ z → c ≠ TO → c ≠ i1 → c ≠ i2 → s.heap.get? c = some o → h'.get? c = some o) → Q (.ref s.heap.objs.size) { s with heap := h' }) :
    wpAny (model prog w) A (Builtin.«zip.__next__» ⟨[.ref z], []⟩) (fun fin s' => ∃ v, fin = .done (.ret v) ∧ Q v s') E s := by
  show wpAny _ _ (field (.ref z) 2 >>= _) _ _ _
  refine wpAny_bind (wpAny_field hz rfl (x := .bool true) rfl ?_)
  show wpAny _ _ (field (.ref z) 3 >>= _) _ _ _
  refine wpAny_bind (wpAny_field hz rfl (x := .ref TI) rfl ?_)
  refine wpAny_bind (wpAny_seqItems hTI rfl ?_)
  show wpAny _ _ (Builtin.SmallTypes.ownedTupleIsFree (.ref z) >>= _) _ _ _
  refine wpAny_bind ?_
  unfold Builtin.SmallTypes.ownedTupleIsFree
  refine wpAny_bind (wpAny_field hz rfl (x := .none) rfl (wpAny_pure ?_))
  simp only [if_true]
  refine wpAny_bind (wpAny_rule ?_)
  refine wpAny_bind (wpAny_field hz rfl (x := .ref TO) rfl ?_)
  refine wpAny_bind (wpAny_setField_rec hz (by simp) fun h₁ hz₁ hs₁ => ?_)
  replace hz₁ : IsZS h₁ z TI TO .ellipsis false := hz₁
  refine wpAny_bind ?_
  simp only [List.zipIdx_cons, List.zipIdx_nil, List.forIn_cons, List.forIn_nil]
  refine wpAny_bind (wpAny_bind (wpAny_onRaise ?_))
  show wpAny _ _ (nextOrEnd (.ref i1)) _ _ _
  refine nextOrEnd_item (h1.extBut hs₁.extBut D.i1z) (hl1.extBut hs₁.extBut D.l1z) hx fun h₂ h1₂ hs₂ => ?_
  have hTO₂ : IsPair h₂ TO a b := hs₂.extBut _ _ D.TOi1 (hs₁.extBut _ _ D.TOz hTO)
  refine wpAny_bind (wpAny_seqItems hTO₂ rfl ?_)
  refine wpAny_bind (wpAny_updateSeq_pair hTO₂ fun h₃ hTO₃ hs₃ => ?_)
  replace hTO₃ : IsPair h₃ TO x b := hTO₃
  refine wpAny_bind (wpAny_letGo (wpAny_pure ?_))
  refine wpAny_bind (wpAny_bind (wpAny_onRaise ?_))
  show wpAny _ _ (nextOrEnd (.ref i2)) _ _ _
  refine nextOrEnd_item (((h2.extBut hs₁.extBut D.i2z).extBut hs₂.extBut D.i12.symm).extBut hs₃.extBut D.TOi2.symm)
    (((hl2.extBut hs₁.extBut D.l2z).extBut hs₂.extBut D.l2i1).extBut hs₃.extBut D.l2TO) hy fun h₄ h2₄ hs₄ => ?_
  have hTO₄ : IsPair h₄ TO x b := hs₄.extBut _ _ D.TOi2 hTO₃
  refine wpAny_bind (wpAny_seqItems hTO₄ rfl ?_)
  refine wpAny_bind (wpAny_updateSeq_pair hTO₄ fun h₅ hTO₅ hs₅ => ?_)
  replace hTO₅ : IsPair h₅ TO x y := hTO₅
  refine wpAny_bind (wpAny_letGo (wpAny_pure (wpAny_pure ?_)))
  refine wpAny_bind (wpAny_seqItems hTO₅ rfl ?_)
  refine wpAny_bind (wpAny_newTuple ?_)
  have hsz : h₅.objs.size = s.heap.objs.size := by rw [hs₅.1, hs₄.1, hs₃.1, hs₂.1, hs₁.1]
  have hz₅ : IsZS h₅ z TI TO .ellipsis false := hs₅.extBut _ _ D.TOz.symm (hs₄.extBut _ _ D.i2z.symm (hs₃.extBut _ _ D.TOz.symm (hs₂.extBut _ _ D.i1z.symm hz₁)))
  have hk₅ : ∀ c o, c ≠ z → c ≠ TO → c ≠ i1 → c ≠ i2 → s.heap.get? c = some o → h₅.get? c = some o := fun c o c1 c2 c3 c4 e =>
    hs₅.extBut _ _ c2 (hs₄.extBut _ _ c4 (hs₃.extBut _ _ c2 (hs₂.extBut _ _ c3 (hs₁.extBut _ _ c1 e))))
  have h1₅ : h₅.IsTupleIter i1 l1 (k1 + 1) := ((h1₂.extBut hs₃.extBut D.TOi1.symm).extBut hs₄.extBut D.i12).extBut hs₅.extBut D.TOi1.symm
  have h2₅ : h₅.IsTupleIter i2 l2 (k2 + 1) := h2₄.extBut hs₅.extBut D.TOi2.symm
  have hzlt : z < h₅.objs.size := Heap.lt_size hz₅
  show wpAny _ _ (Builtin.SmallTypes.ownedTupleHandOut (.ref z) (.ref h₅.objs.size) >>= _) _ _ _
  refine wpAny_bind ?_
  unfold Builtin.SmallTypes.ownedTupleHandOut
  have hz₆ : IsZS (h₅.push { cls := .type "tuple", data := .seq #[x, y] }) z TI TO .ellipsis false := Heap.get?_push_of_some _ hz₅
  refine wpAny_bind (wpAny_setField_rec hz₆ (by simp) fun h₇ hz₇ hs₇ => ?_)
  replace hz₇ : IsZS h₇ z TI TO (rawInt h₅.objs.size) false := hz₇
  refine wpAny_setField_rec hz₇ (by simp) fun h₈ hz₈ hs₈ => ?_
  replace hz₈ : IsZS h₈ z TI TO (rawInt h₅.objs.size) false := hz₈
  have up : ∀ c o, c ≠ z → h₅.get? c = some o → h₈.get? c = some o := fun c o c1 e => hs₈.extBut _ _ c1 (hs₇.extBut _ _ c1 (Heap.get?_push_of_some _ e))
  have hT₈ : IsPair h₈ h₅.objs.size x y := hs₈.extBut _ _ (Nat.ne_of_gt hzlt) (hs₇.extBut _ _ (Nat.ne_of_gt hzlt) (Heap.get?_push_size _ rfl))
  have hz8 : h₈.objs.size = h₅.objs.size + 1 := by rw [hs₈.1, hs₇.1, Heap.size_push]
  rw [hsz] at hz₈ hT₈ hz8
  refine wpAny_pure ⟨_, rfl, ?_⟩
  show Q (.ref h₅.objs.size) _
  rw [hsz]
  exact hQ h₈ hz₈ (h1₅.at fun o e => up _ o D.i1z e) (h2₅.at fun o e => up _ o D.i2z e) hT₈ hz8 fun c o c1 c2 c3 c4 e => up c o c1 (hk₅ c o c1 c2 c3 c4 e)
theorem zs_held {z TI TO T : Addr} {f : Bool} {oT : Obj} {Q : Bool → Shared → Prop} (hz : IsZS s.heap z TI TO (rawInt T) f) (hT : s.heap.get? T = some oT)
    (h : ∀ h', IsZS h' z TI TO (rawInt T) true → Heap.SameBut z s.heap h' → Q false { s with heap := h' }) : wpAny (model prog w) A (Builtin.SmallTypes.ownedTupleIsFree (.ref z)) Q E s := by
  unfold Builtin.SmallTypes.ownedTupleIsFree
  refine wpAny_bind (wpAny_field hz rfl (x := rawInt T) rfl ?_)
  show wpAny _ _ (loadIfAlive ((T : Int).toNat) >>= _) _ _ _
  rw [Int.toNat_natCast]
  refine wpAny_bind (PySem.W.kdx_alive hT ?_)
  simp only [Option.isNone_some, Bool.false_eq_true, if_false]
  refine wpAny_bind (wpAny_field hz rfl (x := .bool f) rfl ?_)
  cases f with
  | true =>
    rw [if_neg (show ¬ ((Value.bool true != Value.bool true) = true) from Bool.false_ne_true)]
    exact wpAny_pure (h s.heap hz (Heap.SameBut.refl _ _))
  | false =>
    rw [if_pos (show (Value.bool false != Value.bool true) = true from rfl)]
    exact wpAny_bind (wpAny_setField_rec hz (by simp) fun h₁ hz₁ hs₁ => wpAny_pure (h h₁ hz₁ hs₁))
theorem zs_item {z TI TO T i1 i2 l1 l2 : Addr} {f : Bool} {oT : Obj} {k1 k2 : Nat} {xs ys : Array Value} {x y : Value} {Q : Value → Shared → Prop} (D : ZipApart z TI TO i1 i2 l1 l2)
    (hz : IsZS s.heap z TI TO (rawInt T) f) (hT : s.heap.get? T = some oT) (hTI : IsPair s.heap TI (.ref i1) (.ref i2))
    (h1 : s.heap.IsTupleIter i1 l1 k1) (h2 : s.heap.IsTupleIter i2 l2 k2) (hl1 : s.heap.IsTuple l1 xs) (hl2 : s.heap.IsTuple l2 ys) (hx : xs[k1]? = some x) (hy : ys[k2]? = some y)
    (hQ : ∀ h', IsZS h' z TI TO (rawInt T) true → h'.IsTupleIter i1 l1 (k1 + 1) → h'.IsTupleIter i2 l2 (k2 + 1) → IsPair h' s.heap.objs.size x y → h'.objs.size = s.heap.objs.size + 1 →
      (∀ c o, c ≠ z → c ≠ i1 → c ≠ i2 → s.heap.get? c = some o → h'.get? c = some o) → Q (.ref s.heap.objs.size) { s with heap := h' }) :
    wpAny (model prog w) A (Builtin.«zip.__next__» ⟨[.ref z], []⟩) (fun fin s' => ∃ v, fin = .done (.ret v) ∧ Q v s') E s := by
  show wpAny _ _ (field (.ref z) 2 >>= _) _ _ _
  refine wpAny_bind (wpAny_field hz rfl (x := .bool true) rfl ?_)
  show wpAny _ _ (field (.ref z) 3 >>= _) _ _ _
  refine wpAny_bind (wpAny_field hz rfl (x := .ref TI) rfl ?_)
  refine wpAny_bind (wpAny_seqItems hTI rfl ?_)
  show wpAny _ _ (Builtin.SmallTypes.ownedTupleIsFree (.ref z) >>= _) _ _ _
  refine wpAny_bind (zs_held hz hT fun h₁ hz₁ hs₁ => ?_)
  simp only [Bool.false_eq_true, if_false]
  refine wpAny_bind ?_
  rw [← Array.forIn_toList]
  simp only [List.forIn_cons, List.forIn_nil]
  refine wpAny_bind (wpAny_bind (wpAny_holding ?_))
  show wpAny _ _ (nextOrEnd (.ref i1)) _ _ _
  refine nextOrEnd_item (s := { s with heap := h₁ }) (h1.extBut hs₁.extBut D.i1z) (hl1.extBut hs₁.extBut D.l1z) hx fun h₂ h1₂ hs₂ => ?_
  refine wpAny_pure ?_
  refine wpAny_bind (wpAny_bind (wpAny_holding ?_))
  show wpAny _ _ (nextOrEnd (.ref i2)) _ _ _
  refine nextOrEnd_item (s := { s with heap := h₂ }) ((h2.extBut hs₁.extBut D.i2z).extBut hs₂.extBut D.i12.symm) ((hl2.extBut hs₁.extBut D.l2z).extBut hs₂.extBut D.l2i1) hy fun h₃ h2₃ hs₃ => ?_
  refine wpAny_pure (wpAny_pure ?_)
  show wpAny _ _ (newTuple [x, y] >>= _) _ _ _
  refine wpAny_bind (wpAny_newTuple ?_)
  have hsz : h₃.objs.size = s.heap.objs.size := by rw [hs₃.1, hs₂.1, hs₁.1]
  have hz₃ : IsZS h₃ z TI TO (rawInt T) true := hs₃.extBut _ _ D.i2z.symm (hs₂.extBut _ _ D.i1z.symm hz₁)
  have hk : ∀ c o, c ≠ z → c ≠ i1 → c ≠ i2 → s.heap.get? c = some o → h₃.get? c = some o := fun c o c1 c2 c3 e => hs₃.extBut _ _ c3 (hs₂.extBut _ _ c2 (hs₁.extBut _ _ c1 e))
  have h1₃ : h₃.IsTupleIter i1 l1 (k1 + 1) := h1₂.extBut hs₃.extBut D.i12
  refine wpAny_pure ⟨_, rfl, ?_⟩
  show Q (.ref h₃.objs.size) _
  have hp : IsPair (h₃.push { cls := .type "tuple", data := .seq #[x, y] }) h₃.objs.size x y := Heap.get?_push_size _ rfl
  have hz4 : (h₃.push { cls := .type "tuple", data := .seq #[x, y] }).objs.size = h₃.objs.size + 1 := Heap.size_push ..
  rw [hsz] at hp hz4 ⊢
  exact hQ _ (Heap.get?_push_of_some _ hz₃) (h1₃.at fun o e => Heap.get?_push_of_some _ e) (h2₃.at fun o e => Heap.get?_push_of_some _ e) hp hz4 fun c o c1 c2 c3 e => Heap.get?_push_of_some _ (hk c o c1 c2 c3 e)
theorem zs_end {z TI TO T i1 i2 l1 l2 : Addr} {f : Bool} {oT : Obj} {k1 k2 : Nat} {xs ys : Array Value} {Q : Fin → Shared → Prop} (hh : A.handled = none) (D : ZipApart z TI TO i1 i2 l1 l2)
    (hz : IsZS s.heap z TI TO (rawInt T) f) (hT : s.heap.get? T = some oT) (hTI : IsPair s.heap TI (.ref i1) (.ref i2))
    (h1 : s.heap.IsTupleIter i1 l1 k1) (h2 : s.heap.IsTupleIter i2 l2 k2) (hl1 : s.heap.IsTuple l1 xs) (hl2 : s.heap.IsTuple l2 ys) (hx : xs[k1]? = none) (hy : ys[k2]? = none)
    (hE : ∀ h' e, (∀ c o, c ≠ z → c ≠ i1 → c ≠ i2 → s.heap.get? c = some o → h'.get? c = some o) → (∃ o, h'.get? e = some o ∧ o.cls = .type "StopIteration") → E (.ref e) { s with heap := h' }) :
    wpAny (model prog w) A (Builtin.«zip.__next__» ⟨[.ref z], []⟩) Q E s := by
  show wpAny _ _ (field (.ref z) 2 >>= _) _ _ _
  refine wpAny_bind (wpAny_field hz rfl (x := .bool true) rfl ?_)
  show wpAny _ _ (field (.ref z) 3 >>= _) _ _ _
  refine wpAny_bind (wpAny_field hz rfl (x := .ref TI) rfl ?_)
  refine wpAny_bind (wpAny_seqItems hTI rfl ?_)
  show wpAny _ _ (Builtin.SmallTypes.ownedTupleIsFree (.ref z) >>= _) _ _ _
  refine wpAny_bind (zs_held hz hT fun h₁ hz₁ hs₁ => ?_)
  simp only [Bool.false_eq_true, if_false]
  refine wpAny_bind ?_
  rw [← Array.forIn_toList]
  simp only [List.forIn_cons, List.forIn_nil]
  refine wpAny_bind (wpAny_bind (wpAny_holding ?_))
  show wpAny _ _ (nextOrEnd (.ref i1)) _ _ _
  refine nextOrEnd_end (s := { s with heap := h₁ }) hh (h1.extBut hs₁.extBut D.i1z) (hl1.extBut hs₁.extBut D.l1z) hx fun h₂ hs₂ => ?_
  refine wpAny_bind (wpAny_bind ?_)
  wp_delta
  simp only [List.drop_succ_cons, List.drop_zero, List.zipIdx_cons, List.zipIdx_nil, List.forIn'_cons, List.forIn'_nil]
  refine wpAny_bind (wpAny_bind ?_)
  refine nextOrEnd_end (s := { s with heap := h₂ }) hh ((h2.extBut hs₁.extBut D.i2z).extBut hs₂ D.i12.symm) ((hl2.extBut hs₁.extBut D.l2z).extBut hs₂ D.l2i1) hy fun h₃ hs₃ => ?_
  have hk : ∀ c o, c ≠ z → c ≠ i1 → c ≠ i2 → s.heap.get? c = some o → h₃.get? c = some o := fun c o c1 c2 c3 e => hs₃ c o c3 (hs₂ c o c2 (hs₁.extBut _ _ c1 e))
  simp only [Option.isSome_none, Bool.false_eq_true, if_false]
  refine wpAny_pure (wpAny_pure ?_)
  refine wpAny_bind (wpAny_rule ?_)
  unfold Builtin.SmallTypes.stopIteration
  refine wpAny_bind ?_
  simp only [newExc, newTuple]
  refine wpAny_bind (wpAny_newObj_type ?_ (by size_fits))
  refine wpAny_bind (m := firstArgMember _ _) (wpAny_of_eq (a := Value.none) (by first | rfl | (simp only [firstArgMember]; rfl)) ?_)
  refine wpAny_newObj_type ?_ (by size_fits)
  simp only [raiseNew]
  refine wpAny_bind (wpAny_handled ?_)
  rw [hh]
  refine wpAny_bind (wpAny_pure (wpAny_throw ?_))
  exact hE _ _ (fun c o c1 c2 c3 e => Heap.get?_push_of_some _ (Heap.get?_push_of_some _ (hk c o c1 c2 c3 e))) ⟨_, Heap.get?_push_size _ rfl, rfl⟩
/-- the zip while it is used up: nothing is out yet, or the first pair is -/
def ZSt (h : Heap) (z TI TO i1 i2 l1 l2 S : Addr) (xs ys : Array Value) (k : Nat) : Prop :=
  IsPair h TI (.ref i1) (.ref i2) ∧ h.IsTupleIter i1 l1 k ∧ h.IsTupleIter i2 l2 k ∧ h.IsTuple l1 xs ∧ h.IsTuple l2 ys ∧
  ((k = 0 ∧ IsZS h z TI TO .none false ∧ IsPair h TO .none .none) ∨ ∃ (T : Addr) (f : Bool) (oT : Obj), IsZS h z TI TO (rawInt T) f ∧ h.get? T = some oT ∧ T ≠ z ∧ T ≠ i1 ∧ T ≠ i2 ∧ T ≠ S)
theorem ZSt.keep {h h' : Heap} {z TI TO i1 i2 l1 l2 S : Addr} {xs ys : Array Value} {k : Nat} (Z : ZSt h z TI TO i1 i2 l1 l2 S xs ys k) (D : ZipApart z TI TO i1 i2 l1 l2) (hS : S ≠ z ∧ S ≠ TI ∧ S ≠ TO ∧ S ≠ i1 ∧ S ≠ i2 ∧ S ≠ l1 ∧ S ≠ l2)
    (kp : ∀ b o, b ≠ S → h.get? b = some o → h'.get? b = some o) : ZSt h' z TI TO i1 i2 l1 l2 S xs ys k := by
  obtain ⟨a1, a2, a3, a4, a5, a6⟩ := Z
  refine ⟨kp _ _ hS.2.1.symm a1, a2.at fun o e => kp _ o hS.2.2.2.1.symm e, a3.at fun o e => kp _ o hS.2.2.2.2.1.symm e, ?_, ?_, ?_⟩
  · obtain ⟨o, ho, x⟩ := a4; exact ⟨o, kp _ _ hS.2.2.2.2.2.1.symm ho, x⟩
  · obtain ⟨o, ho, x⟩ := a5; exact ⟨o, kp _ _ hS.2.2.2.2.2.2.symm ho, x⟩
  · rcases a6 with ⟨b1, b2, b3⟩ | ⟨T, f, oT, b1, b2, b3, b4, b5, b6⟩
    · exact .inl ⟨b1, kp _ _ hS.1.symm b2, kp _ _ hS.2.2.1.symm b3⟩
    · exact .inr ⟨T, f, oT, kp _ _ hS.1.symm b1, kp _ _ b6 b2, b3, b4, b5, b6⟩
theorem zs_pyItem {z TI TO i1 i2 l1 l2 S : Addr} {xs ys : Array Value} {k : Nat} {x y : Value} {Q : Option Value → Shared → Prop} (D : ZipApart z TI TO i1 i2 l1 l2) (hS : S < s.heap.objs.size)
    (Z : ZSt s.heap z TI TO i1 i2 l1 l2 S xs ys k) (hx : xs[k]? = some x) (hy : ys[k]? = some y)
    (hQ : ∀ h', ZSt h' z TI TO i1 i2 l1 l2 S xs ys (k + 1) → IsPair h' s.heap.objs.size x y → h'.objs.size = s.heap.objs.size + 1 →
      (∀ c o, c ≠ z → c ≠ TO → c ≠ i1 → c ≠ i2 → s.heap.get? c = some o → h'.get? c = some o) → Q (some (.ref s.heap.objs.size)) { s with heap := h' }) :
    wpAny (model prog w) A (pyNext (.ref z)) Q E s := by
  obtain ⟨a1, a2, a3, a4, a5, a6⟩ := Z
  have tup : ∀ {l : Addr} {zs : Array Value} {h' : Heap}, s.heap.IsTuple l zs → (∀ o, s.heap.get? l = some o → h'.get? l = some o) → h'.IsTuple l zs := fun ⟨o, ho, x⟩ k => ⟨o, k o ho, x⟩
  rcases a6 with ⟨b1, b2, b3⟩ | ⟨T, f, oT, b1, b2, b3, b4, b5, b6⟩
  · have hT : s.TypeIs (.ref z) "zip" := ⟨_, b2, rfl⟩
    have hzl : z < s.heap.objs.size := Heap.lt_size b2
    have hi1 : i1 < s.heap.objs.size := by obtain ⟨_, e, _⟩ := a2; exact Heap.lt_size e
    have hi2 : i2 < s.heap.objs.size := by obtain ⟨_, e, _⟩ := a3; exact Heap.lt_size e
    unfold pyNext
    refine wpAny_bind (wpAny_attempt (wpAny_callSpecial?_slot (name := Str.ofString "__next__") hT F.slot_zip_next
      (wpAny_call_entry F.slot_zip_next hT F.entry_zip_next (zs_first D b2 a1 b3 a2 a3 a4 a5 hx hy fun h' c1 c2 c3 c4 c5 c6 => wpAny_pure (hQ h' ?_ c4 c5 c6)) (F.args_zip_next_1 _))))
    exact ⟨c6 _ _ D.TIz D.TITO D.TIi1 D.TIi2 a1, c2, c3, tup a4 fun o e => c6 _ o D.l1z D.l1TO D.l1i1 D.l1i2 e, tup a5 fun o e => c6 _ o D.l2z D.l2TO D.l2i1 D.l2i2 e,
      .inr ⟨s.heap.objs.size, false, _, c1, c4, Nat.ne_of_gt hzl, Nat.ne_of_gt hi1, Nat.ne_of_gt hi2, Nat.ne_of_gt hS⟩⟩
  · have hT : s.TypeIs (.ref z) "zip" := ⟨_, b1, rfl⟩
    unfold pyNext
    refine wpAny_bind (wpAny_attempt (wpAny_callSpecial?_slot (name := Str.ofString "__next__") hT F.slot_zip_next
      (wpAny_call_entry F.slot_zip_next hT F.entry_zip_next (zs_item D b1 b2 a1 a2 a3 a4 a5 hx hy fun h' c1 c2 c3 c4 c5 c6 => wpAny_pure (hQ h' ?_ c4 c5 fun c o d1 _ d3 d4 e => c6 c o d1 d3 d4 e)) (F.args_zip_next_1 _))))
    exact ⟨c6 _ _ D.TIz D.TIi1 D.TIi2 a1, c2, c3, tup a4 fun o e => c6 _ o D.l1z D.l1i1 D.l1i2 e, tup a5 fun o e => c6 _ o D.l2z D.l2i1 D.l2i2 e,
      .inr ⟨T, true, oT, c1, c6 _ _ b3 b4 b5 b2, b3, b4, b5, b6⟩⟩
theorem zs_pyEnd {z TI TO i1 i2 l1 l2 S : Addr} {xs ys : Array Value} {k : Nat} {Q : Option Value → Shared → Prop} (hh : A.handled = none) (D : ZipApart z TI TO i1 i2 l1 l2)
    (Z : ZSt s.heap z TI TO i1 i2 l1 l2 S xs ys k) (hk : k ≠ 0) (hx : xs[k]? = none) (hy : ys[k]? = none)
    (hQ : ∀ h', (∀ c o, c ≠ z → c ≠ i1 → c ≠ i2 → s.heap.get? c = some o → h'.get? c = some o) → Q none { s with heap := h' }) :
    wpAny (model prog w) A (pyNext (.ref z)) Q E s := by
  obtain ⟨a1, a2, a3, a4, a5, a6⟩ := Z
  rcases a6 with ⟨b1, _⟩ | ⟨T, f, oT, b1, b2, b3, b4, b5, b6⟩
  · exact absurd b1 hk
  have hTy : s.TypeIs (.ref z) "zip" := ⟨_, b1, rfl⟩
  unfold pyNext
  refine wpAny_bind (wpAny_attempt (wpAny_callSpecial?_slot (name := Str.ofString "__next__") hTy F.slot_zip_next
    (wpAny_call_entry F.slot_zip_next hTy F.entry_zip_next (zs_end hh D b1 b2 a1 a2 a3 a4 a5 hx hy fun h' e hk he => ?_) (F.args_zip_next_1 _))))
  obtain ⟨o, ho, hc⟩ := he
  refine wpAny_bind (wpAny_isInstance (T := "StopIteration") (b := true) ⟨o, ho, hc⟩ isSubtype_stop ?_)
  exact wpAny_pure (hQ _ hk)
end
end Rz

/-! Rz2: the list of a strict zip. -/
namespace Rz
open PySem PySem.Spec PyProof.Rows
open PySem.Sem (wp)
theorem nolen_zip : typeLookup (.type "zip") "__len__" = pure none := by rw [typeLookup_type, builtinLookup_eq_fast]; kernel_rfl
theorem nohint_zip : typeLookup (.type "zip") "__length_hint__" = pure none := by rw [typeLookup_type, builtinLookup_eq_fast]; kernel_rfl
def Prs (xs ys : Array Value) (B : Addr) (h : Heap) (as : List Addr) : Prop := as.Pairwise (· < ·) ∧ ∀ (j : Nat) (a : Addr), as[j]? = some a → B ≤ a ∧ ∃ x y, xs[j]? = some x ∧ ys[j]? = some y ∧ IsPair h a x y
structure Zap (z TI TO i1 i2 l1 l2 S B : Addr) : Prop where
  ap : ZipApart z TI TO i1 i2 l1 l2
  z_ : S ≠ z
  TI_ : S ≠ TI
  TO_ : S ≠ TO
  i1_ : S ≠ i1
  i2_ : S ≠ i2
  l1_ : S ≠ l1
  l2_ : S ≠ l2
  Bz : z < B
  BTO : TO < B
  Bi1 : i1 < B
  Bi2 : i2 < B
  BS : S < B
section
variable {prog : Program} {w : World} {A : Around} {E : Value → Shared → Prop} {s : Shared} {R : Result → Shared → Prop} {z TI TO i1 i2 l1 l2 S B : Addr} {xs ys : Array Value}
theorem Zap.ap' (Z : Zap z TI TO i1 i2 l1 l2 S B) : S ≠ z ∧ S ≠ TI ∧ S ≠ TO ∧ S ≠ i1 ∧ S ≠ i2 ∧ S ≠ l1 ∧ S ≠ l2 := ⟨Z.z_, Z.TI_, Z.TO_, Z.i1_, Z.i2_, Z.l1_, Z.l2_⟩
theorem loopZ (hh : A.handled = none) (Z : Zap z TI TO i1 i2 l1 l2 S B) (hxy : xs.size = ys.size) (h0 : xs.size ≠ 0) (hn : xs.size ≤ sizeLine) (res : Value) {h₁ : Heap}
    (hR : ∀ h' tk acc c as, (∀ b o, b ≠ S → b ≠ z → b ≠ TO → b ≠ i1 → b ≠ i2 → h₁.get? b = some o → h'.get? b = some o) → h'.get? S = some { cls := .type "list", dict := none, data := .seq acc c, slots := #[] } → as.length = xs.size → Prs xs ys B h' as →
      acc.toList = as.map Value.ref → R (.ok (.ret res)) { s with heap := h', toks := tk }) :
    ∀ (k i : Nat) (h : Heap) (tk c : Nat) (acc : Array Value) (as : List Addr), xs.size - i = k → i ≤ xs.size → ZSt h z TI TO i1 i2 l1 l2 S xs ys i → (∀ b o, b ≠ S → b ≠ z → b ≠ TO → b ≠ i1 → b ≠ i2 → h₁.get? b = some o → h.get? b = some o) →
      h.get? S = some { cls := .type "list", dict := none, data := .seq acc c, slots := #[] } → acc.toList = as.map Value.ref → as.length = i → Prs xs ys B h as → B ≤ h.objs.size →
      codeAny (model prog w) A (.builtin "list.extend.loop" ⟨[.ref S, .ref z, res], []⟩) R { s with heap := h, toks := tk } := by
  intro k
  induction k with
  | zero =>
    intro i h tk c acc as hk hi hst hkeep hS hacc hal hG hB
    have ei : i = xs.size := by omega
    refine codeAny_builtin PySem.F.entry_extend_loop ?_
    rw [Around.under_plainId PySem.F.plain_extend_loop _]
    show wpAny _ A.in1 (pyNext (.ref z) >>= _) _ _ _
    refine wpAny_bind (zs_pyEnd (s := { s with heap := h, toks := tk }) (A := A.in1) hh Z.ap hst (by omega) (Array.getElem?_eq_none (by omega)) (Array.getElem?_eq_none (by omega)) fun h' he => ?_)
    refine wpAny_pure (hR h' tk acc c as (fun b o h1 h2 h3 h4 h5 e => he b o h2 h4 h5 (hkeep b o h1 h2 h3 h4 h5 e)) (he S _ Z.z_ Z.i1_ Z.i2_ hS) (by omega) ⟨hG.1, fun j a hj => ?_⟩ hacc)
    obtain ⟨g1, x, y, g2, g3, g4⟩ := hG.2 j a hj
    exact ⟨g1, x, y, g2, g3, he a _ (Nat.ne_of_gt (Nat.lt_of_lt_of_le Z.Bz g1)) (Nat.ne_of_gt (Nat.lt_of_lt_of_le Z.Bi1 g1)) (Nat.ne_of_gt (Nat.lt_of_lt_of_le Z.Bi2 g1)) g4⟩
  | succ k ih =>
    intro i h tk c acc as hk hi hst hkeep hS hacc hal hG hB
    have hlt : i < xs.size := by omega
    have hlt2 : i < ys.size := by omega
    have hsz : acc.size = i := by rw [← Array.length_toList, hacc, List.length_map, hal]
    refine codeAny_builtin PySem.F.entry_extend_loop ?_
    rw [Around.under_plainId PySem.F.plain_extend_loop _]
    show wpAny _ A.in1 (pyNext (.ref z) >>= _) _ _ _
    refine wpAny_bind (zs_pyItem (s := { s with heap := h, toks := tk }) (S := S) Z.ap (Heap.lt_size hS) hst (Array.getElem?_eq_getElem hlt) (Array.getElem?_eq_getElem hlt2) fun h' hst' ht hz hkp => ?_)
    dsimp only at ht hz hkp ⊢
    have hS' := hkp S _ Z.z_ Z.TO_ Z.i1_ Z.i2_ hS
    have up : ∀ b o, b ≠ S → h'.get? b = some o → (h'.update S (Obj.mapSeq (·.push (Value.ref h.objs.size)))).get? b = some o := fun b o hb e => (Heap.get?_update_other _ _ (Ne.symm hb)).trans e
    have hSl : S < h.objs.size := Heap.lt_size hS
    have off : ∀ a, B ≤ a → a ≠ S ∧ a ≠ z ∧ a ≠ TO ∧ a ≠ i1 ∧ a ≠ i2 := fun a g => ⟨Nat.ne_of_gt (Nat.lt_of_lt_of_le Z.BS g), Nat.ne_of_gt (Nat.lt_of_lt_of_le Z.Bz g), Nat.ne_of_gt (Nat.lt_of_lt_of_le Z.BTO g), Nat.ne_of_gt (Nat.lt_of_lt_of_le Z.Bi1 g), Nat.ne_of_gt (Nat.lt_of_lt_of_le Z.Bi2 g)⟩
    show wpAny _ A.in1 (updateSeq S (·.push (Value.ref h.objs.size)) >>= _) _ _ _
    refine wpAny_bind ?_
    refine wpAny_updateSeq hS' rfl (wpAny_pure ⟨plainId_quiet PySem.F.plain_extend_loop _, ih (i + 1) _ tk _ (acc.push (Value.ref h.objs.size)) (as ++ [h.objs.size]) (by omega) hlt (hst'.keep Z.ap Z.ap' up)
      (fun b o h1 h2 h3 h4 h5 e => up b o h1 (hkp b o h2 h3 h4 h5 (hkeep b o h1 h2 h3 h4 h5 e))) (Heap.get?_update_self _ hS' rfl) (by rw [Array.toList_push, hacc, List.map_append]; rfl) (by rw [List.length_append, hal]; rfl) ?_ ?_⟩) (by rw [hsz]; omega) (by show (acc.push (Value.ref h.objs.size)).size ≤ sizeLine + 1; rw [Array.size_push, hsz]; omega)
    · refine ⟨List.pairwise_append.mpr ⟨hG.1, List.pairwise_singleton _ _, fun a ha b hb => ?_⟩, ?_⟩
      · rw [List.mem_singleton.mp hb]
        obtain ⟨j, hj⟩ := List.mem_iff_getElem?.mp ha
        obtain ⟨_, _, _, _, _, g4⟩ := hG.2 j a hj
        exact Heap.lt_size g4
      intro j b hj
      rcases Nat.lt_trichotomy j as.length with h1 | h1 | h1
      · rw [List.getElem?_append_left h1] at hj
        obtain ⟨g1, x, y, g2, g3, g4⟩ := hG.2 j b hj
        obtain ⟨o1, o2, o3, o4, o5⟩ := off b g1
        exact ⟨g1, x, y, g2, g3, up b _ o1 (hkp b _ o2 o3 o4 o5 g4)⟩
      · subst h1
        have hb : h.objs.size = b := by simpa using hj
        subst hb
        subst hal
        exact ⟨hB, _, _, Array.getElem?_eq_getElem hlt, Array.getElem?_eq_getElem hlt2, up _ _ (Nat.ne_of_gt hSl) ht⟩
      · have hnone : (as ++ [h.objs.size])[j]? = none := List.getElem?_eq_none (by rw [List.length_append, List.length_singleton]; omega)
        rw [hnone] at hj; cases hj
    · have e : (h'.update S (Obj.mapSeq (·.push (Value.ref h.objs.size)))).get? h.objs.size = _ := up _ _ (Nat.ne_of_gt hSl) ht
      exact Nat.le_trans hB (Nat.le_of_lt (Heap.lt_size e))
theorem zs_iter {f0 : Value} {f1 : Bool} {Q : Value → Shared → Prop} (hz : IsZS s.heap z TI TO f0 f1) (h : Q (.ref z) s) : wpAny (model prog w) A (pyIter (.ref z)) Q E s := by
  have hT : s.TypeIs (.ref z) "zip" := ⟨_, hz, rfl⟩
  refine wpAny_pyIter_slot hT F.slot_zip_iter (wpAny_call_entry F.slot_zip_iter hT F.entry_zip_iter ?_ (F.args_zip_iter_1 _))
  show wpAny _ _ (ret (.ref z)) _ _ s
  exact wpAny_pure ⟨_, rfl, "zip", _, hT, F.slot_zip_next.lookup, h⟩
theorem zs_hint {f0 : Value} {f1 : Bool} {Q : Bool → Shared → Prop} (hz : IsZS s.heap z TI TO f0 f1) (h : Q true s) : wpAny (model prog w) A (Builtin.List.listLengthHint (.ref z)) Q E s := by
  have hT : s.TypeIs (.ref z) "zip" := ⟨_, hz, rfl⟩
  unfold Builtin.List.listLengthHint
  refine wpAny_bind (wpAny_specialOf hT nolen_zip ?_)
  show wpAny _ _ (specialOf (Value.ref z) (Str.ofString "__length_hint__") >>= _) _ _ _
  refine wpAny_bind (wpAny_specialOf hT nohint_zip ?_)
  exact wpAny_pure h
theorem extZ (hh : A.handled = none) (Z : Zap z TI TO i1 i2 l1 l2 S B) (hxy : xs.size = ys.size) (h0 : xs.size ≠ 0) (hn : xs.size ≤ sizeLine) (hB : B ≤ s.heap.objs.size) (hst : ZSt s.heap z TI TO i1 i2 l1 l2 S xs ys 0) (res : Value) (c₀ : Nat) (hS : s.heap.get? S = some { cls := .type "list", data := .seq #[] c₀ })
    (hR : ∀ h' tk acc c as, (∀ b o, b ≠ S → b ≠ z → b ≠ TO → b ≠ i1 → b ≠ i2 → s.heap.get? b = some o → h'.get? b = some o) → h'.get? S = some { cls := .type "list", dict := none, data := .seq acc c, slots := #[] } → as.length = xs.size → Prs xs ys B h' as →
      acc.toList = as.map Value.ref → R (.ok (.ret res)) { s with heap := h', toks := tk }) :
    wpAny (model prog w) A.in1 (Builtin.List.listExtendWith (.ref S) (.ref z) res)
      (fun fin s' => match fin with | .done f => R (.ok f) s' | .again c' => c'.quiet = true ∧ codeAny (model prog w) A c' R s') (fun e s' => R (.error e) s') s := by
  have key : ∀ (h : Heap) (c₁ tk : Nat), (∀ b o, b ≠ S → s.heap.get? b = some o → h.get? b = some o) → h.get? S = some { cls := .type "list", data := .seq #[] c₁ } → B ≤ h.objs.size →
      codeAny (model prog w) A (.builtin "list.extend.loop" ⟨[.ref S, .ref z, res], []⟩) R { s with heap := h, toks := tk } := fun h c₁ tk hk hS₁ hB₁ =>
    loopZ (h₁ := s.heap) hh Z hxy h0 hn res hR xs.size 0 h tk c₁ #[] [] (Nat.sub_zero _) (Nat.zero_le _) (hst.keep Z.ap Z.ap' hk) (fun b o hb _ _ _ _ e => hk b o hb e) hS₁ rfl rfl ⟨.nil, fun j a hj => by simp at hj⟩ hB₁
  obtain ⟨f0, f1, hz0⟩ : ∃ f0 f1, IsZS s.heap z TI TO f0 f1 := by
    rcases hst.2.2.2.2.2 with ⟨_, x, _⟩ | ⟨T, f, oT, x, _⟩
    · exact ⟨_, _, x⟩
    · exact ⟨_, _, x⟩
  unfold Builtin.List.listExtendWith
  refine wpAny_bind (wpAny_typeOf (T := "zip") ⟨_, hz0, rfl⟩ ?_)
  have h1 : Builtin.List.listSameRef (.ref S) (.ref z) = false := by simp [Builtin.List.listSameRef, Z.z_]
  have h2 : (Value.type "zip" == Value.type "list") = false := by decide
  have h3 : (Value.type "zip" == Value.type "tuple") = false := by decide
  simp only [h1, h2, h3, Bool.or_false, Bool.false_eq_true, if_false]
  refine wpAny_bind (zs_iter hz0 ?_)
  refine wpAny_bind (wpAny_holding (zs_hint hz0 ?_))
  show wpAny _ A.in1 (rule "list.extend.makes-room" >>= fun _ => Builtin.List.listTouch (.ref S) >>= fun _ => again (.builtin "list.extend.loop" ⟨[.ref S, .ref z, res], []⟩)) _ _ _
  refine wpAny_bind (wpAny_rule ?_)
  refine wpAny_bind ?_
  show wpAny _ _ (updateSeq S (·.push .none) >>= fun _ => updateSeq S (·.pop)) _ _ _
  refine wpAny_bind (wpAny_updateSeq hS rfl ?_)
  have hS₂ := Heap.get?_update_self (Obj.mapSeq (·.push Value.none)) hS rfl
  refine wpAny_updateSeq (hz := by seq_fits) hS₂ rfl ?_
  have hS₃ := Heap.get?_update_self (Obj.mapSeq (·.pop)) hS₂ rfl
  refine wpAny_pure ⟨plainId_quiet PySem.F.plain_extend_loop _, key _ _ _ (fun b o hb e => ?_) hS₃ ?_⟩
  · exact (Heap.get?_update_other _ _ (Ne.symm hb)).trans ((Heap.get?_update_other _ _ (Ne.symm hb)).trans e)
  · rw [Heap.size_update, Heap.size_update]; exact hB
theorem initZ (hh : A.handled = none) (Z : Zap z TI TO i1 i2 l1 l2 S B) (hxy : xs.size = ys.size) (h0 : xs.size ≠ 0) (hn : xs.size ≤ sizeLine) (hB : B ≤ s.heap.objs.size) (hst : ZSt s.heap z TI TO i1 i2 l1 l2 S xs ys 0) (hS : s.heap.get? S = some { cls := .type "list", data := .seq #[] })
    (hR : ∀ h' tk acc c as, (∀ b o, b ≠ S → b ≠ z → b ≠ TO → b ≠ i1 → b ≠ i2 → s.heap.get? b = some o → h'.get? b = some o) → h'.get? S = some { cls := .type "list", dict := none, data := .seq acc c, slots := #[] } → as.length = xs.size → Prs xs ys B h' as →
      acc.toList = as.map Value.ref → R (.ok (.ret .none)) { s with heap := h', toks := tk }) :
    wpAny (model prog w) A.in1 (Builtin.«list.__init__» ⟨[.ref S, .ref z], []⟩)
      (fun fin s' => match fin with | .done f => R (.ok f) s' | .again c' => c'.quiet = true ∧ codeAny (model prog w) A c' R s') (fun e s' => R (.error e) s') s := by
  show wpAny _ _ (do let old ← Builtin.List.listItems (.ref S); Builtin.List.listUpdate (.ref S) (fun _ => #[]); letGo old.toList.reverse; Builtin.List.listExtendWith (.ref S) (.ref z) .none) _ _ s
  refine wpAny_bind ?_
  unfold Builtin.List.listItems
  refine wpAny_bind (wpAny_seqItems hS rfl (wpAny_pure ?_))
  show wpAny _ _ (updateSeq S (fun _ => #[]) >>= fun _ => letGo (#[] : Array Value).toList.reverse >>= fun _ => Builtin.List.listExtendWith (.ref S) (.ref z) .none) _ _ s
  refine wpAny_bind (wpAny_updateSeq hS rfl ?_)
  have hS₂ := Heap.get?_update_self (Obj.mapSeq (fun _ => (#[] : Array Value))) hS rfl
  have oth : ∀ b o, b ≠ S → s.heap.get? b = some o → (s.heap.update S (Obj.mapSeq (fun _ => (#[] : Array Value)))).get? b = some o := fun b o hb e => (Heap.get?_update_other _ _ (Ne.symm hb)).trans e
  refine wpAny_bind (wpAny_letGo ?_)
  exact extZ (s := { s with heap := s.heap.update S (Obj.mapSeq (fun _ => (#[] : Array Value))) }) hh Z hxy h0 hn (by show B ≤ (s.heap.update S _).objs.size; rw [Heap.size_update]; exact hB) (hst.keep Z.ap Z.ap' oth) .none _ hS₂ fun h' tk acc c as hk hS' hl hp ha => hR h' tk acc c as (fun b o k1 k2 k3 k4 k5 e => hk b o k1 k2 k3 k4 k5 (oth b o k1 e)) hS' hl hp ha
/-- list(z), z = zip(a, b, strict=True) -/
theorem list_zipS {Q : Value → Shared → Prop} (hh : A.handled = none) (hl1 : s.heap.IsTuple l1 xs) (hl2 : s.heap.IsTuple l2 ys) (hxy : xs.size = ys.size) (h0 : xs.size ≠ 0) (hn : xs.size ≤ sizeLine)
    (hQ : ∀ S h' tk acc c as, s.heap.get? S = none → (∀ b o, s.heap.get? b = some o → h'.get? b = some o) → h'.get? S = some { cls := .type "list", dict := none, data := .seq acc c, slots := #[] } → as.length = xs.size → Prs xs ys (S + 1) h' as → s.heap.objs.size ≤ S →
      acc.toList = as.map Value.ref → Q (.ref S) { s with heap := h', toks := tk }) :
    wpAny (model prog w) A (call (.type "zip") [.ref l1, .ref l2] kwS) (fun v s' => wpAny (model prog w) A (call (.type "list") [v]) Q E s') E s := by
  refine call_zipS0 hl1 hl2 fun tk => ?_
  have z1 : (zH1 s.heap l1).objs.size = s.heap.objs.size + 1 := Heap.size_push ..
  have z2 : (zH2 s.heap l1 l2).objs.size = s.heap.objs.size + 2 := by rw [Heap.size_push, z1]
  have z3 : (zH3 s.heap l1 l2).objs.size = s.heap.objs.size + 3 := by rw [Heap.size_push, z2]
  have z4 : (zH4 s.heap l1 l2).objs.size = s.heap.objs.size + 4 := by rw [Heap.size_push, z3]
  have z5 : (zH5 s.heap l1 l2).objs.size = s.heap.objs.size + 5 := by rw [Heap.size_push, z4]
  have g5 : (zH5 s.heap l1 l2).get? (zH4 s.heap l1 l2).objs.size = some _ := Heap.get?_push_size _ rfl
  have g4 : (zH5 s.heap l1 l2).get? (zH3 s.heap l1 l2).objs.size = some _ := Heap.get?_push_of_some _ (Heap.get?_push_size _ rfl)
  have g3 : (zH5 s.heap l1 l2).get? (zH2 s.heap l1 l2).objs.size = some _ := Heap.get?_push_of_some _ (Heap.get?_push_of_some _ (Heap.get?_push_size _ rfl))
  have g2 : (zH5 s.heap l1 l2).get? (zH1 s.heap l1).objs.size = some _ := Heap.get?_push_of_some _ (Heap.get?_push_of_some _ (Heap.get?_push_of_some _ (Heap.get?_push_size _ rfl)))
  have g1 : (zH5 s.heap l1 l2).get? s.heap.objs.size = some _ := Heap.get?_push_of_some _ (Heap.get?_push_of_some _ (Heap.get?_push_of_some _ (Heap.get?_push_of_some _ (Heap.get?_push_size _ rfl))))
  have old : ∀ b o, s.heap.get? b = some o → (zH5 s.heap l1 l2).get? b = some o := fun b o e => Heap.get?_push_of_some _ (Heap.get?_push_of_some _ (Heap.get?_push_of_some _ (Heap.get?_push_of_some _ (Heap.get?_push_of_some _ e))))
  rw [z2, z3, z4] at g5
  rw [z1, z2] at g3
  rw [z3] at g4
  rw [z1] at g2
  rw [z4]
  obtain ⟨o1, ho1, hc1⟩ := id hl1
  obtain ⟨o2, ho2, hc2⟩ := id hl2
  have k1 : l1 < s.heap.objs.size := Heap.lt_size ho1
  have k2 : l2 < s.heap.objs.size := Heap.lt_size ho2
  generalize hh5 : zH5 s.heap l1 l2 = h5 at g5 g4 g3 g2 g1 old z5 ⊢
  obtain ⟨N, hN⟩ : ∃ N : Nat, N = s.heap.objs.size := ⟨_, rfl⟩
  rw [← hN] at g5 g4 g3 g2 g1 z5 k1 k2 ⊢
  have Z : Zap (N + 4) (N + 2) (N + 3) N (N + 1) l1 l2 (N + 5) (N + 6) := by
    refine ⟨⟨?_, ?_, ?_, ?_, ?_, ?_, ?_, ?_, ?_, ?_, ?_, ?_, ?_, ?_, ?_, ?_, ?_, ?_⟩, ?_, ?_, ?_, ?_, ?_, ?_, ?_, ?_, ?_, ?_, ?_, ?_⟩ <;> first | (show ¬ @Eq Nat _ _; omega) | (show @LT.lt Nat _ _ _; omega) | exact Nat.ne_of_lt k1 | exact Nat.ne_of_lt k2 | exact Nat.ne_of_lt (Nat.lt_of_lt_of_le k1 (Nat.le_add_right N _)) | exact Nat.ne_of_lt (Nat.lt_of_lt_of_le k2 (Nat.le_add_right N _)) | exact Nat.ne_of_gt (Nat.lt_of_lt_of_le k1 (Nat.le_add_right N _)) | exact Nat.ne_of_gt (Nat.lt_of_lt_of_le k2 (Nat.le_add_right N _))
  have hst : ZSt h5 (N + 4) (N + 2) (N + 3) N (N + 1) l1 l2 (N + 5) xs ys 0 := ⟨g3, ⟨_, g1, rfl, rfl⟩, ⟨_, g2, rfl, rfl⟩, ⟨o1, old _ _ ho1, hc1⟩, ⟨o2, old _ _ ho2, hc2⟩, .inl ⟨rfl, g5, g4⟩⟩
  refine callType_codes (Q₁ := fun obj s₁ => obj = .ref (N + 5) ∧ s₁ = { s with heap := h5.push { cls := .type "list", data := .seq #[] }, toks := tk }) PySem.F.called_list (PySem.F.typeCall_list_1 _) PySem.F.entry_list_init
    (code_list_new _ ⟨by rw [show (Shared.heap { s with heap := h5, toks := tk }).objs.size = h5.objs.size from rfl, z5], rfl⟩) fun obj s₁ h₁ => ?_
  obtain ⟨rfl, rfl⟩ := h₁
  have hS : (h5.push { cls := .type "list", data := .seq #[] }).get? (N + 5) = some { cls := .type "list", data := .seq #[] } := by
    rw [← z5]; exact Heap.get?_push_size _ rfl
  refine ⟨⟨_, hS, rfl⟩, PySem.F.args_list_init_2 _ _, initZ (A := A.in1) (s := { s with heap := h5.push { cls := .type "list", data := .seq #[] }, toks := tk }) hh Z hxy h0 hn (by show N + 6 ≤ (h5.push _).objs.size; rw [Heap.size_push, z5]; omega) (hst.keep Z.ap Z.ap' fun b o _ e => Heap.get?_push_of_some _ e) hS (fun h' tk' acc c as hk hS' hl hp ha => ?_)⟩
  refine ⟨rfl, hQ (N + 5) h' tk' acc c as ?_ (fun b o e => ?_) hS' hl hp (by rw [← hN]; omega) ha⟩
  · cases q : s.heap.get? (N + 5) with
    | none => rfl
    | some o =>
      have h9 := Heap.lt_size q
      rw [← hN] at h9
      exact absurd h9 (Nat.not_lt.mpr (Nat.le_add_right N 5))
  · have hb := Heap.lt_size e
    rw [← hN] at hb
    have hb' : ∀ j, b ≠ N + j := fun j => Nat.ne_of_lt (Nat.lt_of_lt_of_le hb (Nat.le_add_right N j))
    exact hk b o (hb' 5) (hb' 4) (hb' 3) (Nat.ne_of_lt hb) (hb' 1) (Heap.get?_push_of_some _ (old b o e))
end
end Rz

/-! Rz3: the word list(zip(a, b, strict=True)). -/
namespace Rz
open PySem PySem.Spec PyProof.Rows L2
section
variable {M : Model} {A : Around} {E : Value → Shared → Prop} {s : Shared} {env : Env}
theorem callWith_typeKw {pos : Pos} {T : String} {e : Expr} {rest : List Expr} {kws : List Keyword} {Q : Value → Shared → Prop}
    (h : wpAny M A (spliced (backTo pos (starEach (e :: rest) env))) (fun vs s₁ => wpAny M A (evalAll ((backToKw pos (keywordEach kws env)).map (·.2)))
      (fun kvs s₂ => wpAny M A (call (.type T) vs (((backToKw pos (keywordEach kws env)).filterMap (·.1)).zip kvs)) Q E s₂) E s₁) E s)
    (he : backTo pos (starEach (e :: rest) env) = (false, eval e env) :: backTo pos (starEach rest env) := by rfl)
    (hplain : (backTo pos (starEach (e :: rest) env)).any (·.1) = false := by rfl)
    (hall : (backToKw pos (keywordEach kws env)).all (·.1.isSome) = true := by rfl)
    (hkw : (backToKw pos (keywordEach kws env)).any (·.1.isNone) = false := by rfl) :
    wpAny M A (callWith pos (.type T) [] (backTo pos (starEach (e :: rest) env)) (backToKw pos (keywordEach kws env))) Q E s := by
  have h1 : wpAny M A (evalArgs (.type T) true (backTo pos (starEach (e :: rest) env)) (backToKw pos (keywordEach kws env))) (fun a s₁ => wpAny M A (call (.type T) ([] ++ a.pos) a.kw) Q E s₁) E s := by
    rw [he] at h ⊢
    exact evalArgs_kwB hall h
  unfold callWith
  refine wpAny_bind (wpAny_holding (wpAny_mono h1 (fun a s₁ h₁ => wpAny_bind (wpAny_standAt ?_)) fun _ _ x => x))
  simp only [hplain, hkw, Bool.or_false]
  refine wpAny_bind (wpAny_pure ?_)
  exact wpAny_bind (wpAny_mono h₁ (fun r s₂ hr => wpAny_bind (wpAny_holding (wpAny_point (wpAny_pure hr)))) fun _ _ x => x)
end
def rLz (K : PySem.W.Frag) : List V → Hp → VK → Prop := fun vs H Q => ∃ (a b : Addr) (xs ys : List V), vs = [.ref a, .ref b] ∧ SqT K H a xs ∧ SqT K H b ys ∧ xs.length = ys.length ∧ xs ≠ [] ∧ xs.length ≤ 1000 ∧
  ∀ (S : Addr) (as : List Addr) (H2 : Hp), H S = none → as.length = xs.length → (∀ b o, upd H S (.lst (as.map V.ref)) b = some o → H2 b = some o) → (∀ (j : Nat) (a : Addr), as[j]? = some a → ∃ x y, xs[j]? = some x ∧ ys[j]? = some y ∧ H a = none ∧ a ≠ S ∧ H2 a = some (.tup [x, y])) → Q (.ref S) H2
def tLz (K : PySem.W.Frag) (t tk : TA) : TE := fun σ H Q => t σ H fun vs H1 => tk σ H1 fun zs H2 => zs = [.bl true] ∧ rLz K vs H2 Q
section
variable {X : Cx}
theorem run_lz {pins : List (Addr × Obj)} {σ : L2.St} {H : Hp} {s : Shared} {vs : List V} {us : List Value} {Q : VK} (hc : X.calm = true) (I : Inv X pins σ H s) (r : Vals vs us) (h : rLz X.K vs H Q) :
    wpAny (model X.prog X.w) X.A (call (.type "zip") us kwS) (fun v s' => wpAny (model X.prog X.w) X.A (call (.type "list") [v]) (EP X pins σ Q) X.xe s') X.xe s := by
  obtain ⟨a, b, xs, ys, rfl, h1, h2, hxy, hne, hl, q⟩ := h
  obtain ⟨u1, u2, rfl, r1, r2⟩ := r.two
  cases (show u1 = Value.ref a from r1)
  cases (show u2 = Value.ref b from r2)
  obtain ⟨is1, v1, t1, _⟩ := I.tuple h1
  obtain ⟨is2, v2, t2, _⟩ := I.tuple h2
  have l1 : is1.length = xs.length := v1.length.symm
  have l2 : is2.length = ys.length := v2.length.symm
  have hx0 : xs.length ≠ 0 := fun z => hne (List.eq_nil_of_length_eq_zero z)
  refine list_zipS (I.ok.hd hc) t1 t2 (by rw [List.size_toArray, List.size_toArray]; omega) (by rw [List.size_toArray]; omega) (by rw [List.size_toArray, sizeLine_eq]; omega) fun S h' tk acc c as hSn kp hS hal hP hSs hacc => ?_
  rw [List.size_toArray] at hal
  have eb : Vals (as.map V.ref) acc.toList := by rw [hacc]; exact vals_refs _
  have I1 : Inv X pins σ (upd H S (.lst (as.map V.ref))) { s with heap := h', toks := tk } := I.laid (t' := tk) (o := .lst (as.map V.ref)) kp hSs ⟨by rw [List.length_map, sizeLine_eq]; omega, acc.toList, c, eb, by rw [Array.toArray_toList]; exact hS⟩
  have nd : as.Nodup := hP.1.imp fun h => Nat.ne_of_lt h
  have look : ∀ {zs : List V} {its : List Value}, Vals zs its → ∀ (j : Nat) (u : Value), its.toArray[j]? = some u → ∃ z, zs[j]? = some z ∧ RelV z u := by
    intro zs its rv j u hu
    rw [List.getElem?_toArray] at hu
    have hj : j < zs.length := by rw [rv.length]; exact (List.getElem?_eq_some_iff.mp hu).1
    obtain ⟨u', hu', r⟩ := rv.get (List.getElem?_eq_getElem hj)
    rw [hu] at hu'
    cases hu'
    exact ⟨zs[j], List.getElem?_eq_getElem hj, r⟩
  obtain ⟨H2, I2, g, qq⟩ := L2.DX.takeT (P := fun a vs => ∃ (j : Nat) (x y : V), as[j]? = some a ∧ xs[j]? = some x ∧ ys[j]? = some y ∧ vs = [x, y]) I as _ I1 nd fun a ha => by
    obtain ⟨j, hj⟩ := List.mem_iff_getElem?.mp ha
    obtain ⟨g1, x, y, g2, g3, g4⟩ := hP.2 j a hj
    obtain ⟨zx, hzx, rx⟩ := look v1 j x g2
    obtain ⟨zy, hzy, ry⟩ := look v2 j y g3
    have hge : s.heap.objs.size ≤ a := Nat.le_trans hSs (Nat.le_trans (Nat.le_succ S) g1)
    refine ⟨hge, by rw [upd_ne (Nat.ne_of_gt g1)]; exact I.hok.fresh hge, [zx, zy], ⟨j, zx, zy, hj, hzx, hzy, rfl⟩, fun H2 => ⟨by simp [sizeLine_eq], [x, y], .cons rx (.cons ry .nil), ⟨_, g4, rfl, 0, rfl⟩⟩⟩
  refine ⟨.ref S, H2, I2, rfl, q S as H2 (I.hok.fresh hSs) (by omega) g fun j a hj => ?_⟩
  obtain ⟨vs, ⟨j', x, y, e1, e2, e3, e4⟩, hH⟩ := qq a (List.mem_of_getElem? hj)
  subst e4
  have hjj : j = j' := by
    obtain ⟨k1, k2⟩ := List.getElem?_eq_some_iff.mp hj
    obtain ⟨k3, k4⟩ := List.getElem?_eq_some_iff.mp e1
    exact (List.getElem?_inj k1 nd).mp (hj.trans e1.symm)
  subst hjj
  obtain ⟨g1, _⟩ := hP.2 j a hj
  exact ⟨x, y, e2, e3, I.hok.fresh (Nat.le_trans hSs (Nat.le_trans (Nat.le_succ S) g1)), Nat.ne_of_gt g1, hH⟩
variable {e : Expr} {es : List Expr} {kws : List Keyword} {t tk : TA} {p p2 pos pos2 : Pos}
theorem pe_lz (hc : X.calm = true) (hgl : Gl X "list") (hml : X.mg "list" = none) (hgz : Gl X "zip") (hmz : X.mg "zip" = none) (ha : PA X (e :: es) t) (hk : PK X kws tk)
    (hs : starEach [.Call (.Name "zip" p2) (e :: es) kws pos2] X.env = [(false, eval (.Call (.Name "zip" p2) (e :: es) kws pos2) X.env)] := by rfl)
    (he : backTo pos2 (starEach (e :: es) X.env) = (false, eval e X.env) :: backTo pos2 (starEach es X.env) := by rfl) (hpl : (backTo pos2 (starEach (e :: es) X.env)).any (·.1) = false := by rfl)
    (hall : (backToKw pos2 (keywordEach kws X.env)).all (·.1.isSome) = true := by rfl) (hnone : (backToKw pos2 (keywordEach kws X.env)).any (·.1.isNone) = false := by rfl) (hks : (backToKw pos2 (keywordEach kws X.env)).filterMap (·.1) = [Str.ofString "strict"] := by rfl) :
    PE X (.Call (.Name "list" p) [.Call (.Name "zip" p2) (e :: es) kws pos2] [] pos) (tLz X.K t tk) := by
  refine ⟨fun pins s σ H Q I h => ?_⟩
  refine wpAny_Call_Name_kw (ld_blt I hgl hml PyProof.Rows.boot_list ?_ (by decide) (by decide))
  refine PyProof.Rows.callWith_type1 ?_ hs rfl
  rw [hs]
  show wpAny _ _ (spliced ((false, eval (.Call (.Name "zip" p2) (e :: es) kws pos2) X.env) :: backTo pos (starEach [] X.env))) _ _ s
  refine Calls.spliced_cons ?_
  refine wpAny_Call_Name_kw (ld_blt I hgz hmz PyProof.Rows.boot_zip ?_ (by decide) (by decide))
  refine callWith_typeKw (thn (ha.run pos2 pins s σ H _ I h) fun us s1 ⟨vs, H1, I1, r1, q1⟩ => thn (hk.run pos2 pins s1 σ H1 _ I1 q1) fun ws s2 ⟨zs, H2, I2, r2, ez, q2⟩ => ?_) he hpl hall hnone
  subst ez
  rw [hks]
  obtain ⟨w1, rfl, rw1⟩ := vals1 r2
  cases (show w1 = Value.bool true from rw1)
  refine thn (run_lz hc I2 r1 q2) fun v s3 hv => ?_
  exact Calls.spliced_nil hv
end
end Rz
namespace Rs
open PySem PySem.Spec PyProof.Rows L2 SlX StX
section
variable {X : Cx} {e : Expr} {es : List Expr} {kws : List Keyword} {t tk : TA} {p p2 pos pos2 : Pos}
theorem p_lz (hc : X.calm = true) (B : Bf X.mg) (ha : PA X (e :: es) t) (hk : PK X kws tk) (hgl : Gl X "list" := by rfl) (hgz : Gl X "zip" := by rfl)
    (hs : starEach [.Call (.Name "zip" p2) (e :: es) kws pos2] X.env = [(false, eval (.Call (.Name "zip" p2) (e :: es) kws pos2) X.env)] := by rfl)
    (he : backTo pos2 (starEach (e :: es) X.env) = (false, eval e X.env) :: backTo pos2 (starEach es X.env) := by rfl) (hpl : (backTo pos2 (starEach (e :: es) X.env)).any (·.1) = false := by rfl)
    (hall : (backToKw pos2 (keywordEach kws X.env)).all (·.1.isSome) = true := by rfl) (hnone : (backToKw pos2 (keywordEach kws X.env)).any (·.1.isNone) = false := by rfl) (hks : (backToKw pos2 (keywordEach kws X.env)).filterMap (·.1) = [Str.ofString "strict"] := by rfl) :
    PE X (.Call (.Name "list" p) [.Call (.Name "zip" p2) (e :: es) kws pos2] [] pos) (Rz.tLz X.K t tk) := Rz.pe_lz hc hgl B.list hgz B.zip ha hk hs he hpl hall hnone hks
end
section
variable {K : PySem.W.Frag} {σ : L2.St} {F : Hp} {L : Cells} {t tk : TA}
/-- what is told of new things -/
def grow (F : Hp) (S : Addr) (as : List Addr) (H2 : Hp) : Hp := fun b => if b = S then H2 b else if b ∈ as then H2 b else F b
theorem r_lz {ι κ : Type} {f : ι → VP} {g : κ → VP} {xs : List ι} {ys : List κ} [∀ x, Mono (f x)] [∀ x, Mono (g x)] (h : Run (t σ) F L (Each [Tp K (xs.map f), Tp K (ys.map g)])) (hl : xs.length = ys.length) (h0 : xs ≠ []) (hn : xs.length ≤ 1000) :
    Run (Rz.tLz K t (tCons (tC (.bl true)) tNil) σ) F L (Ln ((xs.zip ys).map fun p => Tp K [f p.1, g p.2])) := fun F1 N H e A Q q =>
  h F1 N H e A _ fun vs F2 H2 e2 A2 hv => by
    obtain ⟨v, u, rfl, ⟨a, va, rfl, sa, ra⟩, ⟨b, vb, rfl, sb, rb⟩⟩ := each2 hv
    have la := each_length ra
    have lb := each_length rb
    rw [List.length_map] at la lb
    refine ⟨rfl, a, b, va, vb, rfl, sqT_up A2.ex sa, sqT_up A2.ex sb, by omega, fun z => h0 (List.eq_nil_of_length_eq_zero (by rw [← la, z]; rfl)), by omega, fun S as H3 hS hal kp hp => ?_⟩
    have hS3 : H3 S = some (.lst (as.map V.ref)) := kp _ _ upd_same
    have hat : ∀ c ∈ as, H2 c = none ∧ c ≠ S ∧ ∃ o, H3 c = some o := fun c hc => by
      obtain ⟨j, hj⟩ := List.mem_iff_getElem?.mp hc
      obtain ⟨x, y, _, _, h1, h2, h3⟩ := hp j c hj
      exact ⟨h1, h2, _, h3⟩
    have same : Same F2 (grow F2 S as H3) := fun c o ec => by
      unfold grow
      have hc := A2.ex c o ec
      rw [if_neg (fun z => by rw [z, hS] at hc; cases hc), if_neg (fun z => by rw [(hat c z).1] at hc; cases hc)]
      exact ec
    have k23 : ∀ c o, H2 c = some o → H3 c = some o := fun c o ec => kp c o (by rw [upd_ne (fun z => by rw [z, hS] at ec; cases ec)]; exact ec)
    have A3 : At (grow F2 S as H3) (L ++ N) H3 := by
      refine ⟨fun c o ec => ?_, fun p hm => k23 _ _ (A2.on p hm), fun p hm => ?_, A2.nd, A2.nt⟩
      · unfold grow at ec
        split at ec
        · exact ec
        · split at ec
          · exact ec
          · exact k23 _ _ (A2.ex _ _ ec)
      · have h1 := A2.on p hm
        unfold grow
        rw [if_neg (fun z => by rw [z, hS] at h1; cases h1), if_neg (fun z => by rw [(hat _ z).1] at h1; cases h1)]
        exact A2.off p hm
    refine q _ _ H3 (e2.trans same) A3 ⟨S, as.map V.ref, rfl, by unfold grow; rw [if_pos rfl]; exact hS3, ?_⟩
    -- each pair
    have step : ∀ (n : Nat) (bs : List Addr), (∀ (j : Nat) (c : Addr), bs[j]? = some c → as[n + j]? = some c) → bs.length + n = xs.length → Each (((xs.zip ys).drop n).map fun p => Tp K [f p.1, g p.2]) (bs.map V.ref) (grow F2 S as H3) := by
      intro n bs
      induction bs generalizing n with
      | nil =>
        intro _ hlen
        rw [List.drop_eq_nil_of_le (by rw [List.length_zip]; simp at hlen; omega)]
        exact True.intro
      | cons c bs ih =>
        intro hb hlen
        simp only [List.length_cons] at hlen
        have hx : n < xs.length := by omega
        have hy : n < ys.length := by omega
        have hz : n < (xs.zip ys).length := by rw [List.length_zip]; omega
        rw [List.drop_eq_getElem_cons hz, List.map_cons]
        have hc : as[n]? = some c := by
          have := hb 0 c rfl
          rwa [Nat.add_zero] at this
        obtain ⟨x, y, h1, h2, h3, h4, h5⟩ := hp n c hc
        refine ⟨⟨c, [x, y], rfl, .inl (.inl (by unfold grow; rw [if_neg h4, if_pos (List.mem_of_getElem? hc)]; exact h5)), ?_⟩, ih (n + 1) (fun j d hj => by have := hb (j + 1) d (by rw [List.getElem?_cons_succ]; exact hj); rwa [show n + 1 + j = n + (j + 1) from by omega]) (by omega)⟩
        obtain ⟨p, hp1, hp2⟩ := each_get ra h1
        obtain ⟨p', hp1', hp2'⟩ := each_get rb h2
        rw [List.getElem_zip]
        rw [List.getElem?_eq_getElem hx] at hp1
        rw [List.getElem?_eq_getElem hy] at hp1'
        cases hp1
        cases hp1'
        exact ⟨Mono.go hp2 same, Mono.go hp2' same, True.intro⟩
    exact step 0 as (fun j c hj => by rwa [Nat.zero_add]) (by omega)
end
end Rs

/-! Tw6: conversions, comprehensions of two fors, zip, repeated tuples. -/
namespace Tw
open PySem PySem.Spec PyProof.Rows L2 SlX StX Rs Ma
def fCk (n : Nat) : Unit → VP := fun _ => Ck n
instance {n : Nat} {u : Unit} : Mono (fCk n u) := inferInstanceAs (Mono (Ck n))
section
variable {ε α β γ δ S : Type} {Z : Wsh ε} {ρ : List (Option VP)} {κ : List Ow} {K : PySem.W.Frag} {w : World} {te ta tb tc : TE} {tt tt1 : TT} {t : TA} {u u1 w1 : TS} {wi wi1 : TI} {g g1 : TG} {ma : Wm ε α} {mb : Wm ε β} {m : Wm ε α} {ml : Wm ε (List α)} {Ra R : α → VP} {Rb : β → VP} {Rc : γ → VP} {Rd : δ → VP} {C : Addr} {E : XK} {i j : Nat}
  {ρ2 : S → List (Option VP)} {κ2 : S → List Ow}
theorem tr_in {m : Wm ε Int} (h : TrE Z ρ κ te m (fD K dInt)) : TrE Z ρ κ te (fun Q X => m (fun i => 0 ≤ i ∧ Q i.toNat) X) (fD K dN) :=
  ⟨inferInstance, fun σ F L s c Q X q => (h.run σ F L s c _ X q).weak fun v F2 e ⟨i, ⟨q0, q1⟩, r1⟩ => ⟨i.toNat, q1, by
    cases r1
    show Dp K F2 (.int i) (.int ((i.toNat : Nat) : Int))
    rw [Int.toNat_of_nonneg q0]
    exact .int i⟩⟩
theorem tr_b1 {k : TE} {mB : Wm ε Bool} (h : TrE Z ρ κ te mB (fD K dB)) : TrE Z ρ κ te mB (fD K dB) := h
theorem ts_never : TrS Z ρ κ tNever (fun (_ : S → Prop) (_ : δ → Prop) _ => False) ρ2 κ2 Rd := ⟨fun σ F L sv sc Nx Rt X q => q.elim⟩
theorem ts_neverq : TrS Z ρ κ (tSeq tNever u) (fun (_ : S → Prop) (_ : δ → Prop) _ => False) ρ2 κ2 Rd := ⟨fun σ F L sv sc Nx Rt X q => q.elim⟩
theorem tr_un {f : Int → Int} {mI : Wm ε Int} (h : TrE Z ρ κ te mI (fD K dInt)) : TrE Z ρ κ (tUn (rU fun i => .int (f i)) te) (fun Q X => mI (fun i => Q (f i)) X) (fD K dInt) :=
  tr_lift (kk := tUn (rU fun i => .int (f i))) (mf := fun i => pur (f i)) (fun _ _ _ _ => rfl) h fun i v F L hx Q X q => ⟨_, q, r_U (r_c (R := Dt K (.int i)) hx)⟩
/-- (d,) * n -/
theorem o_rep1 {d : α → PyData} : Op2 ε (rRepTA K) (fD K (dT d)) (fD K dN) (fun xs n Q X => ∃ a, xs = [a] ∧ (1 ≤ n ∧ n ≤ 1000) ∧ Q (List.replicate n a)) (fD K (dT d)) :=
  op_of fun xs n x y F L hx hy Q X ⟨a, h, h0, q⟩ => ⟨_, q, by
    subst h
    refine r_is (r_rep1 (d := d a) (k := n) (r_c (R := Dt K (.tuple [d a])) hx) (r_c (R := Dt K (.int (n : Nat))) hy) h0.1 h0.2) ?_
    show PyData.tuple _ = PyData.tuple _
    rw [List.map_replicate]⟩
/-- tuple + tuple -/
theorem o_catA [∀ a, Mono (R a)] : Op2 ε (rCatA K) (fTp K R) (fTp K R) (fun a b Q X => a.length + b.length ≤ 10000 ∧ Q (a ++ b)) (fTp K R) := ⟨fun xs ys x y F L hx hy Q X ⟨q0, q1⟩ => fun F1 N H e A Qk qk => by
  obtain ⟨a, va, rfl, sa, ra⟩ := hx
  obtain ⟨b, vb, rfl, sb, rb⟩ := hy
  have la := each_length ra
  have lb := each_length rb
  rw [List.length_map] at la lb
  have ra' : Each (xs.map R) va F1 := MonoL.mono _ _ _ e ra
  have rb' : Each (ys.map R) vb F1 := MonoL.mono _ _ _ e rb
  have both : Each ((xs ++ ys).map R) (va ++ vb) F1 := by rw [List.map_append]; exact each_app ra' rb'
  refine ⟨a, b, va, vb, rfl, rfl, sqT_up (e.trans A.ex) sa, sqT_up (e.trans A.ex) sb, len_ok (by omega), fun h => ?_, fun _ h => ?_, fun _ _ p hp => ?_⟩
  · subst h
    exact qk _ F1 H (Same.refl _) A ⟨xs ++ ys, q1, b, _, rfl, sqT_up e sb, both⟩
  · subst h
    rw [List.append_nil] at both
    exact qk _ F1 H (Same.refl _) A ⟨xs ++ ys, q1, a, _, rfl, sqT_up e sa, both⟩
  · have s1 := same_new (o := HO.tup (va ++ vb)) (A.free hp)
    exact qk _ (upd F1 p _) _ s1 (A.new hp) ⟨xs ++ ys, q1, p, _, rfl, .inl (.inl upd_same), MonoL.mono _ _ _ s1 both⟩⟩
theorem o_catDT {d : α → PyData} : Op2 ε (rCatA K) (fD K (dT d)) (fD K (dT d)) (fun a b Q X => a.length + b.length ≤ 10000 ∧ Q (a ++ b)) (fD K (dT d)) := ⟨fun xs ys x y F L hx hy Q X q =>
  ((o_catA (ε := ε) (R := fD K d)).run xs ys x y F L (fTp_dT.mpr hx) (fTp_dT.mpr hy) Q X q).weak fun v F1 e ⟨c, q1, r⟩ => ⟨c, q1, fTp_dT.mp r⟩⟩
/-- list(zip(a, b, strict=True)) -/
theorem tr_lz {m1 : Wm ε (List α)} {m2 : Wm ε (List β)} [∀ a, Mono (R a)] [∀ b, Mono (Rb b)] (ha : TrE Z ρ κ ta m1 (fTp K R)) (hb : TrE Z ρ κ tb m2 (fTp K Rb)) :
    TrE Z ρ κ (Rz.tLz K (tCons ta (tCons tb tNil)) (tCons (tC (.bl true)) tNil)) (fun Q X => m1 (fun xs => m2 (fun ys => (xs.length = ys.length ∧ xs ≠ [] ∧ xs.length ≤ 1000) ∧ Q (xs.zip ys)) X) X) (fLn (fP K R Rb)) :=
  ⟨inferInstance, fun σ F L s c Q X q => rw_bind (k := tCons ta (tCons tb tNil) σ) (k2 := fun vs H Q => Rz.tLz K (fun _ H Q => Q vs H) (tCons (tC (.bl true)) tNil) σ H Q) ((ta_cons ha (ta_one hb)).run σ F L s c (fun p => (p.1.length = p.2.length ∧ p.1 ≠ [] ∧ p.1.length ≤ 1000) ∧ Q (p.1.zip p.2)) X q) fun vs F1 e1 ⟨p, ⟨⟨h1, h2, h3⟩, q1⟩, hx⟩ =>
    .of ((r_lz (t := fun _ H Q => Q vs H) (σ := σ) (xs := p.1) (ys := p.2) (f := R) (g := Rb) (run_ret fun F2 e2 => MonoL.mono (Rs := [Tp K (p.1.map R), Tp K (p.2.map Rb)]) _ _ _ e2 hx) h1 h2 h3).weak fun v F2 e2 hv => ⟨_, q1, hv⟩)⟩
/-- two data of any kinds -/
theorem o_eqA {d : α → PyData} {e : β → PyData} : Op2 ε (rEqD K) (fD K d) (fD K e) (fun a b Q X => (SeqAt.shaped (d a) = true ∧ SeqAt.shaped (e b) = true) ∧ Q (PyData.eqv (d a) (e b))) (fD K dB) :=
  op_of fun a b x y F L hx hy Q X q => ⟨_, q.2, r_eqD (r_c (R := Dt K (d a)) hx) (r_c (R := Dt K (e b)) hy) q.1.1 q.1.2⟩
theorem o_neA {d : α → PyData} {e : β → PyData} : Op2 ε (rNeD K) (fD K d) (fD K e) (fun a b Q X => (SeqAt.shaped (d a) = true ∧ SeqAt.shaped (e b) = true) ∧ Q (!PyData.eqv (d a) (e b))) (fD K dB) :=
  op_of fun a b x y F L hx hy Q X q => ⟨_, q.2, r_neD (r_c (R := Dt K (d a)) hx) (r_c (R := Dt K (e b)) hy) q.1.1 q.1.2⟩
/-! ### two fors -/
/-- what one outer turn puts behind -/
def lc2W (mc : β → Wm ε Bool) (mi : β → Wm ε (List γ)) (mc1 : β → γ → Wm ε Bool) (me : β → γ → Wm ε δ) : List β → Wm ε (List δ)
  | [], Q, _ => Q []
  | x :: xs, Q, X => mc x (fun b => if b = true then mi x (fun ys => ys.length ≤ 100 ∧ lcW (mc1 x) (me x) ys (fun zs => lc2W mc mi mc1 me xs (fun rs => Q (zs ++ rs)) X) X) X else lc2W mc mi mc1 me xs Q X) X
end
section
variable {P : Program} {w : World} {K : PySem.W.Frag} {mg : Str → Option Value} {base : Heap} {γ δ : Type} {k : Nat} {C : Addr} {x nm : Str} {pre : γ → Prop} {Rs : γ → List VP} {f : γ → δ} {R : δ → VP}
theorem _root_.L2.MetS.toN (h : MetS P w K mg base k C x (SpF pre Rs (fun g => R (f g)))) : MetS P w K mg base k C x (SpN Rs (fun g Q => pre g ∧ Q (f g)) R) :=
  let ⟨g, h1, h2, h3⟩ := h
  ⟨g, h1, h2, h3.imp fun _ _ _ _ => SpF.toN⟩
theorem prp_toN (h : PrpS P w K mg base k C x (SpF pre Rs (fun g => R (f g)))) : PrpS P w K mg base k C x (SpN Rs (fun g Q => pre g ∧ Q (f g)) R) :=
  let ⟨p, g, h1, h2, h3, h4, h5, h6⟩ := h
  ⟨p, g, h1, h2, h3, h4, h5, h6.imp fun _ _ _ _ => SpF.toN⟩
theorem eq_toN (h : EqS P w K mg base k C (SpF pre Rs (fun g => R (f g)))) : EqS P w K mg base k C (SpN Rs (fun g Q => pre g ∧ Q (f g)) R) :=
  let ⟨g, h1, h2, h3, h4, h5⟩ := h
  ⟨g, h1, h2, h3, h4, h5.imp fun _ _ _ _ => SpF.toN⟩
end
end Tw

/-! Tw7: sorted of a list of tuples. -/
namespace Tw
open PySem PySem.Spec PyProof.Rows L2 SlX StX Rs Ma
/-- sorted of a list of alike data: ps the values with their data -/
def rSortedDt (K : PySem.W.Frag) : List V → Hp → VK → Prop := fun vs H Q => ∃ (a : Addr) (ps : List (V × PyData)), vs = [.ref a] ∧ (SqL K H a (ps.map (·.1)) ∨ SqT K H a (ps.map (·.1))) ∧ (∀ p ∈ ps, Dp K H p.1 p.2) ∧ PySem.W.AllAlike (ps.map (·.2)) ∧ PySem.W.Sortable (ps.map (·.2)) ∧ (∀ p ∈ ps, p.2.depth ≤ 8) ∧
  ∀ q, H q = none → Q (.ref q) (upd H q (.lst ((ps.mergeSort (PySem.W.dataLe false (·.2))).map (·.1))))
mutual
theorem reads_in {h : Heap} : ∀ (d : PyData) (v : Value) (as : List Addr), Reads h v d as → ∀ a ∈ as, ∃ o, h.get? a = some o
  | .none, _, _, r, a, m => by cases r; cases m
  | .bool _, _, _, r, a, m => by cases r; cases m
  | .int _, _, _, r, a, m => by cases r; cases m
  | .str _, _, _, r, a, m => by cases r; cases m
  | .list xs, _, _, r, a, m => by
    cases r with
    | list h1 h2 h3 h4 =>
      rcases List.mem_cons.mp m with z | z
      · subst z; exact ⟨_, h1⟩
      · exact readsAll_in xs _ _ h4 a z
  | .tuple xs, _, _, r, a, m => by
    cases r with
    | tuple h1 h2 h3 h4 => exact readsAll_in xs _ _ h4 a m
  | .dict kvs, _, _, r, a, m => by
    cases r with
    | dict h1 h2 h3 h4 h5 =>
      rw [List.cons_append] at m
      rcases List.mem_cons.mp m with z | z
      · subst z; exact ⟨_, h1⟩
      · rcases List.mem_append.mp z with z | z
        · exact readsKeys_in kvs _ _ h4 a z
        · exact readsVals_in kvs _ _ h5 a z
theorem readsAll_in {h : Heap} : ∀ (ds : List PyData) (vs : List Value) (as : List Addr), ReadsAll h vs ds as → ∀ a ∈ as, ∃ o, h.get? a = some o
  | [], _, _, r, a, m => by cases r; cases m
  | d :: ds, _, _, r, a, m => by
    cases r with
    | cons h1 h2 =>
      rcases List.mem_append.mp m with z | z
      · exact reads_in d _ _ h1 a z
      · exact readsAll_in ds _ _ h2 a z
theorem readsKeys_in {h : Heap} : ∀ (kvs : List (PyData × PyData)) (vs : List Value) (as : List Addr), ReadsAll h vs (kvs.map (·.1)) as → ∀ a ∈ as, ∃ o, h.get? a = some o
  | [], _, _, r, a, m => by cases r; cases m
  | (k, v) :: kvs, _, _, r, a, m => by
    cases r with
    | cons h1 h2 =>
      rcases List.mem_append.mp m with z | z
      · exact reads_in k _ _ h1 a z
      · exact readsKeys_in kvs _ _ h2 a z
theorem readsVals_in {h : Heap} : ∀ (kvs : List (PyData × PyData)) (vs : List Value) (as : List Addr), ReadsAll h vs (kvs.map (·.2)) as → ∀ a ∈ as, ∃ o, h.get? a = some o
  | [], _, _, r, a, m => by cases r; cases m
  | (k, v) :: kvs, _, _, r, a, m => by
    cases r with
    | cons h1 h2 =>
      rcases List.mem_append.mp m with z | z
      · exact reads_in v _ _ h1 a z
      · exact readsVals_in kvs _ _ h2 a z
end
section
variable {X : Cx}
theorem cr_sortedDt (hu : X.A.units + 64 < cLine) : CallR X (.builtin "sorted") (rSortedDt X.K) := by
  intro pins s σ H vs us Q I r h
  obtain ⟨a, ps, rfl, hs, hd, hal, hk2, hdep, q⟩ := h
  obtain ⟨its, rv, ⟨T, o, n, hT, ho, hc, hdt⟩, hz⟩ : ∃ its : List Value, Vals (ps.map (·.1)) its ∧ (∃ (T : String) (o : Obj) (n : Nat), (T = "list" ∨ T = "tuple") ∧ s.heap.get? a = some o ∧ o.cls = .type T ∧ o.data = .seq its.toArray n) ∧ (ps.map (·.1)).length ≤ sizeLine := by
    rcases hs with hs | hs
    · obtain ⟨its, rv, hl, hz⟩ := I.list hs
      obtain ⟨o, ho, hc, n, hd⟩ := hl.isList
      exact ⟨its, rv, ⟨_, o, n, .inl rfl, ho, hc, hd⟩, hz⟩
    · obtain ⟨its, rv, hl, hz⟩ := I.tuple hs
      obtain ⟨o, ho, hc, n, hd⟩ := hl
      exact ⟨its, rv, ⟨_, o, n, .inr rfl, ho, hc, hd⟩, hz⟩
  rw [Vals.ref1 r]
  have hli : its.length = ps.length := by have := rv.length; rw [List.length_map] at this; exact this.symm
  have hz2 : ps.length ≤ sizeLine := by rw [List.length_map] at hz; exact hz
  refine Calls.call_function_entry PyProof.Rows.kind_sorted PyProof.Rows.plain_sorted PyProof.Rows.entry_sorted (PyProof.Rows.args_sorted1 _) ?_
  unfold Builtin.«sorted»
  refine wpAny_bind (m := checkCount "sorted" 1 1 _) (wpAny_pure ?_)
  refine wpAny_bind (wpAny_collect_seq a hT ho hc hdt (fun h' hk => ?_) (by rw [List.size_toArray, hli]; exact hz2))
  have I1 : Inv X pins σ H { s with heap := h' } := I.kept (t' := s.toks) hk
  have e1 : PySem.W.EachIs (fun (v : Value) (p : V × PyData) => RelV p.1 v) its ps := by
    have : ∀ (ps : List (V × PyData)) (its : List Value), Vals (ps.map (·.1)) its → PySem.W.EachIs (fun (v : Value) (p : V × PyData) => RelV p.1 v) its ps := by
      intro ps
      induction ps with
      | nil => intro its h; cases h; exact .nil
      | cons p ps ih => intro its h; cases h with | cons h1 h2 => exact .cons h1 (ih _ h2)
    exact this ps its rv
  show wpAny _ _ _ _ _ { s with heap := h' }
  rw [List.toList_toArray]
  refine wpAny_bind (wpAny_newList ?_ (by rw [hli]; exact hz2))
  have hoL : (h'.push (seqObj "list" its.toArray 0)).get? h'.objs.size = some (seqObj "list" its.toArray 0) := Heap.get?_push_size _ rfl
  have kb : ∀ b o, h'.get? b = some o → (h'.push (seqObj "list" its.toArray 0)).get? b = some o := fun b o e => Heap.get?_push_of_some _ e
  show wpAny _ _ _ _ _ { s with heap := h'.push (seqObj "list" its.toArray 0) }
  have e2 : PySem.W.EachIs (fun v (p : V × PyData) => ∃ as, Reads (h'.push (seqObj "list" its.toArray 0)) v p.2 as ∧ h'.objs.size ∉ as) its ps := by
    have : ∀ (ps : List (V × PyData)) (its : List Value), (∀ p ∈ ps, Dp X.K H p.1 p.2) → Vals (ps.map (·.1)) its → PySem.W.EachIs (fun v (p : V × PyData) => ∃ as, Reads s.heap v p.2 as) its ps := by
      intro ps
      induction ps with
      | nil => intro its _ h; cases h; exact .nil
      | cons p ps ih => intro its hp h; cases h with | cons h1 h2 => exact .cons (Dp.reads I _ _ _ (hp p List.mem_cons_self) h1) (ih _ (fun y hy => hp y (List.mem_cons_of_mem _ hy)) h2)
    refine (this ps its hd rv).mono fun v p ⟨as, hr⟩ => ⟨as, PyProof.Rows.Reads.keeps (fun b o e => kb _ _ (hk b o e)) hr, fun hm => ?_⟩
    obtain ⟨o', ho'⟩ := reads_in p.2 v as hr _ hm
    exact Nat.lt_irrefl _ (Heap.lt_size (hk _ _ ho'))
  refine wpAny_bind (wpAny_holding (PySem.W.list_sort_data (s := { s with heap := h'.push (seqObj "list" its.toArray 0) }) (bs := ps) (enc := fun p : V × PyData => p.2) (R := fun v p => RelV p.1 v) hoL e1 e2 hal hk2 hz2 (fun p hp => ?_) fun out hlo eo => ?_))
  · have := hdep p hp
    show X.A.in1.units + 1 + p.2.depth < cLine
    have h1 : X.A.in1.units ≤ X.A.units + 1 := Nat.le_refl _
    omega
  · have hv : Vals ((ps.mergeSort (PySem.W.dataLe false (·.2))).map (·.1)) out := by
      have : ∀ (qs : List (V × PyData)) (out : List Value), PySem.W.EachIs (fun (v : Value) (p : V × PyData) => RelV p.1 v) out qs → Vals (qs.map (·.1)) out := by
        intro qs
        induction qs with
        | nil => intro out h; cases h; exact .nil
        | cons p ps ih => intro out h; cases h with | cons h1 h2 => exact .cons h1 (ih _ h2)
      exact this _ _ eo
    have hlen : ((ps.mergeSort (PySem.W.dataLe false (·.2))).map (·.1)).length ≤ sizeLine := by rw [List.length_map, (List.mergeSort_perm _ _).length_eq]; exact hz2
    obtain ⟨e', he'⟩ := PyProof.Rows.sortedHeap_at (vs := its) (out := out.toArray) hoL
    refine wpAny_pure ⟨_, rfl, .ref h'.objs.size, upd H h'.objs.size (.lst _), I1.laid (t' := s.toks) (fun b u e => ?_) (Nat.le_refl _) ⟨hlen, out, e', hv, he'⟩, rfl, q _ (I1.hok.fresh (Nat.le_refl _))⟩
    have hb : b < h'.objs.size := Heap.lt_size e
    rw [PyProof.Rows.sortedHeap_old (Nat.ne_of_lt hb) (by rw [size_push']; exact Nat.lt_succ_of_lt hb)]
    exact Heap.get?_push_of_some _ e
theorem p_sortedDt {e : Expr} {es : List Expr} {t : TA} {p pos : Pos} {j : Nat} (hr : Room j X.A) (B : Bf X.mg) (ha : PA X (e :: es) t) (hg : Gl X "sorted" := by rfl) (he : starEach (e :: es) X.env = (false, eval e X.env) :: starEach es X.env := by rfl) (hpl : (backTo pos (starEach es X.env)).any (·.1) = false := by rfl) :
    PE X (.Call (.Name "sorted" p) (e :: es) [] pos) (tCB (rSortedDt X.K) t) := pe_callB (cr_sortedDt hr.units) hg B.sorted boot_sorted ha (by decide) (by decide) he hpl
end
/-- rows, in their order -/
def sortR (xs : List (List Nat)) : List (List Nat) := xs.mergeSort fun a b => decide (a ≤ b)
theorem sortR_perm {xs : List (List Nat)} : (sortR xs).Perm xs := List.mergeSort_perm _ _
theorem sortR_sorted {xs : List (List Nat)} : (sortR xs).Pairwise (· ≤ ·) := by
  have := List.pairwise_mergeSort (le := fun a b : List Nat => decide (a ≤ b)) (fun a b c h1 h2 => by
    simp only [decide_eq_true_eq] at *; exact List.le_trans h1 h2) (fun a b => by
    simp only [Bool.or_eq_true, decide_eq_true_eq]; exact List.le_total _ _) xs
  exact this.imp fun h => of_decide_eq_true h
theorem sortR_eq {xs ys : List (List Nat)} (h1 : ys.Pairwise (· ≤ ·)) (h2 : ys.Perm xs) : sortR xs = ys :=
  List.Perm.eq_of_pairwise (le := (· ≤ ·)) (fun a b _ _ x y => List.le_antisymm x y) sortR_sorted h1 (sortR_perm.trans h2.symm)
theorem sortR_congr {xs ys : List (List Nat)} (h : xs.Perm ys) : sortR xs = sortR ys := sortR_eq sortR_sorted (sortR_perm.trans h.symm)
theorem cI_le {a b : List Nat} : cI a ≤ cI b ↔ a ≤ b := by
  have key : ∀ a b : List Nat, cI b < cI a ↔ b < a := by
    intro a
    induction a with
    | nil => intro b; simp
    | cons x a ih =>
      intro b
      cases b with
      | nil => simp
      | cons y b =>
        show ((y : Int) :: cI b) < ((x : Int) :: cI a) ↔ _
        rw [List.cons_lt_cons_iff, List.cons_lt_cons_iff, ih]
        constructor
        · rintro (h | ⟨h1, h2⟩)
          · exact .inl (by omega)
          · exact .inr ⟨by omega, h2⟩
        · rintro (h | ⟨h1, h2⟩)
          · exact .inl (by omega)
          · exact .inr ⟨by omega, h2⟩
  rw [← List.not_lt, ← List.not_lt, key]
theorem partsI_eq {re : Rows} : partsI re = (sortR (keysOf re re.length)).map cI := by
  refine List.Perm.eq_of_pairwise (le := (· ≤ ·)) (fun a b _ _ x y => List.le_antisymm x y) parts_sorted ?_ ?_
  · rw [List.pairwise_map]
    exact sortR_sorted.imp fun h => cI_le.mpr h
  · exact parts_perm.trans (sortR_perm.map _).symm
/-- the parts of a web -/
noncomputable def partsN (rs : Rows) : Rows := sortR (keysOf (reachs rs) rs.length)
theorem partsN_data {rs : Rows} : PyData.tuple ((partsI (reachs rs)).map dI) = dT (dT dN) (partsN rs) := by
  rw [partsI_eq, partsN, reachs_len, List.map_map]
  show PyData.tuple _ = PyData.tuple _
  refine congrArg PyData.tuple (List.map_congr_left fun r _ => ?_)
  show dI (cI r) = .tuple (r.map dN)
  rw [dI]
  exact congrArg PyData.tuple (row_int (r := r)).symm
theorem dataLe_tup {β : Type} (x : β → List Nat) (f : β → PyData) (hf : ∀ b, f b = dT dN (x b)) : PySem.W.dataLe false f = fun p q => decide (x p ≤ x q) := by
  have e : f = fun b => dI (cI (x b)) := by
    funext b
    rw [hf]
    show PyData.tuple _ = PyData.tuple _
    exact congrArg PyData.tuple (row_int (r := x b))
  rw [e, dataLe_tups]
  funext p q
  exact decide_eq_decide.mpr cI_le
section
variable {ε α : Type} {K : PySem.W.Frag}
theorem with_rows {F : Hp} : ∀ {xs : List (List Nat)} {us : List V}, DpAll K F us (xs.map (dT dN)) → ∃ ps : List (V × List Nat), ps.map (·.1) = us ∧ ps.map (·.2) = xs ∧ ∀ p ∈ ps, Dp K F p.1 (dT dN p.2)
  | [], _, .nil => ⟨[], rfl, rfl, fun p hp => nomatch hp⟩
  | x :: xs, _, .cons h1 h2 => by
    obtain ⟨ps, e1, e2, e3⟩ := with_rows (xs := xs) h2
    exact ⟨(_, x) :: ps, by rw [List.map_cons, e1], by rw [List.map_cons, e2], fun p hp => (List.mem_cons.mp hp).elim (fun z => by subst z; exact h1) (e3 p)⟩
/-- sorted of a list of rows, none of them empty -/
theorem c_sortedR : Cb ε (rSortedDt K) (fun xs => [fD K (dL (dT dN)) xs]) (fun xs Q X => (∀ x ∈ xs, x ≠ []) ∧ Q (sortR xs)) (fD K (dL (dT dN))) := ⟨fun xs vs F L hv Q X ⟨q0, q1⟩ => fun F2 N H e A Qk qk => by
  obtain ⟨v, rfl, hx⟩ := each1 hv
  have h' : Dt K (.list (xs.map (dT dN))) v F := hx
  obtain ⟨a, us, rfl, hs, hr⟩ := ls_dt.mpr h'
  have ha := each_dt.mp hr
  have hz := with_rows ha
  obtain ⟨ps, e1, e2, e3⟩ := hz
  subst e1 e2
  refine ⟨a, ps.map fun p => (p.1, dT dN p.2), rfl, ?_, ?_, ?_, ?_, ?_, fun q hq => ?_⟩
  · rw [List.map_map]; exact .inl (sqL_up (e.trans A.ex) hs)
  · intro p hp
    obtain ⟨p0, hp0, rfl⟩ := List.mem_map.mp hp
    exact dp_up (e.trans A.ex) (e3 p0 hp0)
  · rw [List.map_map]
    refine PySem.W.AllAlike.of fun p q => ?_
    show PySem.W.alike (.tuple _) (.tuple _) = true
    rw [PySem.W.alike]
    have r1 : p.2.map dN = (cI p.2).map PyData.int := row_int
    have r2 : q.2.map dN = (cI q.2).map PyData.int := row_int
    rw [r1, r2]
    exact PySem.W.alike_ints _ _
  · refine .inl fun d hd => ?_
    rw [List.map_map] at hd
    obtain ⟨p0, hp0, rfl⟩ := List.mem_map.mp hd
    have hne := q0 p0.2 (List.mem_map.mpr ⟨p0, hp0, rfl⟩)
    show ∃ x r, PyData.tuple (p0.2.map dN) = .tuple (x :: r)
    cases h : p0.2 with
    | nil => exact absurd h hne
    | cons y ys => exact ⟨dN y, ys.map dN, rfl⟩
  · intro p hp
    obtain ⟨p0, hp0, rfl⟩ := List.mem_map.mp hp
    show (dT dN p0.2).depth ≤ 8
    have := Nice.dep (d := dT dN) p0.2
    omega
  · have hms : (ps.map fun p => (p.1, dT dN p.2)).mergeSort (PySem.W.dataLe false (·.2)) = (ps.mergeSort fun p q => decide (p.2 ≤ q.2)).map fun p => (p.1, dT dN p.2) := by
      rw [List.map_mergeSort]
      intro p hp q hq
      have := congrFun (congrFun (dataLe_tup (β := V × List Nat) (fun p => p.2) (fun p => dT dN p.2) fun _ => rfl) p) q
      exact this.symm
    rw [hms, List.map_map]
    have s1 := same_new (o := HO.lst ((ps.mergeSort fun p q => decide (p.2 ≤ q.2)).map fun p => p.1)) (A.free hq)
    refine qk _ (upd F2 q _) _ s1 (A.new hq) ⟨_, q1, ?_⟩
    have hsort : sortR (ps.map (·.2)) = (ps.mergeSort fun p q => decide (p.2 ≤ q.2)).map (·.2) := by
      refine sortR_eq ?_ ((List.mergeSort_perm _ _).map _)
      rw [List.pairwise_map]
      have := List.pairwise_mergeSort (le := fun p q : V × List Nat => decide (p.2 ≤ q.2)) (fun a b c h1 h2 => by
        simp only [decide_eq_true_eq] at *; exact List.le_trans h1 h2) (fun a b => by
        simp only [Bool.or_eq_true, decide_eq_true_eq]; exact List.le_total _ _) ps
      exact this.imp fun h => of_decide_eq_true h
    rw [hsort]
    refine ls_dt.mp ⟨q, _, rfl, .inl (.inl upd_same), ?_⟩
    rw [List.map_map, List.map_map]
    have all : ∀ l : List (V × List Nat), (∀ p ∈ l, p ∈ ps) → Each (l.map fun p => Dt K (dT dN p.2)) (l.map fun p => p.1) (upd F2 q (.lst ((ps.mergeSort fun p q => decide (p.2 ≤ q.2)).map fun p => p.1))) := by
      intro l
      induction l with
      | nil => intro _; exact True.intro
      | cons p l ih => intro hm; exact ⟨dp_up (e.trans s1) (e3 p (hm p List.mem_cons_self)), ih fun y hy => hm y (List.mem_cons_of_mem _ hy)⟩
    exact all _ fun p hp => (List.mergeSort_perm _ _).mem_iff.mp hp⟩
/-- sorted of a tuple, a list of numbers -/
theorem dataLe_nat {β : Type} (x : β → Nat) (f : β → PyData) (hf : ∀ b, f b = dN (x b)) : PySem.W.dataLe false f = fun p q => decide (x p ≤ x q) := by
  funext p q
  show (!PySem.W.dataLt (f q) (f p)) = _
  rw [hf, hf]
  show (!PySem.W.dataLt (.int (x q : Nat)) (.int (x p : Nat))) = _
  rw [PySem.W.dataLt_int]
  by_cases h : x q < x p
  · have h' : ¬ x p ≤ x q := by omega
    have h2 : ((x q : Nat) : Int) < (x p : Nat) := by omega
    simp [h2, h']
  · have h' : x p ≤ x q := by omega
    have h2 : ¬ ((x q : Nat) : Int) < (x p : Nat) := by omega
    simp [h2, h']
theorem c_sortedT : Cb ε (rSortedDt K) (fun xs => [fD K (dT dN) xs]) (fun xs Q X => xs.length ≤ 1000 ∧ Q (sortN xs)) (fD K (dL dN)) := ⟨fun xs vs F L hv Q X ⟨q0, q1⟩ => fun F2 N H e A Qk qk => by
  obtain ⟨v, rfl, hx⟩ := each1 hv
  have h' : Dt K (.tuple (xs.map dN)) v F := hx
  obtain ⟨a, us, rfl, hs, hr⟩ := tp_dt.mpr h'
  have hi : us = (cI xs).map V.int := by
    have e : xs.map dN = (cI xs).map PyData.int := row_int (r := xs)
    have ha := each_dt.mp hr
    rw [e] at ha
    exact vs_ints ha
  subst hi
  refine ⟨a, xs.map fun n => (V.int (n : Nat), dN n), rfl, ?_, ?_, ?_, ?_, ?_, fun q hq => ?_⟩
  · rw [List.map_map]
    have hs' := sqT_up (e.trans A.ex) hs
    rw [List.map_map] at hs'
    exact .inr hs'
  · intro p hp
    obtain ⟨n, hn, rfl⟩ := List.mem_map.mp hp
    exact .int _
  · rw [List.map_map]
    exact PySem.W.AllAlike.of fun p q => rfl
  · refine .inr fun d hd => ?_
    rw [List.map_map] at hd
    obtain ⟨n, hn, rfl⟩ := List.mem_map.mp hd
    exact And.intro (fun z => by cases z) (fun xs z => by cases z)
  · intro p hp
    obtain ⟨n, hn, rfl⟩ := List.mem_map.mp hp
    show (dN n).depth ≤ 8
    exact Nat.zero_le _
  · have hms : (xs.map fun n : Nat => (V.int (n : Nat), dN n)).mergeSort (PySem.W.dataLe false (·.2)) = (sortN xs).map fun n : Nat => (V.int (n : Nat), dN n) := by
      rw [sortN, List.map_mergeSort]
      intro p hp q hq
      have := congrFun (congrFun (dataLe_nat (β := Nat) (fun p => p) (fun p => dN p) fun _ => rfl) p) q
      exact this.symm
    rw [hms, List.map_map]
    have s1 := same_new (o := HO.lst ((sortN xs).map fun n : Nat => V.int (n : Nat))) (A.free hq)
    refine qk _ (upd F2 q _) _ s1 (A.new hq) ⟨_, q1, ?_⟩
    refine ls_dt.mp ⟨q, _, rfl, .inl (.inl upd_same), ?_⟩
    rw [List.map_map]
    exact each_ints⟩
end
end Tw

/-! Tw8: two lists of one's own at once; list(range(n)) as one's own; the cask. -/
namespace Tw
open PySem PySem.Spec PyProof.Rows L2 SlX StX Rs Ma
section
variable {ε α β γ δ S : Type} {Z : Wsh ε} {ρ : List (Option VP)} {κ : List Ow} {K : PySem.W.Frag} {w : World} {te ta tb tc : TE} {t : TA} {u u1 w1 : TS} {ma : Wm ε (List α)} {mb : Wm ε (List β)} {m : Wm ε α} {mn : Wm ε Nat} {Ra R : α → VP} {Rb : β → VP} {Rd : δ → VP} {i j : Nat}
  {ρ2 : S → List (Option VP)} {κ2 : S → List Ow}
theorem tr_perm2 {c d : Ow} (h : TrE Z ρ (d :: c :: κ) te m R) : TrE Z ρ (c :: d :: κ) te m R :=
  ⟨h.mono, fun σ F L sv ⟨a, o, L', hL, h1, h2, ⟨a', o', L'', hL', h1', h2', h3'⟩⟩ Q X q F1 N H e A wsh Qk qk => by
    subst hL hL'
    have P : ((a, o) :: (a', o') :: L'' ++ N).Perm ((a', o') :: (a, o) :: L'' ++ N) := List.Perm.swap _ _ _
    exact h.run σ F ((a', o') :: (a, o) :: L'') sv ⟨a', o', _, rfl, h1', h2', a, o, _, rfl, h1, h2, h3'⟩ Q X q F1 N H e (A.perm P) wsh Qk fun v F2 H2 e2 A2 r => qk v F2 H2 e2 (A2.perm (List.Perm.swap _ _ _)) r⟩
theorem ts_parNN {i j : Nat} {mk : List α → List β → Ws ε S δ} (ha : TrN Z ρ κ ta ma R) (hb : TrN Z ρ κ tb mb Rb) (f : freeCs [i, j] κ = true) (hij : Nat.beq i j = false) (hi : Nat.blt i ρ.length = true) (hj : Nat.blt j ρ.length = true)
    (k : ∀ xs ys, TrS Z (st (st ρ i none) j none) ((j, ownL (ys.map Rb)) :: (i, ownL (xs.map R)) :: κ) u (mk xs ys) ρ2 κ2 Rd) :
    TrS Z ρ κ (tSeq (tPar i j (tCons ta (tCons tb tNil))) u) (fun Nx Rt X => ma (fun xs => mb (fun ys => mk xs ys Nx Rt X) X) X) ρ2 κ2 Rd :=
  have := ha.mono
  have := hb.mono
  ⟨fun σ F L sv sc Nx Rt X q F1 N H e A wsh D nx rt => by
    show ta σ H (fun v H1 => tb σ H1 fun v' H2 => ∃ v1 w1, [v, v'] = [v1, w1] ∧ u D ((σ.set i (some v1)).set j (some w1)) H2)
    refine ha.run σ F L sv sc _ X q F1 N H e A wsh _ fun p vs F2 H2 xs e2 A2 r q1 => ?_
    have e12 := e.trans e2
    have P0 : ((p, HO.lst vs) :: (L ++ N)).Perm (L ++ ((p, .lst vs) :: N)) := List.perm_middle.symm
    refine hb.run σ F2 L (satV_up e12 sv) (satC_up e12 sc) _ X q1 F2 ((p, .lst vs) :: N) H2 (Same.refl _) (A2.perm P0) (wsh.up e2).push1 _ fun p' vs' F3 H3 ys e3 A3 r' q2 => ⟨.ref p, .ref p', rfl, ?_⟩
    have e13 := e12.trans e3
    have hl := sat_len sv
    have c3 : SatC κ ((σ.set i (some (.ref p))).set j (some (.ref p'))) F3 L := satC_agree (js := [i, j]) (fun l hl => by
      rw [List.mem_cons, List.mem_singleton, not_or] at hl
      rw [List.getElem?_set_ne (fun z => hl.2 z.symm), List.getElem?_set_ne (fun z => hl.1 z.symm)]) f (satC_up e13 sc)
    have P1 : ((p', HO.lst vs') :: (L ++ (p, .lst vs) :: N)).Perm ((p', HO.lst vs') :: (p, .lst vs) :: (L ++ N)) := List.Perm.cons _ List.perm_middle
    have hij' : i ≠ j := fun z => by rw [z, Nat.beq_refl] at hij; cases hij
    refine (k xs ys).run _ F3 ((p', .lst vs') :: (p, .lst vs) :: L) (satV_none (satV_none (satV_up e13 sv))) ⟨p', .lst vs', _, rfl, ?_, fun F' e' => ⟨vs', rfl, MonoL.mono _ _ _ e' r'⟩, p, .lst vs, L, rfl, ?_, fun F' e' => ⟨vs, rfl, MonoL.mono _ _ _ (e3.trans e') r⟩, c3⟩ Nx Rt X q2 F3 N H3 (Same.refl _) (A3.perm P1) (wsh.up (e2.trans e3)) D
      (fun σ4 F4 L4 H4 e4 A4 n => nx σ4 F4 L4 H4 ((e2.trans e3).trans e4) A4 n) fun v F4 H4 e4 A4 n => rt v F4 H4 ((e2.trans e3).trans e4) A4 n
    · rw [List.getElem?_set_self (by rw [List.length_set, ← hl]; exact Nat.le_of_ble_eq_true hj)]
    · rw [List.getElem?_set_ne (fun z => hij' z.symm), List.getElem?_set_self (by rw [← hl]; exact Nat.le_of_ble_eq_true hi)]⟩
theorem tn_listRg (h : TrE Z ρ κ te mn (fD K dN)) : TrN Z ρ κ (tLstRg (tRg1 te)) (fun Q X => mn (fun n => n ≤ 1000 ∧ Q (List.range n)) X) (fD K dN) :=
  ⟨inferInstance, fun σ F L s c Q X q F1 N H e A wsh Qk qk => h.run σ F L s c _ X q F1 N H e A wsh _ fun v F2 H2 e2 A2 ⟨n, ⟨q0, q1⟩, r⟩ => by
    cases r
    refine ⟨(n : Int), rfl, RgOk.of_le (by omega) (by omega) (by omega) (by omega), fun p hp => ?_⟩
    rw [rgV_nat]
    exact qk p _ F2 _ (List.range n) e2 (A2.cell hp) each_ints q1⟩
/-- x.append(y.pop(n)) -/
theorem ts_appPop {xs ys : List α} {mk : Nat → α → Ws ε S δ} [∀ a, Mono (R a)] (h : TrE Z ρ ((i, ownL (xs.map R)) :: (j, ownL (ys.map R)) :: κ) te mn (fD K dN)) (k : ∀ n a, TrS Z ρ ((i, ownL ((xs ++ [a]).map R)) :: (j, ownL ((ys.eraseIdx n).map R)) :: κ) u (mk n a) ρ2 κ2 Rd) :
    TrS Z ρ ((i, ownL (xs.map R)) :: (j, ownL (ys.map R)) :: κ) (tSeq (tDrop (tBM K "list" rAppend (tVar i) (tCons (tBM K "list" rPopAt (tVar j) (tCons te tNil)) tNil))) u)
      (fun Nx Rt X => mn (fun n => ∃ a, ys[n]? = some a ∧ (xs.length < 100000 ∧ n < 100000) ∧ mk n a Nx Rt X) X) ρ2 κ2 Rd :=
  ⟨fun σ F L sv sc Nx Rt X q F1 N H e A wsh D nx rt => by
    obtain ⟨a, o, L', hL, h1, h2, a', o', L'', hL', h1', h2', h3⟩ := sc
    obtain ⟨vs, ho, hv⟩ := h2 F (Same.refl _)
    obtain ⟨vs', ho', hv'⟩ := h2' F (Same.refl _)
    subst hL ho hL' ho'
    have A0 : At F1 ((a, .lst vs) :: (a', .lst vs') :: (L'' ++ N)) H := A
    refine ⟨.ref a, h1, .inl ⟨rfl, vs, .inl (.inl (A0.on (a, .lst vs) List.mem_cons_self))⟩, .ref a', h1', .inl ⟨rfl, vs', .inl (.inl (A0.on (a', .lst vs') (List.mem_cons_of_mem _ List.mem_cons_self)))⟩, ?_⟩
    refine h.run σ F ((a, .lst vs) :: (a', .lst vs') :: L'') sv ⟨a, .lst vs, _, rfl, h1, h2, a', .lst vs', L'', rfl, h1', h2', h3⟩ _ X q F1 N H e A wsh _ fun v F2 H2 e2 A2 ⟨n, ⟨x, hn, ⟨hz, hz2⟩, q1⟩, hx⟩ => ?_
    cases hx
    have e12 := e.trans e2
    have hl := each_length hv
    have hl' := each_length hv'
    rw [List.length_map] at hl hl'
    have hn1 : n < ys.length := (List.getElem?_eq_some_iff.mp hn).1
    have hn2 : n < vs'.length := by omega
    obtain ⟨R', g1, g2⟩ := each_at hv' (List.getElem?_eq_getElem hn2)
    rw [List.getElem?_map, hn] at g1
    cases g1
    have A2o : At F2 ((a, .lst vs) :: (a', .lst vs') :: (L'' ++ N)) H2 := A2
    refine ⟨a', vs', (n : Int), n, vs'[n], rfl, rfl, A2o.on (a', .lst vs') (List.mem_cons_of_mem _ List.mem_cons_self), by omega, by omega, ?_, List.getElem?_eq_getElem hn2, ?_⟩
    · exact (ixN_seq (by unfold ixN; rw [if_pos (by omega), if_pos (by omega)]; simp)).1
    have A2' : At F2 ((a', .lst vs') :: (a, .lst vs) :: (L'' ++ N)) H2 := A2.perm (List.Perm.swap _ _ _)
    have A3 := At.put (u := .lst (vs'.eraseIdx n)) A2'
    have A3' : At F2 ((a, .lst vs) :: (a', .lst (vs'.eraseIdx n)) :: (L'' ++ N)) _ := A3.perm (List.Perm.swap _ _ _)
    refine ⟨a, vs, vs'[n], rfl, rfl, A3'.on1, len_lt (by omega), ?_⟩
    have A4 := At.put (u := .lst (vs ++ [vs'[n]])) A3'
    have hv2 : Each ((xs ++ [x]).map R) (vs ++ [vs'[n]]) F2 := by rw [List.map_append]; exact each_app (MonoL.mono _ _ _ e12 hv) ⟨Mono.go g2 e12, True.intro⟩
    have hv3 : Each ((ys.eraseIdx n).map R) (vs'.eraseIdx n) F2 := by
      have key : ∀ (ys : List α) (vs : List V) (n : Nat), Each (ys.map R) vs F2 → Each ((ys.eraseIdx n).map R) (vs.eraseIdx n) F2 := by
        intro ys
        induction ys with
        | nil => intro vs n h; cases vs with
          | nil => exact h
          | cons _ _ => exact h.elim
        | cons y ys ih => intro vs n h; cases vs with
          | nil => exact h.elim
          | cons u us => cases n with
            | zero => exact h.2
            | succ n => exact ⟨h.1, ih us n h.2⟩
      exact key ys vs' n (MonoL.mono _ _ _ e12 hv')
    exact (k n x).run σ F2 ((a, .lst (vs ++ [vs'[n]])) :: (a', .lst (vs'.eraseIdx n)) :: L'') (satV_up e12 sv) ⟨a, _, _, rfl, h1, fun F' e' => ⟨_, rfl, MonoL.mono _ _ _ e' hv2⟩, a', _, L'', rfl, h1', fun F' e' => ⟨_, rfl, MonoL.mono _ _ _ e' hv3⟩, satC_up e12 h3⟩ Nx Rt X q1 F2 N _ (Same.refl _) A4 (wsh.up e2) D
      (fun σ3 F3 L3 H3 e3 A3 n => nx σ3 F3 L3 H3 (e2.trans e3) A3 n) fun v F3 H3 e3 A3 n => rt v F3 H3 (e2.trans e3) A3 n⟩
end
section
variable {P : Program} {w : World} {K : PySem.W.Frag} {mg : Str → Option Value} {base : Heap} {γ δ : Type} {k : Nat}
theorem SpF.toF {pre : γ → Prop} {Rs : γ → List VP} {f : γ → δ} {R : δ → VP} {vs : List V} {H : Hp} {Q : VK} {E : XK} (h : SpF pre Rs (fun g => R (f g)) vs H Q E) : SpN Rs (fun g Q => pre g ∧ Q (f g)) R vs H Q E :=
  let ⟨g, F, N, hp, A, hv, q⟩ := h
  ⟨g, F, N, fun d => d = f g, A, hv, ⟨hp, rfl⟩, fun d v F' H' e A' p r => by
    have p : d = f g := p
    subst p
    exact q v F' H' e A' r⟩
/-- the cask, the scoop -/
theorem cask_toN {x : Str} (h : Gf P w K mg base k x (SpF (γ := List Int × Nat) (fun g => g.1.length ≤ 63) (fun g => [Dt K (.list (g.1.map .int)), Dt K (nI g.2)]) (fun _ => Ck 3))) :
    Gf P w K mg base k x (SpN (fun g : List Int × Nat => [fD K (dL dInt) g.1, fD K dN g.2]) (fun (g : List Int × Nat) (Q : Unit → Prop) => g.1.length ≤ 63 ∧ Q ()) (fCk 3)) := Gf.toN (f := fun _ => ()) (R := fCk 3) h
theorem scoop_toN {x : Str} (h : Gf P w K mg base k x (SpF (γ := Nat) (fun t => 1 ≤ t ∧ t ≤ 1000) (fun t => [Ck 3, Dt K (nI t)]) Bd)) :
    Gf P w K mg base k x (SpN (fun g : Unit × Nat => [fCk 3 g.1, fD K dN g.2]) (fun (g : Unit × Nat) (Q : Nat → Prop) => (1 ≤ g.2 ∧ g.2 ≤ 1000) ∧ ∀ n, n < g.2 → Q n) (fD K dN)) :=
  let ⟨a, fd, ps, F, h1, h2, h3⟩ := h
  ⟨a, fd, ps, F.imp fun vs H Q E ⟨g, F0, N, P, A, hv, ⟨hp, q⟩, r⟩ => ⟨g.2, F0, N, hp, A, hv, fun v F' H' e A' ⟨n, hn, hv⟩ => r n v F' H' e A' (q n hn) (by subst hv; exact .int _)⟩, h1, h2, h3⟩
end
end Tw

/-! Tw9: the head's parts that are alike in all laws. -/
namespace Tw
open PySem PySem.Spec PyProof.Rows L2 SlX StX Rs Ma
def TopFn (K : PySem.W.Frag) (x : Str) (st : Stmt) (ps : List Str) : Prop := ∃ f fd, PySem.W.nsIn K mainGlobals x = some (some (.ref f)) ∧ Fun K x x st f fd ∧ Binds K fd ps []
theorem top_fn {K : PySem.W.Frag} {x : Str} {st : Stmt} {ps : List Str} {f : Addr} {oc : Value} {od an : Option Addr} {osl : Array (Option Value)} {kV doc pm cdv ct : Value} (a : PySem.W.nsIn K mainGlobals x = some (some (.ref f)))
    (l : K.lookup f = some ⟨oc, od, .func (PySem.W.fnOf x x (defArgs st) (defBody st) (defScope st) .none kV doc pm an cdv ct), osl⟩) (c : PySem.W.codeIn K cdv x = true) (k : PySem.W.keepIn K (.ref f) = true)
    (b : ∀ (kV doc pm : Value) (an : Option Addr) (cdv ct : Value) (us : List Value), us.length = ps.length → bindArgs (PySem.W.fnOf x x (defArgs st) (defBody st) (defScope st) .none kV doc pm an cdv ct) ⟨us, []⟩ = pure (ps.zip us)) : TopFn K x st ps :=
  ⟨f, _, a, fun_mk l c k, (fun_mk (st := st) l c k).binds b⟩
def MetFn (K : PySem.W.Frag) (C : Addr) (x qual : Str) (st : Stmt) (ps : List Str) : Prop := ∃ f fd, PySem.W.findIn K (.ref C) x = some (some (.ref f)) ∧ PySem.W.isFn K (.ref f) = true ∧ Fun K x qual st f fd ∧ Binds K fd ps []
theorem met_fn {K : PySem.W.Frag} {C : Addr} {x qual : Str} {st : Stmt} {ps : List Str} {f : Addr} {oc : Value} {od an : Option Addr} {osl : Array (Option Value)} {kV doc pm cdv ct : Value} (a : PySem.W.findIn K (.ref C) x = some (some (.ref f))) (i : PySem.W.isFn K (.ref f) = true)
    (l : K.lookup f = some ⟨oc, od, .func (PySem.W.fnOf x qual (defArgs st) (defBody st) (defScope st) .none kV doc pm an cdv ct), osl⟩) (c : PySem.W.codeIn K cdv qual = true) (k : PySem.W.keepIn K (.ref f) = true)
    (b : ∀ (kV doc pm : Value) (an : Option Addr) (cdv ct : Value) (us : List Value), us.length = ps.length → bindArgs (PySem.W.fnOf x qual (defArgs st) (defBody st) (defScope st) .none kV doc pm an cdv ct) ⟨us, []⟩ = pure (ps.zip us)) : MetFn K C x qual st ps :=
  ⟨f, _, a, i, fun_mk l c k, (fun_mk (st := st) l c k).binds b⟩
def PrpFn (K : PySem.W.Frag) (C : Addr) (x qual : Str) (st : Stmt) : Prop := ∃ p g fd, PySem.W.findIn K (.ref C) x = some (some (.ref p)) ∧ PySem.W.specialIn K (.ref p) "__get__" = some (some (.builtin "property.__get__")) ∧ PySem.W.takesIn K (.ref p) = some true ∧
    (∃ rest, PySem.W.recIn K p "property" = some (.ref g :: rest)) ∧ Fun K x qual st g fd ∧ Binds K fd ["self"] []
theorem prp_fn {K : PySem.W.Frag} {C p : Addr} {x qual : Str} {st : Stmt} {f : Addr} {rest : List Value} {oc : Value} {od an : Option Addr} {osl : Array (Option Value)} {kV doc pm cdv ct : Value} (a : PySem.W.findIn K (.ref C) x = some (some (.ref p)))
    (s : PySem.W.specialIn K (.ref p) "__get__" = some (some (.builtin "property.__get__"))) (t : PySem.W.takesIn K (.ref p) = some true) (r : PySem.W.recIn K p "property" = some (.ref f :: rest))
    (l : K.lookup f = some ⟨oc, od, .func (PySem.W.fnOf x qual (defArgs st) (defBody st) (defScope st) .none kV doc pm an cdv ct), osl⟩) (c : PySem.W.codeIn K cdv qual = true) (k : PySem.W.keepIn K (.ref f) = true)
    (b : ∀ (kV doc pm : Value) (an : Option Addr) (cdv ct : Value) (us : List Value), us.length = 1 → bindArgs (PySem.W.fnOf x qual (defArgs st) (defBody st) (defScope st) .none kV doc pm an cdv ct) ⟨us, []⟩ = pure ((["self"] : List Str).zip us)) : PrpFn K C x qual st :=
  ⟨p, f, _, a, s, t, ⟨rest, r⟩, fun_mk l c k, (fun_mk (st := st) l c k).binds b⟩
def SlotAt (K : PySem.W.Frag) (C : Addr) (x : Str) (i : Nat) : Prop := ∃ p, Slot1 K C x p i
theorem slot_at {K : PySem.W.Frag} {C p : Addr} {x : Str} {i : Nat} (a : PySem.W.findIn K (.ref C) x = some (some (.ref p))) (s : PySem.W.specialIn K (.ref p) "__get__" = some (some (.builtin "member_descriptor.__get__"))) (t : PySem.W.takesIn K (.ref p) = some true)
    (y : PySem.W.typeIn K (.ref p) = some (.type "member_descriptor")) (j : PySem.W.slotIn K p C = some i) (h : i < 1000) : SlotAt K C x i := ⟨p, a, s, t, y, j, h⟩
theorem kit_self {K : PySem.W.Frag} {C : Addr} : PySem.W.kitOne K (.ref C) (.ref C) = some true := by
  unfold PySem.W.kitOne; rw [if_pos (by simp)]
/-- law's, as the head asks it -/
def spLaw (K : PySem.W.Frag) : Sp := fun vs H Q _ => ∃ (a : Addr) (ns : List Int), vs = [.ref a] ∧ SqL K H a (ns.map V.int) ∧ ns.length ≤ 63 ∧ ∀ H', Q (.bl true) H'
theorem law_fn {P : Program} {w : World} {K : PySem.W.Frag} {mg : Str → Option Value} {base : Heap} {k : Nat} {f : Addr} {fd : FuncData} {ps : List Str} (G : FnOk P w K mg base CX0 k f fd ps (SpN (fun ns : List Int => [fD K (dL dInt) ns]) (fun (ns : List Int) (Q : Bool → Prop) => ns.length ≤ 63 ∧ Q true) (fD K dB))) : FnOk P w K mg base CX0 k f fd ps (spLaw K) := by
  refine G.imp fun vs H Q E ⟨a, ns, e, hs, hl, q⟩ => ?_
  subst e
  refine ⟨ns, H, [], fun b => b = true, At.self, ⟨?_, True.intro⟩, ⟨hl, rfl⟩, fun d v F' H' _ _ hd hv => ?_⟩
  · exact ls_dt.mp ⟨a, _, rfl, hs, each_dt.mpr ints_vs⟩
  · have hd : d = true := hd
    subst hd
    rw [dt_bl hv]; exact q H'
theorem own_toN {P : Program} {w : World} {K : PySem.W.Frag} {mg : Str → Option Value} {base : Heap} {γ δ : Type} {k : Nat} {C : Addr} {nm : Str} {pre : γ → Prop} {Rs : γ → List VP} {f : γ → δ} {R : δ → VP} (h : OwnS P w K mg base nm k C (SpF pre Rs (fun g => R (f g)))) : OwnS P w K mg base nm k C (SpN Rs (fun g Q => pre g ∧ Q (f g)) R) :=
  let ⟨g, h1, h2, h3⟩ := h
  ⟨g, h1, h2, h3.imp fun _ _ _ _ => SpF.toN⟩
theorem walk {l : PySem.W.OpenLaw} {q : Program} {loose : List Str} {XP : (Str → Option Value) → Heap → Prop} {YP : World → Heap → Prop} {d : DefRec} {k : Nat} (hr : Room k callerA) {K : Params → PySem.W.Frag} (hn : l.most = some 63) (hdf : d.params.defaults = [])
    (hY : ∀ (w : World) (h : Heap), YP w h → (K w.params).In h)
    (F : ∀ (w : World) (mg : Str → Option Value) (fa : Addr) (h : Heap), (K w.params).In h → h.Ns mainGlobals mg → mg d.name = some (.ref fa) →
      ∃ fd : FuncData, (∀ (s : Shared) (u : Value), BindsTo s fd ⟨[u], []⟩ [("_law_script", u)]) ∧ ∀ base : Heap, (K w.params).In base → base.Ns mainGlobals mg → FnOk l.prog w (K w.params) mg base CX0 k fa fd ["_law_script"] (spLaw (K w.params))) :
    PySem.W.WalkO q loose XP YP l.row.toRowW d [] (fun f vs => PySem.call f vs) :=
  L2.walk_of (n := 63) (k := k) (x := "_law_script") (CX := fun _ => CX0) (sp := fun w => spLaw (K w.params)) hn (by decide) hdf hr hY F (fun _ _ a ns hl _ hS => ⟨a, ns, rfl, hS, hl, fun _ => rfl⟩) fun _ _ _ _ _ z => z
end Tw

namespace Wb
open PySem PySem.Spec PyProof.Rows L2 SlX StX Rs
local macro_rules | `(tactic| walk_at "rr") => `(tactic| (first
  | exact r_nil | exact r_int | exact r_bl | exact r_str
  | (refine r_var rfl ?_; assumption)
  | exact r_c rfl
  | (refine r_cons ?_ ?_ <;> walk_at "rr")))
def topS (i : Nat) : Stmt := PySem.Challenge.pw_rootshared_k07_whole_roots_of_pools.main.body.getD i (.Pass ⟨0, 0, 0, 0⟩)
/-! ### numbers -/
def isInt : PyData → Bool
  | .int i => decide (-(10 ^ 60) < i) && decide (i < 10 ^ 60)
  | _ => false
def isBt (d : PyData) (lo hi : Int) : Bool := isInt d && match d with
  | .int i => decide (lo ≤ i) && decide (i ≤ hi)
  | _ => false
def toI : PyData → Int
  | .int i => i
  | _ => 0
def few : PyData → Prop
  | .tuple ds => ds.length ≤ 60
  | _ => True
def isRising (d : PyData) (lo hi : Int) : Bool := match d with
  | .tuple ds => ds.all (fun x => isBt x lo hi) && decide ((ds.map toI).Pairwise (· < ·))
  | _ => false
section
variable {P : Program} {w : World} {K : PySem.W.Frag} {mg : Str → Option Value} {base : Heap}
abbrev spIsInteger (K : PySem.W.Frag) : Sp := SpF (γ := PyData) (fun _ => True) (fun d => [Dt K d]) (fun d => Dt K (.bool (isInt d)))
-- is_integer: 0:value
abbrev s_is_integer : Stmt := topS 10
abbrev N_is_integer : List Str := ["value"]
theorem sc_is_integer : FnScope N_is_integer ["value"] (defScope s_is_integer) := ⟨rfl, rfl, rfl, by decide +kernel, rfl, by decide +kernel, by decide +kernel⟩
theorem ok_is_integer {f : Addr} {fd : FuncData} (B : Bf mg) (g_GREATEST : GInt mg "GREATEST" (10 ^ 60)) (F : Fun K "is_integer" "is_integer" s_is_integer f fd) (hm : mg "is_integer" = some (.ref f)) (b : Binds K fd ["value"] []) : Gf P w K mg base 1 "is_integer" (spIsInteger K) := by
  refine gf_mk F hm b sc_is_integer (fun _ => rfl) fun cdv A outer s H E d vs F0 hr hp hv => ?_
  obtain ⟨v, rfl, h1⟩ := each1 hv
  refine ⟨_, (pss_one (ps_ret (pe_and (p_isi B (pa_cons (pv 0) (pa_cons (p_ty (by rfl) B.int boot_int) pa_nil))) (pe_and (pe_not (p_isi B (pa_cons (pv 0) (pa_cons (p_ty (by rfl) B.bool boot_bool) pa_nil)))) (pe_one (pe_chain op_lt op_lt (pe_un un_neg (p_gint g_GREATEST)) (pv 0) (p_gint g_GREATEST))))))), ?_⟩
  refine s_ret ?_
  cases d with
  | int i => exact r_is (r_and (r_isiD (b := true) (by walk_at "rr") (by dsimp only [tyName]; decide +kernel)) fun _ => r_and (r_not (r_isiD (b := false) (by walk_at "rr") (by dsimp only [tyName]; decide +kernel))) fun _ => r_chain (r_U r_int) (by walk_at "rr") r_int) rfl
  | bool i => exact r_is (r_and (b := false) (r_isiD (b := true) (by walk_at "rr") (by dsimp only [tyName]; decide +kernel)) fun _ => r_is (r_and (b := false) (r_not (r_isiD (b := true) (by walk_at "rr") (by dsimp only [tyName]; decide +kernel))) fun h => nomatch h) rfl) rfl
  | none => exact r_is (r_and (b := false) (r_isiD (b := false) (by walk_at "rr") (by dsimp only [tyName]; decide +kernel)) fun h => nomatch h) rfl
  | str x => exact r_is (r_and (b := false) (r_isiD (b := false) (by walk_at "rr") (by dsimp only [tyName]; decide +kernel)) fun h => nomatch h) rfl
  | list x => exact r_is (r_and (b := false) (r_isiD (b := false) (by walk_at "rr") (by dsimp only [tyName]; decide +kernel)) fun h => nomatch h) rfl
  | tuple x => exact r_is (r_and (b := false) (r_isiD (b := false) (by walk_at "rr") (by dsimp only [tyName]; decide +kernel)) fun h => nomatch h) rfl
  | dict x => exact r_is (r_and (b := false) (r_isiD (b := false) (by walk_at "rr") (by dsimp only [tyName]; decide +kernel)) fun h => nomatch h) rfl
theorem isInt_shape {d : PyData} (h : isInt d = true) : ∃ i, d = .int i ∧ -(10 ^ 60) < i ∧ i < 10 ^ 60 := by
  cases d with
  | int i =>
    rw [isInt, Bool.and_eq_true] at h
    exact ⟨i, rfl, of_decide_eq_true h.1, of_decide_eq_true h.2⟩
  | _ => cases h
abbrev spIsBetween (K : PySem.W.Frag) : Sp := SpF (γ := PyData × Int × Int) (fun _ => True) (fun g => [Dt K g.1, Dt K (.int g.2.1), Dt K (.int g.2.2)]) (fun g => Dt K (.bool (isBt g.1 g.2.1 g.2.2)))
-- is_between: 0:value 1:low 2:high
abbrev s_is_between : Stmt := topS 11
abbrev N_is_between : List Str := ["value", "low", "high"]
theorem sc_is_between : FnScope N_is_between ["value", "low", "high"] (defScope s_is_between) := ⟨rfl, rfl, rfl, by decide +kernel, rfl, by decide +kernel, by decide +kernel⟩
theorem ok_is_between {f : Addr} {fd : FuncData} (c_is_integer : Gf P w K mg base 1 "is_integer" (spIsInteger K)) (F : Fun K "is_between" "is_between" s_is_between f fd) (hm : mg "is_between" = some (.ref f)) (b : Binds K fd ["value", "low", "high"] []) : Gf P w K mg base 2 "is_between" (spIsBetween K) := by
  refine gf_mk F hm b sc_is_between (fun _ => rfl) fun cdv A outer s H E ⟨d, lo, hi⟩ vs F0 hr hp hv => ?_
  obtain ⟨v, v1, v2, rfl, h1, h2, h3⟩ := each3 hv
  refine ⟨_, (pss_one (ps_ret (pe_and (p_call c_is_integer hr (by decide) (pa_cons (pv 0) pa_nil)) (pe_one (pe_chain op_le op_le (pv 1) (pv 0) (pv 2)))))), ?_⟩
  refine s_ret (r_and (r_call d True.intro (by walk_at "rr")) fun h => ?_)
  obtain ⟨i, rfl, _⟩ := isInt_shape h
  exact r_chain (by walk_at "rr") (by walk_at "rr") (by walk_at "rr")
abbrev spRequireNumber (K : PySem.W.Frag) : Sp := SpF (γ := PyData × Int × Int) (fun g => isBt g.1 g.2.1 g.2.2 = true) (fun g => [Dt K g.1, Dt K (.int g.2.1), Dt K (.int g.2.2)]) (fun g => Dt K .none)
-- require_number: 0:value 1:low 2:high
abbrev s_require_number : Stmt := topS 12
abbrev N_require_number : List Str := ["value", "low", "high"]
theorem sc_require_number : FnScope N_require_number ["value", "low", "high"] (defScope s_require_number) := ⟨rfl, rfl, rfl, by decide +kernel, rfl, by decide +kernel, by decide +kernel⟩
theorem ok_require_number {f : Addr} {fd : FuncData} (c_is_between : Gf P w K mg base 2 "is_between" (spIsBetween K)) (F : Fun K "require_number" "require_number" s_require_number f fd) (hm : mg "require_number" = some (.ref f)) (b : Binds K fd ["value", "low", "high"] []) : Gf P w K mg base 3 "require_number" (spRequireNumber K) := by
  refine gf_mk F hm b sc_require_number (fun _ => rfl) fun cdv A outer s H E ⟨d, lo, hi⟩ vs F0 hr hp hv => ?_
  obtain ⟨v, v1, v2, rfl, h1, h2, h3⟩ := each3 hv
  refine ⟨_, (pss_one (ps_if (pt_not (pt_val (p_call c_is_between hr (by decide) (pa_cons (pv 0) (pa_cons (pv 1) (pa_cons (pv 2) pa_nil))))))
        (pss_one ps_never)
        pss_nil)), ?_⟩
  refine s_if (t_not (t_B (r_call (d, lo, hi) True.intro (by walk_at "rr")))) (fun h => ?_) fun h => s_next fun F1 e => .non
  rw [show isBt (d, lo, hi).1 (d, lo, hi).2.1 (d, lo, hi).2.2 = true from hp] at h
  cases h
abbrev spIsRising (K : PySem.W.Frag) : Sp := SpF (γ := PyData × Int × Int) (fun g => few g.1) (fun g => [Dt K g.1, Dt K (.int g.2.1), Dt K (.int g.2.2)]) (fun g => Dt K (.bool (isRising g.1 g.2.1 g.2.2)))
theorem all_ints {ds : List PyData} {lo hi : Int} (h : ds.all (fun x => isBt x lo hi) = true) : ds = (ds.map toI).map .int := by
  induction ds with
  | nil => rfl
  | cons d ds ih =>
    rw [List.all_cons, Bool.and_eq_true] at h
    have h1 := h.1
    unfold isBt at h1
    rw [Bool.and_eq_true] at h1
    obtain ⟨i, rfl, _⟩ := isInt_shape h1.1
    rw [List.map_cons, List.map_cons, ← ih h.2]
    rfl
/-- the members of a row, ascending -/
noncomputable def ascOf (ns : List Int) : List Int := (ns.mergeSort (fun a b => decide (a ≤ b))).eraseDups
theorem insert_asc (n : Int) : ∀ os : List Int, os.Pairwise (· < ·) → ∃ qs : List Int, qs.Pairwise (· < ·) ∧ ∀ k, k ∈ qs ↔ k = n ∨ k ∈ os
  | [], _ => ⟨[n], List.pairwise_singleton _ _, by simp⟩
  | o :: os, h => by
    obtain ⟨h1, h2⟩ := List.pairwise_cons.mp h
    rcases Int.lt_trichotomy n o with c | c | c
    · exact ⟨n :: o :: os, List.pairwise_cons.mpr ⟨fun x hx => by
        rcases List.mem_cons.mp hx with z | z
        · exact z ▸ c
        · exact Int.lt_trans c (h1 x z), h⟩, by simp⟩
    · exact ⟨o :: os, h, by subst c; simp⟩
    · obtain ⟨qs, q1, q2⟩ := insert_asc n os h2
      refine ⟨o :: qs, List.pairwise_cons.mpr ⟨fun x hx => ?_, q1⟩, fun k => ?_⟩
      · rcases (q2 x).mp hx with z | z
        · exact z ▸ c
        · exact h1 x z
      · rw [List.mem_cons, q2, List.mem_cons]
        constructor
        · rintro (z | z | z)
          · exact .inr (.inl z)
          · exact .inl z
          · exact .inr (.inr z)
        · rintro (z | z | z)
          · exact .inr (.inl z)
          · exact .inl z
          · exact .inr (.inr z)
theorem asc_ex : ∀ ns : List Int, ∃ os : List Int, os.Pairwise (· < ·) ∧ ∀ k, k ∈ os ↔ k ∈ ns
  | [] => ⟨[], .nil, by simp⟩
  | n :: ns => by
    obtain ⟨os, h1, h2⟩ := asc_ex ns
    obtain ⟨qs, q1, q2⟩ := insert_asc n os h1
    exact ⟨qs, q1, fun k => by rw [q2, h2, List.mem_cons]⟩
theorem asc_one {os ps : List Int} (h1 : os.Pairwise (· < ·)) (h2 : ps.Pairwise (· < ·)) (h : ∀ k, k ∈ os ↔ k ∈ ps) : os = ps :=
  List.Perm.eq_of_pairwise (le := (· < ·)) (fun a b _ _ x y => absurd x (Int.lt_asymm y)) h1 h2 ((List.perm_ext_iff_of_nodup (h1.imp fun x => Int.ne_of_lt x) (h2.imp fun x => Int.ne_of_lt x)).mpr h)
-- is_rising: 0:value 1:low 2:high 3:number
abbrev s_is_rising : Stmt := topS 13
abbrev N_is_rising : List Str := ["value", "low", "high", "number"]
theorem sc_is_rising : FnScope N_is_rising ["value", "low", "high"] (defScope s_is_rising) := ⟨rfl, rfl, rfl, by decide +kernel, rfl, by decide +kernel, by decide +kernel⟩
theorem ok_is_rising {f : Addr} {fd : FuncData} (B : Bf mg) (c_is_between : Gf P w K mg base 2 "is_between" (spIsBetween K)) (F : Fun K "is_rising" "is_rising" s_is_rising f fd) (hm : mg "is_rising" = some (.ref f)) (b : Binds K fd ["value", "low", "high"] []) : Gf P w K mg base 3 "is_rising" (spIsRising K) := by
  refine gf_mk F hm b sc_is_rising (fun _ => rfl) fun cdv A outer s H E ⟨d, lo, hi⟩ vs F0 hr hp hv => ?_
  obtain ⟨v, v1, v2, rfl, h1, h2, h3⟩ := each3 hv
  refine ⟨_, (pss_cons (ps_if (PW.pt (pw_or (pt_not (pt_val (p_isi B (pa_cons (pv 0) (pa_cons (p_ty (by rfl) B.tuple boot_tuple) pa_nil))))) (pw_or1 (pt_not (pt_val (p_all rfl B (pa_cons (pe_lc (own := [("number", 3)]) (g := gName 3) (tt := tYes) rfl sc_is_rising.nd (pi_tup (pv 0)) (blkOk_by (N := N_is_rising) (sc := defScope s_is_rising) (by decide +kernel)) (fun _ _ _ _ _ => (pg_name (i := 3) sc_is_rising.nd rfl (by first | exact Or.inl rfl | exact Or.inr rfl))) (fun _ _ _ _ _ => pts_nil) (fun _ _ _ _ _ => by exact (p_call c_is_between hr (by decide) (pa_cons (pv 3) (pa_cons (pv 1) (pa_cons (pv 2) pa_nil)))))) pa_nil)))))))
        (pss_one (ps_ret pe_bl))
        pss_nil)
      (pss_one (ps_ret (pe_cmpR (op_eqD hr.units) (p_list B (pa_cons (pv 0) pa_nil)) (p_sortedSet rfl B (pa_cons (p_set rfl B (pa_cons (pv 0) pa_nil)) pa_nil)) (nomark _))))), ?_⟩
  cases d with
  | tuple ds =>
    have hl : ds.length ≤ 60 := hp
    refine q_if (b := !(ds.all fun x => isBt x lo hi)) (t_is (t_or (b := !(ds.all fun x => isBt x lo hi)) (t_not (t_B (r_isiD (b := true) (by walk_at "rr") (by dsimp only [tyName]; decide +kernel)))) fun _ => ?_) (by simp)) (fun hb => ?_) fun hb => ?_
    · refine t_is (t_not (t_B (r_all (bs := ds.map fun x => isBt x lo hi) (r_cons (r_ls (Run.weak (r_lcN (xs := ds) (Ri := Dt K) (Re := fun x => Dt K (.bool (isBt x lo hi))) (i_tup (Rs := ds.map (Dt K)) (r_var rfl (tp_dt.mpr h1))) (by omega) (fun _ => rfl) fun x u F1 e hx hu => ?_) fun v F1 e hv => ?_)) r_nil)))) ?_
      · have h2' := dp_up e h2
        have h3' := dp_up e h3
        exact r_call (x, lo, hi) True.intro (by walk_at "rr")
      · rw [List.map_map]; exact hv
      · rw [List.all_map]; rfl
    · refine q_ret (r_is r_bl ?_)
      show PyData.bool false = PyData.bool (isRising (.tuple ds) lo hi)
      rw [isRising]
      rw [Bool.not_eq_true'] at hb
      rw [hb]; rfl
    · rw [Bool.not_eq_false'] at hb
      have hd := all_ints hb
      have hs : isRising (.tuple ds) lo hi = decide ((ds.map toI).Pairwise (· < ·)) := by rw [isRising, hb, Bool.true_and]
      refine q_next (s_ret (r_is (d := .bool (decide ((ds.map toI).Pairwise (· < ·)))) ?_ (congrArg PyData.bool hs.symm)))
      obtain ⟨os, o1, o2⟩ := asc_ex (ds.map toI)
      have hn : (ds.map toI).length ≤ 60 := by rw [List.length_map]; exact hl
      have hv1 : Dt K (.tuple ((ds.map toI).map .int)) v F0 := hd ▸ h1
      refine r_is (r_eqD (d := .list ((ds.map toI).map .int)) (e := .list (os.map .int)) ?_ ?_ sh_listI sh_listI) ?_
      · exact (r_listT (r_cons (r_var rfl (tp_dt.mpr hv1)) r_nil)).weak fun v F1 e hv => ls_dt.mp (Ln.ls hv)
      · exact r_sortedSet (r_cons (r_set (R := Dt K (.tuple ((ds.map toI).map .int))) (r_cons (r_var rfl hv1) r_nil) (fun v F1 h => seqI_t h) (by omega)) r_nil) (by omega) os o1 o2
      · rw [eqv_listI]
        congr 1
        by_cases hp : (ds.map toI).Pairwise (· < ·)
        · rw [asc_one hp o1 fun k => (o2 k).symm, decide_eq_true rfl, decide_eq_true o1]
        · rw [decide_eq_false hp, decide_eq_false (fun z : ds.map toI = os => hp (by rw [z]; exact o1))]
  | _ =>
    refine q_if (b := true) (t_is (t_or (b := false) (t_not (t_B (r_isiD (b := false) (by walk_at "rr") (by dsimp only [tyName]; decide +kernel)))) fun h => nomatch h) rfl) (fun _ => ?_) fun h => nomatch h
    exact q_ret r_bl
end
end Wb

namespace Wb
open PySem PySem.Spec PyProof.Rows L2 SlX StX Rs Ma
local macro_rules | `(tactic| walk_at "rr") => `(tactic| (first
  | exact r_nil | exact r_int | exact r_bl | exact r_str
  | (refine r_var rfl ?_; assumption)
  | exact r_c rfl
  | (refine r_cons ?_ ?_ <;> walk_at "rr")))
section
variable {P : Program} {w : World} {K : PySem.W.Frag} {mg : Str → Option Value} {base : Heap}
abbrev spHousesFrom (K : PySem.W.Frag) : Sp := SpF (γ := Rows × Nat) (fun g => Ok g.1 ∧ g.2 < g.1.length) (fun g => [Dt K (dRows g.1), Dt K (nI g.2)]) (fun g => Dt K (dRow (reachL g.1 g.2)))
-- houses_from: 0:heard 1:house 2:found 3:waiting 4:here 5:other 6:row
abbrev s_houses_from : Stmt := topS 17
abbrev N_houses_from : List Str := ["heard", "house", "found", "waiting", "here", "other", "row"]
theorem sc_houses_from : FnScope N_houses_from ["heard", "house"] (defScope s_houses_from) := ⟨rfl, rfl, rfl, by decide +kernel, rfl, by decide +kernel, by decide +kernel⟩
theorem ok_houses_from {f : Addr} {fd : FuncData} (B : Bf mg) (F : Fun K "houses_from" "houses_from" s_houses_from f fd) (hm : mg "houses_from" = some (.ref f)) (b : Binds K fd ["heard", "house"] []) : Gf P w K mg base 1 "houses_from" (spHousesFrom K) := by
  refine gf_mk F hm b sc_houses_from (fun _ => rfl) fun cdv A outer s H E ⟨rs, h⟩ vs F0 hr hp hv => ?_
  obtain ⟨v, v1, rfl, h1, h2⟩ := each2 hv
  obtain ⟨ok, hh⟩ : Ok rs ∧ h < rs.length := hp
  refine ⟨_, (pss_cons (ps_par (i := 2) (j := 3) rfl sc_houses_from.nd rfl rfl (by decide) rfl rfl (pa_cons (pe_disp (pps_cons (pv 1) pe_bl pps_nil) (by rfl) (by rfl) (by simp) (by decide)) (pa_cons (pe_lst (pa_cons (pv 1) pa_nil)) pa_nil)) (by rfl))
      (pss_cons (ps_while PassesOwn.never (pt_cmpR op_gt (p_len B (pa_cons (pv 3) pa_nil)) pe_int (nomark _))
        (pss_cons (ps_set (i := 4) sc_houses_from.nd rfl (by first | exact Or.inl rfl | exact Or.inr rfl) (pe_bm0 PySem.F.plainAttrs_list PySem.F.slot_list_pop PySem.F.type_list_pop mt_pop (pv 3)))
        (pss_one (ps_for PassesOwn.never rfl (pi_enumT (by rfl) B.enumerate (pa_cons (pv 0) pa_nil)) (pg_tup rfl (pgs_cons (pg_name (i := 5) sc_houses_from.nd rfl (by first | exact Or.inl rfl | exact Or.inr rfl)) (pgs_cons (pg_name (i := 6) sc_houses_from.nd rfl (by first | exact Or.inl rfl | exact Or.inr rfl)) pgs_nil)))
          (pss_one (ps_if (PW.pt (pw_and (pt_cmpR op_in_seq (pv 4) (pv 6) rfl) (pw_and1 (pt_cmp (pc_dnotin (hu_of hr) (pv 5) (pv 2))))))
            (pss_cons (ps_dput (hu_of hr) (pv 2) (pv 5) pe_bl rfl)
            (pss_one (ps_expr (pe_bm PySem.F.plainAttrs_list PySem.F.slot_list_append PySem.F.type_list_append mt_append (pv 3) (pa_cons (pv 5) pa_nil)))))
            pss_nil))))))
      (pss_one (ps_ret (p_tuple B (pa_cons (p_sortedDI rfl B (pa_cons (pv 2) pa_nil)) pa_nil)))))), ?_⟩
  have ev1 : v1 = .int (h : Int) := dt_int h2
  -- found, waiting = {house: True}, [house]
  refine q_par (S := fun x y F1 L1 => ∃ d l, x = .ref d ∧ y = .ref l ∧ L1 = [(l, .lst (vN [h])), (d, .dK (kvT [h]))]) ?_ ?_
  · refine x_cons (x_disp1 (n := (h : Int)) (v := .bl true) (r_var rfl h2) (r_c rfl)) ?_
    rintro x F1 L1 e1 ⟨d, rfl, rfl⟩
    refine x_cons (x_lst (Rs := [Dt K (nI h)]) (r_cons (r_var rfl (dp_up e1 h2)) r_nil) (by simp)) ?_
    rintro y F2 L2 e2 ⟨l, ws, rfl, hws, rfl⟩
    obtain ⟨z, rfl, hz⟩ := each1 hws
    cases hz
    exact x_ret fun F3 e3 => ⟨_, _, rfl, d, l, rfl, rfl, rfl⟩
  rintro x y F1 L1 e1 ⟨d, l, rfl, rfl, rfl⟩
  -- while len(waiting) > 0
  refine q_while (fun m σ' F' L' => ∃ f wt o4 o5 o6, σ' = [some v, some v1, some (.ref d), some (.ref l), o4, o5, o6] ∧ L' = [(l, .lst (vN wt)), (d, .dK (kvT f))] ∧ Dfs rs h f wt ∧ wt.length ≤ f.length ∧ m = 2 * (rs.length - f.length) + wt.length)
    (2 * (rs.length - 1) + 1) ⟨[h], [h], none, none, none, rfl, rfl, Dfs.start hh, Nat.le_refl _, rfl⟩ (fun _ _ _ _ _ _ z => z) ?_
  rintro m σ' F2 L2 e2 ⟨f, wt, o4, o5, o6, rfl, rfl, D, hwf, rfl⟩
  refine ⟨decide (0 < wt.length), ?_, fun hb => ?_, fun hb => ?_⟩
  · refine t_is (t_test (r_I0b (r_lnC (List.mem_cons_self) (r_cons (r_varE rfl) r_nil)) r_int)) ?_
    rw [List.length_map]
    exact decide_eq_decide.mpr (by omega)
  · obtain ⟨wt', here, rfl⟩ : ∃ wt' here, wt = wt' ++ [here] := by
      rcases List.eq_nil_or_concat wt with z | ⟨a, c, z⟩
      · subst z; simp at hb
      · exact ⟨a, c, by rw [z]; simp⟩
    have hl : here < rs.length := D.lt _ (D.sub _ (by simp))
    refine q_setX (Px := fun x F3 L3 => x = .int (here : Int) ∧ L3 = [(l, .lst (vN wt')), (d, .dK (kvT f))]) ?_ ?_
    · rw [show vN (wt' ++ [here]) = vN wt' ++ [V.int (here : Int)] from by simp [vN]]
      exact x_pop (r_varE rfl)
    rintro x F3 L3 e3 ⟨rfl, rfl⟩
    -- for other, row in enumerate(heard)
    refine s_for (fun i σ'' F' L' => ∃ o5 o6, σ'' = [some v, some v1, some (.ref d), some (.ref l), some (.int (here : Int)), o5, o6] ∧ L' = [(l, .lst (vN (wt' ++ newOf rs here f i))), (d, .dK (kvT (f ++ newOf rs here f i)))])
      (i_enumT (Rs := (rs.map dRow).map (Dt K)) (r_cons (r_var rfl (tp_dt.mpr (dp_up ((e1.trans e2).trans e3) h1))) r_nil)) (fun F' e' => ⟨_, _, rfl, by simp [newOf]⟩) (fun _ _ _ _ _ _ z => z) ?_ ?_
    · rintro i S x σ'' F4 L4 e4 hS hx ⟨o5', o6', rfl, rfl⟩
      obtain ⟨dr, hdr, rfl⟩ := pairs_get hS
      rw [List.getElem?_map] at hdr
      have hi : i < rs.length := by
        cases q : rs[i]? with
        | none => rw [q] at hdr; cases hdr
        | some r => exact (List.getElem?_eq_some_iff.mp q).1
      rw [get_row hi] at hdr
      cases hdr
      refine g_pair hx fun u1 u2 hu1 hu2 => ?_
      cases (show Dp K F4 u1 (nI i) from hu1)
      have hn : i ∉ newOf rs here f i := fun z => absurd (mem_new.mp z).1 (Nat.lt_irrefl _)
      refine s_if (b := decide (here ∈ row rs i) && !decide (i ∈ f ++ newOf rs here f i)) (t_and (t_test (r_inN (K := K) (r_var rfl (.int _)) (r_var rfl hu2))) fun _ => t_B (r_is (r_dnotin (K := K) (kvs := kvT (f ++ newOf rs here f i)) (List.mem_cons_of_mem _ List.mem_cons_self) (r_var rfl (.int _)) (r_varE rfl)) (by rw [kvT_val]))) (fun hb => ?_) fun hb => ?_
      · rw [Bool.and_eq_true, decide_eq_true_eq, Bool.not_eq_true', decide_eq_false_iff_not] at hb
        have hc : here ∈ row rs i ∧ i ∉ f := ⟨hb.1, fun z => hb.2 (List.mem_append_left _ z)⟩
        refine RunS.perm (L' := [(d, .dK (kvT (f ++ newOf rs here f i))), (l, .lst (vN (wt' ++ newOf rs here f i)))]) ?_ (List.Perm.swap _ _ _)
        have hlen : (f ++ newOf rs here f i).length ≤ rs.length := by
          have z := D.next.len
          have y : (newOf rs here f i).length ≤ (newOf rs here f rs.length).length := ((List.range_sublist.mpr (Nat.le_of_lt hi)).filter _).length_le
          rw [List.length_append] at z ⊢
          omega
        refine q_dput (n := (i : Int)) (v := .bl true) (r_c rfl) (r_varE rfl) (r_var (R := Dt K (nI i)) rfl (Dp.int (K := K) _)) (by rw [kvT_len]; have := ok.le; omega) fun F5 e5 => ?_
        refine RunS.perm (L' := [(l, .lst (vN (wt' ++ newOf rs here f i))), (d, .dK (putK (kvT (f ++ newOf rs here f i)) (Sum.inl (i : Int)) (.bl true)))]) ?_ (List.Perm.swap _ _ _)
        refine s_app (R := Eqv (.int (i : Int))) (r_varE rfl) (r_varE rfl) (by
          simp only [vN, List.length_map, List.length_append, List.length_cons, List.length_nil] at hwf hlen ⊢
          have := ok.le
          omega) fun u F6 e6 hu => ?_
        cases hu
        refine ⟨_, _, rfl, ?_⟩
        rw [kvT_put hb.2, new_yes hc, ← List.append_assoc, ← List.append_assoc]
        simp [vN]
      · refine s_next fun F5 e5 => ⟨_, _, rfl, ?_⟩
        rw [new_no (fun hc => ?_)]
        rw [decide_eq_true hc.1, Bool.true_and, Bool.not_eq_false', decide_eq_true_eq] at hb
        rcases List.mem_append.mp hb with z | z
        · exact hc.2 z
        · exact hn z
    · rintro σ'' F4 L4 e4 ⟨o5', o6', rfl, rfl⟩
      rw [Rs.pairs_len, List.length_map, List.length_map]
      refine ⟨_, ?_, _, _, _, _, _, rfl, rfl, D.next, by simp only [List.length_append, List.length_cons, List.length_nil] at hwf ⊢; omega, rfl⟩
      have := D.next.len
      rw [List.length_append] at this ⊢
      rw [List.length_append, List.length_append]
      simp only [List.length_cons, List.length_nil]
      omega
  · have hw : wt = [] := by
      cases wt with
      | nil => rfl
      | cons a t => simp at hb
    subst hw
    refine s_ret ?_
    have q := r_sortedDI (K := K) (σ := [some v, some v1, some (.ref d), some (.ref l), o4, o5, o6]) (F := F2) (L := [(l, HO.lst (vN [])), (d, .dK (kvT f))]) (d := d) (kvs := kvT f) (ks := cI f) (List.mem_cons_of_mem _ List.mem_cons_self) (r_cons (r_varE (i := 2) rfl) r_nil) (by simp [kvT, cI]) (by rw [List.length_map]; have := D.len; have := ok.le; omega) (cI (reachL rs h)) (D.perm.map _) ((asc_cI asc_reachL).imp fun x => Int.le_of_lt x)
    exact r_is (r_tupD (r_cons q r_nil)) (dRow_int).symm
end
end Wb

namespace Wb
open PySem PySem.Spec PyProof.Rows L2 SlX StX Rs Ma
local macro_rules | `(tactic| walk_at "rr") => `(tactic| (first
  | exact r_nil | exact r_int | exact r_bl | exact r_str
  | (refine r_var rfl ?_; assumption)
  | exact r_c rfl
  | (refine r_cons ?_ ?_ <;> walk_at "rr")))
def inRow (d : PyData) (h : Nat) : Bool := match d with
  | .tuple ds => decide ((h : Int) ∈ ds.map toI)
  | _ => false
def isHeardRow (d : PyData) (h n : Nat) : Bool := isRising d 0 ((n : Int) - 1) && !inRow d h
def fewIn : PyData → Prop
  | .tuple ds => ∀ x ∈ ds, few x
  | _ => True
def isHeard (d : PyData) : Bool := match d with
  | .tuple ds => (decide ((1 : Int) ≤ (ds.length : Int)) && decide ((ds.length : Int) ≤ 5)) && ds.zipIdx.all fun p => isHeardRow p.1 p.2 ds.length
  | _ => false
theorem rising_shape {d : PyData} {lo hi : Int} (h : isRising d lo hi = true) : ∃ ds, d = .tuple ds ∧ ds = (ds.map toI).map .int := by
  cases d with
  | tuple ds =>
    rw [isRising, Bool.and_eq_true] at h
    exact ⟨ds, rfl, all_ints h.1⟩
  | _ => cases h
theorem toI_cI {r : List Nat} : (r.map nI).map toI = cI r := by rw [List.map_map]; rfl
theorem rising_row {r : List Nat} {n : Nat} (h1 : Asc r) (h2 : ∀ x ∈ r, x < n) (hn : n ≤ 100) : isRising (dRow r) 0 ((n : Int) - 1) = true := by
  rw [isRising, toI_cI, decide_eq_true (asc_cI h1), Bool.and_true, List.all_eq_true]
  intro x hx
  obtain ⟨y, hy, rfl⟩ := List.mem_map.mp hx
  have := h2 y hy
  have hb : (100 : Int) < 10 ^ 60 := by decide
  rw [isBt, isInt]
  simp only [Bool.and_eq_true, decide_eq_true_eq]
  omega
theorem isHeard_rows {rs : Rows} (ok : Ok rs) : isHeard (dRows rs) = true := by
  have h1 := ok.pos
  have h2 := ok.le
  rw [isHeard, List.length_map, Bool.and_eq_true, Bool.and_eq_true]
  refine ⟨⟨decide_eq_true (by omega), decide_eq_true (by omega)⟩, ?_⟩
  rw [List.all_eq_true]
  rintro ⟨d, i⟩ hp
  rw [List.zipIdx_map] at hp
  obtain ⟨⟨r, j⟩, hq, e⟩ := List.mem_map.mp hp
  cases e
  have hq' := List.mem_zipIdx_iff_getElem?.mp hq
  have hm : r ∈ rs := List.mem_of_getElem? hq'
  have hr := rising_row (n := rs.length) (ok.asc r hm) (ok.lt r hm) (by omega)
  have hn : ((j : Int) ∈ (r.map nI).map toI) = False := eq_false (by rw [toI_cI, mem_cI]; exact ok.ne j r hq')
  show isHeardRow (dRow r) j rs.length = true
  rw [isHeardRow, hr, inRow, Bool.true_and, Bool.not_eq_true', decide_eq_false_iff_not]
  rw [hn]; exact not_false
section
variable {P : Program} {w : World} {K : PySem.W.Frag} {mg : Str → Option Value} {base : Heap}
abbrev spIsHeardRow (K : PySem.W.Frag) : Sp := SpF (γ := PyData × Nat × Nat) (fun g => few g.1) (fun g => [Dt K g.1, Dt K (nI g.2.1), Dt K (nI g.2.2)]) (fun g => Dt K (.bool (isHeardRow g.1 g.2.1 g.2.2)))
-- is_heard_row: 0:value 1:house 2:size
abbrev s_is_heard_row : Stmt := topS 15
abbrev N_is_heard_row : List Str := ["value", "house", "size"]
theorem sc_is_heard_row : FnScope N_is_heard_row ["value", "house", "size"] (defScope s_is_heard_row) := ⟨rfl, rfl, rfl, by decide +kernel, rfl, by decide +kernel, by decide +kernel⟩
theorem ok_is_heard_row {f : Addr} {fd : FuncData} (c_is_rising : Gf P w K mg base 3 "is_rising" (spIsRising K)) (F : Fun K "is_heard_row" "is_heard_row" s_is_heard_row f fd) (hm : mg "is_heard_row" = some (.ref f)) (b : Binds K fd ["value", "house", "size"] []) : Gf P w K mg base 4 "is_heard_row" (spIsHeardRow K) := by
  refine gf_mk F hm b sc_is_heard_row (fun _ => rfl) fun cdv A outer s H E ⟨d, h, n⟩ vs F0 hr hp hv => ?_
  obtain ⟨v, v1, v2, rfl, h1, h2, h3⟩ := each3 hv
  refine ⟨_, (pss_one (ps_ret (pe_and (p_call c_is_rising hr (by decide) (pa_cons (pv 0) (pa_cons pe_int (pa_cons (pe_op op_sub (pv 2) pe_int) pa_nil)))) (pe_one (pe_cmpR op_notIn_seq (pv 1) (pv 0) rfl))))), ?_⟩
  refine s_ret (r_and (r_call (d, 0, (n : Int) - 1) hp (r_cons (by walk_at "rr") (r_cons r_int (r_cons (r_I0i (by walk_at "rr") r_int) r_nil)))) fun hh => ?_)
  obtain ⟨ds, rfl, hd⟩ := rising_shape hh
  rw [inRow]
  refine r_notIn (by walk_at "rr") (r_var (R := Dt K (.tuple ((ds.map toI).map .int))) rfl (hd ▸ h1)) fun v F1 hq => seqI_t hq
abbrev spIsHeard (K : PySem.W.Frag) : Sp := SpF (γ := PyData) fewIn (fun g => [Dt K g]) (fun g => Dt K (.bool (isHeard g)))
-- is_heard: 0:value 1:house 2:row
abbrev s_is_heard : Stmt := topS 16
abbrev N_is_heard : List Str := ["value", "house", "row"]
theorem sc_is_heard : FnScope N_is_heard ["value"] (defScope s_is_heard) := ⟨rfl, rfl, rfl, by decide +kernel, rfl, by decide +kernel, by decide +kernel⟩
theorem ok_is_heard {f : Addr} {fd : FuncData} (B : Bf mg) (g_MAX_SIZE : GInt mg "MAX_SIZE" 5) (c_is_heard_row : Gf P w K mg base 4 "is_heard_row" (spIsHeardRow K)) (F : Fun K "is_heard" "is_heard" s_is_heard f fd) (hm : mg "is_heard" = some (.ref f)) (b : Binds K fd ["value"] []) : Gf P w K mg base 5 "is_heard" (spIsHeard K) := by
  refine gf_mk F hm b sc_is_heard (fun _ => rfl) fun cdv A outer s H E d vs F0 hr hp hv => ?_
  obtain ⟨v, rfl, h1⟩ := each1 hv
  refine ⟨_, (pss_cons (ps_if (PW.pt (pw_or (pt_not (pt_val (p_isi B (pa_cons (pv 0) (pa_cons (p_ty (by rfl) B.tuple boot_tuple) pa_nil))))) (pw_or1 (pt_not (pt_chain op_le op_le pe_int (p_len B (pa_cons (pv 0) pa_nil)) (p_gint g_MAX_SIZE))))))
        (pss_one (ps_ret pe_bl))
        pss_nil)
      (pss_one (ps_ret (p_all rfl B (pa_cons (pe_lc (own := [("house", 1), ("row", 2)]) (g := gTup K 2 (gCons (gName 1) (gCons (gName 2) gNil))) (tt := tYes) rfl sc_is_heard.nd (pi_enumT (by rfl) B.enumerate (pa_cons (pv 0) pa_nil)) (blkOk_by (N := N_is_heard) (sc := defScope s_is_heard) (by decide +kernel)) (fun _ _ _ _ _ => (pg_tup rfl (pgs_cons (pg_name (i := 1) sc_is_heard.nd rfl (by first | exact Or.inl rfl | exact Or.inr rfl)) (pgs_cons (pg_name (i := 2) sc_is_heard.nd rfl (by first | exact Or.inl rfl | exact Or.inr rfl)) pgs_nil)))) (fun _ _ _ _ _ => pts_nil) (fun _ _ _ _ _ => by exact (p_call c_is_heard_row hr (by decide) (pa_cons (pv 2) (pa_cons (pv 1) (pa_cons (p_lenK K B (pa_cons (pv 0) pa_nil)) pa_nil)))))) pa_nil))))), ?_⟩
  cases d with
  | tuple ds =>
    have hp' : ∀ x ∈ ds, few x := hp
    refine q_if (b := !(decide ((1 : Int) ≤ (ds.length : Int)) && decide ((ds.length : Int) ≤ 5))) (t_is (t_or (b := !(decide ((1 : Int) ≤ (ds.length : Int)) && decide ((ds.length : Int) ≤ 5))) (t_not (t_B (r_isiD (b := true) (by walk_at "rr") (by dsimp only [tyName]; decide +kernel)))) fun _ => t_not (t_test (r_chain r_int (r_lnTD (by walk_at "rr")) (by walk_at "rr")))) (by simp)) (fun hb => ?_) fun hb => ?_
    · refine q_ret (r_is r_bl ?_)
      rw [Bool.not_eq_true'] at hb
      rw [isHeard, hb]; rfl
    · rw [Bool.not_eq_false'] at hb
      have hl : ds.length ≤ 5 := by
        rw [Bool.and_eq_true, decide_eq_true_eq, decide_eq_true_eq] at hb
        omega
      refine q_next (s_ret ?_)
      refine r_is (r_all (bs := ds.zipIdx.map fun p => isHeardRow p.1 p.2 ds.length) (r_cons (r_ls (Run.weak (r_lcP (xs := ds.zipIdx) (f := fun _ => true) (R1 := fun p => Dt K (nI p.2)) (R2 := fun p => Dt K p.1) (Re := fun p => Dt K (.bool (isHeardRow p.1 p.2 ds.length)))
        (i_enumRows (f := fun x => x) (xs := ds) (r_is (r_var rfl h1) (by rw [List.map_id']))) (by rw [List.length_zipIdx]; omega) (fun _ _ => rfl) (fun p v1 v2 F1 e hx q1 q2 => t_yes) fun p v1 v2 F1 e hx q1 q2 _ => ?_) fun v F1 e hv => ?_)) r_nil)) ?_
      · have h1' := dp_up e h1
        have hm : p.1 ∈ ds := by
          have := List.mem_zipIdx_iff_getElem?.mp hx
          exact List.mem_of_getElem? this
        refine r_call (p.1, p.2, ds.length) (hp' _ hm) (r_cons (by walk_at "rr") (r_cons (by walk_at "rr") (r_cons (r_lnTD (by walk_at "rr")) r_nil)))
      · rw [List.map_map]
        rwa [List.filter_eq_self.mpr fun _ _ => rfl] at hv
      · rw [isHeard, hb, Bool.true_and, List.all_map]; rfl
  | _ =>
    refine q_if (b := true) (t_is (t_or (b := false) (t_not (t_B (r_isiD (b := false) (by walk_at "rr") (by dsimp only [tyName]; decide +kernel)))) fun h => nomatch h) rfl) (fun _ => ?_) fun h => nomatch h
    exact q_ret r_bl
/-! ### the class -/
noncomputable abbrev spWebInit (C : Addr) (K : PySem.W.Frag) : Sp := SpI C (γ := Rows) Ok (fun rs => [Dt K (dRows rs)]) (fun rs => webP C K rs)
theorem few_rows {rs : Rows} (ok : Ok rs) : fewIn (dRows rs) := by
  intro x hx
  obtain ⟨r, hr, rfl⟩ := List.mem_map.mp hx
  show (r.map nI).length ≤ 60
  rw [List.length_map]
  have := nodup_len _ _ (asc_nodup (ok.asc r hr)) (ok.lt r hr)
  have := ok.le
  omega
-- Web.__init__: 0:self 1:heard 2:house 3:row 4:other
abbrev s_Webu__initu_ : Stmt := inClass (topS 18) 1
abbrev N_Webu__initu_ : List Str := ["self", "heard", "house", "row", "other"]
theorem sc_Webu__initu_ : FnScope N_Webu__initu_ ["self", "heard"] (defScope s_Webu__initu_) := ⟨rfl, rfl, rfl, by decide +kernel, rfl, by decide +kernel, by decide +kernel⟩
theorem ok_web_init {f C_Web : Addr} {fd : FuncData} (B : Bf mg) (W : WebK K C_Web) (c_is_heard : Gf P w K mg base 5 "is_heard" (spIsHeard K)) (c_houses_from : Gf P w K mg base 1 "houses_from" (spHousesFrom K)) (F : Fun K "__init__" "Web.__init__" s_Webu__initu_ f fd) :
    FnOk P w K mg base CX0 6 f fd ["self", "heard"] (spWebInit C_Web K) := by
  refine init_ok F sc_Webu__initu_ (fun _ => rfl) fun cdv A outer s H E rs a dx vs F0 hr ok hv => ?_
  obtain ⟨v, rfl, h1⟩ := each1 hv
  refine ⟨_, (pss_cons (ps_if (pt_not (pt_val (p_call c_is_heard hr (by decide) (pa_cons (pv 1) pa_nil))))
        (pss_one ps_never)
        pss_nil)
      (pss_cons (ps_sl (pv 0) (pv 1))
      (pss_cons (ps_sl (pv 0) (p_len B (pa_cons (pv 1) pa_nil)))
      (pss_cons (ps_sl (pv 0) (p_tuple B (pa_cons (pe_lc (own := [("house", 2)]) (g := gName 2) (tt := tYes) rfl sc_Webu__initu_.nd (pi_range1 (by rfl) B.range (pa_cons (p_len B (pa_cons (pv 1) pa_nil)) pa_nil)) (blkOk_by (N := N_Webu__initu_) (sc := defScope s_Webu__initu_) (by decide +kernel)) (fun _ _ _ _ _ => (pg_name (i := 2) sc_Webu__initu_.nd rfl (by first | exact Or.inl rfl | exact Or.inr rfl))) (fun _ _ _ _ _ => pts_nil) (fun _ _ _ _ _ => by exact (p_call c_houses_from hr (by decide) (pa_cons (pv 1) (pa_cons (pv 2) pa_nil))))) pa_nil)))
      (pss_cons (ps_sl (pv 0) (p_tuple B (pa_cons (pe_lc (own := [("house", 2), ("row", 3)]) (g := gTup K 2 (gCons (gName 2) (gCons (gName 3) gNil))) rfl sc_Webu__initu_.nd (pi_enumT (by rfl) B.enumerate (pa_cons (pe_sl (pv 0)) pa_nil)) (blkOk_by (N := N_Webu__initu_) (sc := defScope s_Webu__initu_) (by decide +kernel)) (fun _ _ _ _ _ => (pg_tup rfl (pgs_cons (pg_name (i := 2) sc_Webu__initu_.nd rfl (by first | exact Or.inl rfl | exact Or.inr rfl)) (pgs_cons (pg_name (i := 3) sc_Webu__initu_.nd rfl (by first | exact Or.inl rfl | exact Or.inr rfl)) pgs_nil)))) (fun _ _ _ _ _ => (pts_one (pt_cmpR op_eq (p_lenK K B (pa_cons (pv 3) pa_nil)) (p_lenK K B (pa_cons (pv 1) pa_nil)) (nomark _)))) (fun _ _ _ _ _ => by exact (pv 2))) pa_nil)))
      (pss_one (ps_sl (pv 0) (p_tuple B (pa_cons (pe_lc2 (own := [("house", 2), ("row", 3), ("other", 4)]) (vs1 := [4]) (g := gTup K 2 (gCons (gName 2) (gCons (gName 3) gNil))) (g1 := gName 4) (tt := tYes) (tt1 := tYes) rfl sc_Webu__initu_.nd (pi_enumT (by rfl) B.enumerate (pa_cons (pv 1) pa_nil)) (blkOk_by (N := N_Webu__initu_) (sc := defScope s_Webu__initu_) (by decide +kernel)) (by decide) (fun _ _ _ _ _ => (pg_tup rfl (pgs_cons (pg_name (i := 2) sc_Webu__initu_.nd rfl (by first | exact Or.inl rfl | exact Or.inr rfl)) (pgs_cons (pg_name (i := 3) sc_Webu__initu_.nd rfl (by first | exact Or.inl rfl | exact Or.inr rfl)) pgs_nil)))) (fun _ _ _ _ _ => pts_nil) (fun _ _ _ _ _ => by exact (pi_tupK K (pv 3))) (fun _ _ _ _ _ => (pg_name (i := 4) sc_Webu__initu_.nd rfl (by first | exact Or.inl rfl | exact Or.inr rfl))) (fun _ _ _ _ _ => pts_nil) (fun _ _ _ _ _ => by exact (pe_tup (pa_cons (pv 2) (pa_cons (pv 4) pa_nil))))) pa_nil))))))))), ?_⟩
  have hl := ok.le
  refine q_if (t_not (t_B (r_call (dRows rs) (few_rows ok) (by walk_at "rr")))) (fun h => ?_) fun _ => q_next ?_
  · rw [isHeard_rows ok] at h; cases h
  refine q_slset (R := Dt K (dRows rs)) W.heard .new (r_varE rfl) (by walk_at "rr") fun x1 F1 e1 g1 => ?_
  refine q_slset W.size (.old _) (r_varE rfl) (r_lnN (r_cons (r_var rfl (dp_up e1 h1)) r_nil)) fun x2 F2 e2 g2 => ?_
  have a1 := e1.trans e2
  refine q_slset W.reached (.old _) (r_varE rfl) (R := Dt K (dRows (reachs rs))) (r_is (r_tupLn (xs := List.range rs.length) (f := fun i => dRow (reachL rs i)) (r_lcN (xs := List.range rs.length) (Ri := fun i => Dt K (nI i)) (Re := fun i => Dt K (dRow (reachL rs i))) (i_rangeN (r_lnN (r_cons (r_var rfl (dp_up a1 h1)) r_nil)) (by omega)) (by rw [List.length_range]; omega) (fun _ => rfl) fun i u G1 e hi hu => ?_)) reachs_data) fun x3 F3 e3 g3 => ?_
  · have h1' := dp_up (a1.trans e) h1
    exact r_call (rs, i) ⟨ok, List.mem_range.mp hi⟩ (by walk_at "rr")
  have a2 := a1.trans e3
  refine q_slset W.roots (.old _) (r_varE rfl) (R := Dt K (dRow (rootsN rs))) (r_is (r_tupLn (α := List Nat × Nat) (xs := (reachs rs).zipIdx.filter fun p => decide (p.1.length = rs.length)) (f := fun p => nI p.2) (r_lcP (ι := List Nat × Nat) (xs := (reachs rs).zipIdx) (f := fun p => decide (p.1.length = rs.length)) (R1 := fun p => Dt K (nI p.2)) (R2 := fun p => Dt K (dRow p.1)) (Re := fun p => Dt K (nI p.2))
    (i_enumRows (r_sown W.reached (r_varE rfl) List.mem_cons_self (List.mem_cons_of_mem _ List.mem_cons_self) (putS_get _ _ _) g3)) (by rw [List.length_zipIdx, reachs_len]; omega) (fun _ _ => rfl) (fun p v1 v2 G1 e hx q1 q2 => ?_) fun p v1 v2 G1 e hx q1 q2 _ => by walk_at "rr")) roots_data) fun x4 F4 e4 g4 => ?_
  · have h1' := dp_up (a2.trans e) h1
    exact t_test (r_eqN (r_lnN (by walk_at "rr")) (r_lnN (by walk_at "rr")))
  have a3 := a2.trans e4
  refine s_slset W.pairs (.old _) (r_varE rfl) (R := Dt K (.tuple ((pairsN rs).map dPair))) (r_is (r_tupLn (α := (List Nat × Nat) × Nat) (xs := flat (fun p : List Nat × Nat => p.1) rs.zipIdx) (f := fun q => dPair (q.1.2, q.2)) (r_lc2 (ι := List Nat × Nat) (κ := Nat) (xs := rs.zipIdx) (ys := fun p => p.1) (Ri := fun p => Tp K [Dt K (nI p.2), Dt K (dRow p.1)]) (Rj := fun p y => Dt K (nI y)) (Re := fun p y => Dt K (dPair (p.2, y)))
    (i_enumRows (r_var rfl (dp_up a3 h1))) (flat_len ok) fun p u G1 e hx hu => rg_pair hu fun v1 v2 G2 e2 q1 q2 => ⟨rfl, i_tupN (r_var rfl q2), fun y u2 G3 e3 hy q3 => rg_name fun G4 e4 => ⟨rfl, ?_⟩⟩)) (congrArg PyData.tuple pairs_flat)) fun x5 F5 e5 g5 => ?_
  · have q1' := dp_up (e3.trans e4) q1
    have q3' := dp_up e4 q3
    exact r_tpD (xs := [p.2, y]) (f := nI) (r_tup (Rs := [Dt K (nI p.2), Dt K (nI y)]) (by walk_at "rr") (by show 2 ≤ 100000; decide))
  · refine ⟨_, _, rfl, fun G e o1 o2 => ⟨ok, a, dx, _, [x1, x2, x3, x4, x5], rfl, o1, o2, ((((got_nil.put (by decide)).put (by decide)).put (by decide)).put (by decide)).put (by decide), ?_⟩⟩
    exact ⟨dp_up ((((e2.trans e3).trans e4).trans e5).trans e) g1, dp_up (((e3.trans e4).trans e5).trans e) g2, dp_up ((e4.trans e5).trans e) g3, dp_up (e5.trans e) g4, dp_up e g5, True.intro⟩
end
end Wb

namespace Rs
open PySem PySem.Spec PyProof.Rows L2 SlX StX Ma
section
variable {K : PySem.W.Frag} {w : World} {σ : L2.St} {F : Hp} {L : Cells} {te ta tb : TE} {t : TA} {C : Addr} {rs qs : Rows}
theorem cI_data {ns : List Nat} : (ns.map nI) = (cI ns).map PyData.int := row_int
theorem r_sortedN {ns os : List Nat} (h : Run (te σ) F L (Dt K (.list (ns.map nI)))) (hl : ns.length < 64) (h1 : os.Perm ns) (h2 : Asc os) : Run (tCB (rSorted K) (tCons te tNil) σ) F L (Dt K (.list (os.map nI))) := by
  rw [cI_data] at h ⊢
  refine r_sortedI (r_cons h r_nil) (fun v F1 hv => ?_) (by rw [List.length_map]; exact hl) (cI os) (h1.map _) ((asc_cI h2).imp fun x => Int.le_of_lt x)
  obtain ⟨a, vs, rfl, hs, hr⟩ := ls_dt.mpr hv
  have := vs_ints (each_dt.mp hr)
  subst this
  exact ⟨a, rfl, hs⟩
theorem r_sortedSetN {ns os : List Nat} (h : Run (te σ) F L (Dt K (.list (ns.map nI)))) (hl : ns.length < 64) (h1 : Asc os) (h2 : ∀ k, k ∈ os ↔ k ∈ ns) : Run (tCB (rSortedSet w) (tCons (tCB (rSetI K w) (tCons te tNil)) tNil) σ) F L (Dt K (.list (os.map nI))) := by
  rw [cI_data] at h ⊢
  refine r_sortedSet (r_cons (r_set (r_cons h r_nil) (fun v F1 hv => seqI_l hv) (by rw [List.length_map]; omega)) r_nil) (by rw [List.length_map]; exact hl) (cI os) (asc_cI h1) fun k => ?_
  simp only [List.mem_map]
  constructor
  · rintro ⟨a, ha, rfl⟩; exact ⟨a, (h2 a).mp ha, rfl⟩
  · rintro ⟨a, ha, rfl⟩; exact ⟨a, (h2 a).mpr ha, rfl⟩
theorem r_isiS {S : VP} (W : WebK K C) [Mono S] (hS : ∀ v F1, S v F1 → IsOb C v F1) (h : Run (t σ) F L (Each [S, Eqv (.ref C)])) : Run (tCB (fun xs H Q => rIsi K xs H Q ∨ rIsiSl K (.ref C) xs H Q) t σ) F L (Dt K (.bool true)) := r_cb h fun vs F1 e1 hv => by
  obtain ⟨v, u, rfl, h1, h2⟩ := each2 hv
  cases h2
  obtain ⟨a, dx, vs, rfl, q1, q2⟩ := hS _ _ h1
  exact fun F2 N H e2 A Q q => .inr ⟨a, C, dx, vs, .ref C, true, rfl, rfl, fun w hw => hw, at_slt A (e2 _ _ q1) (e2 _ _ q2), W.sc, W.si, W.kit, q _ F2 H (Same.refl _) A (.bl true)⟩
theorem eqv_row {a b : List Nat} : PyData.eqv (dRow a) (dRow b) = decide (a = b) := by
  rw [dRow_int, dRow_int, eqv_tupI]
  exact decide_eq_decide.mpr cI_inj
theorem eqv_rows : PyData.eqv (dRows rs) (dRows qs) = decide (rs = qs) := by
  rw [PyData.eqv]; exact eqvAll_of fun a b => eqv_row
theorem lay_row {a : List Nat} : (dRow a).canLay0 = true := by rw [dRow_int, PyData.canLay0]; exact lay_ints
theorem dep_row {a : List Nat} : (dRow a).depth ≤ 1 := by rw [dRow_int, PyData.depth, dep_ints]; decide
theorem sh_rows : SeqAt.shaped (dRows rs) = true := shaped_of (by rw [PyData.canLay0]; exact lay_all fun a => lay_row) (by rw [PyData.depth]; have := dep_all (f := dRow) (k := 1) (fun a => dep_row) (xs := rs); omega)
theorem sh_row {a : List Nat} : SeqAt.shaped (dRow a) = true := shaped_of lay_row (Nat.le_trans dep_row (by decide))
end
end Rs
namespace Wb
open PySem PySem.Spec PyProof.Rows L2 SlX StX Rs Ma
local macro_rules | `(tactic| walk_at "rr") => `(tactic| (first
  | exact r_nil | exact r_int | exact r_bl | exact r_str
  | (refine r_var rfl ?_; assumption)
  | exact r_c rfl
  | (refine r_cons ?_ ?_ <;> walk_at "rr")))
section
variable {P : Program} {w : World} {K : PySem.W.Frag} {mg : Str → Option Value} {base : Heap} {C_Web : Addr}
noncomputable abbrev spHeardBy (C_Web : Addr) (K : PySem.W.Frag) : Sp := SpF (γ := Rows × Nat) (fun g => g.2 < g.1.length) (fun g => [webP C_Web K g.1, Dt K (nI g.2)]) (fun g => Dt K (dRow (hbL g.1 g.2)))
-- heard_by: 0:web 1:house
abbrev s_heard_by : Stmt := topS 19
abbrev N_heard_by : List Str := ["web", "house"]
theorem sc_heard_by : FnScope N_heard_by ["web", "house"] (defScope s_heard_by) := ⟨rfl, rfl, rfl, by decide +kernel, rfl, by decide +kernel, by decide +kernel⟩
theorem ok_heard_by {f : Addr} {fd : FuncData} (B : Bf mg) (W : WebK K C_Web) (F : Fun K "heard_by" "heard_by" s_heard_by f fd) (hm : mg "heard_by" = some (.ref f)) (b : Binds K fd ["web", "house"] []) : Gf P w K mg base 1 "heard_by" (spHeardBy C_Web K) := by
  refine gf_mk F hm b sc_heard_by (fun _ => rfl) fun cdv A outer s H E ⟨rs, h⟩ vs F0 hr hp hv => ?_
  obtain ⟨v, v1, rfl, h1, h2⟩ := each2 hv
  refine ⟨_, (pss_one (ps_ret (p_tuple B (pa_cons (p_sortedL B (pa_cons (pe_lst (pa_star (pe_ix ix_tup (pe_sl (pv 0)) (pv 1) (fun _ _ => rfl)) (pa_cons (pv 1) pa_nil))) pa_nil)) pa_nil)))), ?_⟩
  have hh : h < rs.length := hp
  have ok : Ok rs := h1.1
  have q := r_lst (Rs := (row rs h ++ [h]).map fun x => Dt K (nI x)) (F := F0) (L := []) (σ := start N_heard_by [v, v1]) (t := tStar K (tOp (rIxT K) (SlX.tSl K (tVar 0) "own_heard") (tVar 1)) (tCons (tVar 1) tNil)) (by
    have := r_star (K := K) (r_rowN (r_heard W (r_var (R := webP C_Web K rs) (σ := start N_heard_by [v, v1]) (i := 0) (F := F0) (L := []) rfl h1)) (r_var (i := 1) rfl h2) hh) (r_cons (r_var (i := 1) rfl h2) r_nil)
    rw [List.map_append]
    rwa [List.map_map] at this) (by
      rw [List.length_map, ← (hb_perm ok hh).length_eq]
      have := hb_len (rs := rs) (h := h)
      have := ok.le
      omega)
  refine s_ret (r_tupD (r_cons (r_sortedN (r_lnD q) ?_ (hb_perm ok hh) asc_hb) r_nil))
  rw [← (hb_perm ok hh).length_eq]
  have := hb_len (rs := rs) (h := h)
  have := ok.le
  omega
noncomputable abbrev spRequireHouse (C_Web : Addr) (K : PySem.W.Frag) : Sp := SpF (γ := Rows × Nat) (fun g => g.2 < g.1.length) (fun g => [webP C_Web K g.1, Dt K (nI g.2)]) (fun g => Dt K .none)
theorem bt_nat {h n : Nat} (hh : h < n) (hn : n ≤ 100) : isBt (nI h) 0 ((n : Int) - 1) = true := by
  have hb : (100 : Int) < 10 ^ 60 := by decide
  rw [isBt, isInt]
  simp only [Bool.and_eq_true, decide_eq_true_eq]
  omega
-- require_house: 0:web 1:house
abbrev s_require_house : Stmt := topS 20
abbrev N_require_house : List Str := ["web", "house"]
theorem sc_require_house : FnScope N_require_house ["web", "house"] (defScope s_require_house) := ⟨rfl, rfl, rfl, by decide +kernel, rfl, by decide +kernel, by decide +kernel⟩
theorem ok_require_house {f : Addr} {fd : FuncData} (W : WebK K C_Web) (c_require_number : Gf P w K mg base 3 "require_number" (spRequireNumber K)) (F : Fun K "require_house" "require_house" s_require_house f fd) (hm : mg "require_house" = some (.ref f)) (b : Binds K fd ["web", "house"] []) : Gf P w K mg base 4 "require_house" (spRequireHouse C_Web K) := by
  refine gf_mk F hm b sc_require_house (fun _ => rfl) fun cdv A outer s H E ⟨rs, h⟩ vs F0 hr hp hv => ?_
  obtain ⟨v, v1, rfl, h1, h2⟩ := each2 hv
  refine ⟨_, (pss_one (ps_expr (p_call c_require_number hr (by decide) (pa_cons (pv 1) (pa_cons pe_int (pa_cons (pe_op op_sub (pe_sl (pv 0)) pe_int) pa_nil)))))), ?_⟩
  have hh : h < rs.length := hp
  have ok : Ok rs := h1.1
  have hl := ok.le
  exact s_drop (r_call (nI h, 0, (rs.length : Int) - 1) (bt_nat hh (by omega)) (r_cons (by walk_at "rr") (r_cons r_int (r_cons (r_I0i (r_size W (by walk_at "rr")) r_int) r_nil)))) fun F1 e => .non
noncomputable abbrev spIsLike (C_Web : Addr) (K : PySem.W.Frag) : Sp := SpF (γ := Rows × Rows) (fun g => True) (fun g => [webP C_Web K g.1, webP C_Web K g.2]) (fun g => Dt K (.bool (decide (g.2.length = g.1.length))))
-- is_like: 0:web 1:other
abbrev s_is_like : Stmt := topS 21
abbrev N_is_like : List Str := ["web", "other"]
theorem sc_is_like : FnScope N_is_like ["web", "other"] (defScope s_is_like) := ⟨rfl, rfl, rfl, by decide +kernel, rfl, by decide +kernel, by decide +kernel⟩
theorem ok_is_like {f : Addr} {fd : FuncData} (B : Bf mg) (W : WebK K C_Web) (m_Web : mg "Web" = some (.ref C_Web)) (F : Fun K "is_like" "is_like" s_is_like f fd) (hm : mg "is_like" = some (.ref f)) (b : Binds K fd ["web", "other"] []) : Gf P w K mg base 1 "is_like" (spIsLike C_Web K) := by
  refine gf_mk F hm b sc_is_like (fun _ => rfl) fun cdv A outer s H E ⟨rs, qs⟩ vs F0 hr hp hv => ?_
  obtain ⟨v, v1, rfl, h1, h2⟩ := each2 hv
  refine ⟨_, (pss_one (ps_ret (pe_and (p_isiS (.ref C_Web) B (pa_cons (pv 1) (pa_cons (p_cls (by rfl) m_Web) pa_nil))) (pe_one (pe_cmpR op_eq (pe_sl (pv 1)) (pe_sl (pv 0)) (nomark _)))))), ?_⟩
  exact s_ret (r_and (a := true) (r_isiS W (fun _ _ => webP.is) (r_cons (r_var rfl h2) (r_cons (r_c rfl) r_nil))) fun _ => r_eqN (r_size W (by walk_at "rr")) (r_size W (by walk_at "rr")))
noncomputable abbrev spRequireLike (C_Web : Addr) (K : PySem.W.Frag) : Sp := SpF (γ := Rows × Rows) (fun g => g.2.length = g.1.length) (fun g => [webP C_Web K g.1, webP C_Web K g.2]) (fun g => Dt K .none)
-- require_like: 0:web 1:other
abbrev s_require_like : Stmt := topS 22
abbrev N_require_like : List Str := ["web", "other"]
theorem sc_require_like : FnScope N_require_like ["web", "other"] (defScope s_require_like) := ⟨rfl, rfl, rfl, by decide +kernel, rfl, by decide +kernel, by decide +kernel⟩
theorem ok_require_like {f : Addr} {fd : FuncData} (c_is_like : Gf P w K mg base 1 "is_like" (spIsLike C_Web K)) (F : Fun K "require_like" "require_like" s_require_like f fd) (hm : mg "require_like" = some (.ref f)) (b : Binds K fd ["web", "other"] []) : Gf P w K mg base 2 "require_like" (spRequireLike C_Web K) := by
  refine gf_mk F hm b sc_require_like (fun _ => rfl) fun cdv A outer s H E ⟨rs, qs⟩ vs F0 hr hp hv => ?_
  obtain ⟨v, v1, rfl, h1, h2⟩ := each2 hv
  refine ⟨_, (pss_one (ps_if (pt_not (pt_val (p_call c_is_like hr (by decide) (pa_cons (pv 0) (pa_cons (pv 1) pa_nil)))))
        (pss_one ps_never)
        pss_nil)), ?_⟩
  refine s_if (t_not (t_B (r_call (rs, qs) True.intro (by walk_at "rr")))) (fun h => ?_) fun h => s_next fun F1 e => .non
  rw [decide_eq_true (show qs.length = rs.length from hp)] at h
  cases h
noncomputable abbrev spSilent (C_Web : Addr) (K : PySem.W.Frag) : Sp := SpF (γ := Nat) (fun g => 1 ≤ g ∧ g ≤ 5) (fun g => [Dt K (nI g)]) (fun g => webP C_Web K (silentR g))
theorem bt_size {n : Nat} (h1 : 1 ≤ n) (h2 : n ≤ 5) : isBt (nI n) 1 5 = true := by
  have hb : (100 : Int) < 10 ^ 60 := by decide
  rw [isBt, isInt]
  simp only [Bool.and_eq_true, decide_eq_true_eq]
  omega
-- silent_web: 0:size
abbrev s_silent_web : Stmt := topS 23
abbrev N_silent_web : List Str := ["size"]
theorem sc_silent_web : FnScope N_silent_web ["size"] (defScope s_silent_web) := ⟨rfl, rfl, rfl, by decide +kernel, rfl, by decide +kernel, by decide +kernel⟩
theorem ok_silent_web {f : Addr} {fd : FuncData} (g_MAX_SIZE : GInt mg "MAX_SIZE" 5) (c_Web : MkF P w K mg base 6 "Web" C_Web (spWebInit C_Web K)) (c_require_number : Gf P w K mg base 3 "require_number" (spRequireNumber K)) (F : Fun K "silent_web" "silent_web" s_silent_web f fd) (hm : mg "silent_web" = some (.ref f)) (b : Binds K fd ["size"] []) : Gf P w K mg base 8 "silent_web" (spSilent C_Web K) := by
  refine gf_mk F hm b sc_silent_web (fun _ => rfl) fun cdv A outer s H E n vs F0 hr ⟨hp1, hp2⟩ hv => ?_
  obtain ⟨v, rfl, h1⟩ := each1 hv
  refine ⟨_, (pss_cons (ps_expr (p_call c_require_number hr (by decide) (pa_cons (pv 0) (pa_cons pe_int (pa_cons (p_gint g_MAX_SIZE) pa_nil)))))
      (pss_one (ps_ret (p_mk c_Web hr (by decide) (pa_cons (pe_op op_repTA (pe_tup (pa_cons (pe_tup pa_nil) pa_nil)) (pv 0)) pa_nil))))), ?_⟩
  refine q_drop (r_call (nI n, 1, 5) (bt_size hp1 hp2) (r_cons (by walk_at "rr") (r_cons r_int (r_cons (by walk_at "rr") r_nil)))) fun F1 e => ?_
  have h1' := dp_up e h1
  refine s_ret (r_mk (silentR n) (silent_ok hp1 hp2) (r_cons (r_is (r_rep1 (d := dRow []) (k := n) (r_tpD (xs := [([] : List Nat)]) (f := dRow) (r_tup (Rs := [Dt K (dRow [])]) (r_cons (r_tpD (xs := ([] : List Nat)) (f := nI) (r_tup (Rs := []) r_nil (by decide))) r_nil) (by show 1 ≤ 100000; decide))) (by walk_at "rr") hp1 (by omega)) ?_) r_nil))
  unfold silentR dRows; rw [List.map_replicate]
noncomputable abbrev spThen (C_Web : Addr) (K : PySem.W.Frag) : Sp := SpF (γ := Rows × Rows) (fun g => g.2.length = g.1.length) (fun g => [webP C_Web K g.1, webP C_Web K g.2]) (fun g => webP C_Web K (thenR g.1 g.2))
-- Web.then: 0:self 1:other 2:rows 3:house 4:told 5:near 6:far
abbrev s_Web_then : Stmt := inClass (topS 18) 12
abbrev N_Web_then : List Str := ["self", "other", "rows", "house", "told", "near", "far"]
theorem sc_Web_then : FnScope N_Web_then ["self", "other"] (defScope s_Web_then) := ⟨rfl, rfl, rfl, by decide +kernel, rfl, by decide +kernel, by decide +kernel⟩
theorem ok_then {f : Addr} {fd : FuncData} (B : Bf mg) (W : WebK K C_Web) (c_Web : MkF P w K mg base 6 "Web" C_Web (spWebInit C_Web K)) (c_require_like : Gf P w K mg base 2 "require_like" (spRequireLike C_Web K)) (c_heard_by : Gf P w K mg base 1 "heard_by" (spHeardBy C_Web K)) (F : Fun K "then" "Web.then" s_Web_then f fd) : FnOk P w K mg base CX0 8 f fd ["self", "other"] (spThen C_Web K) := by
  refine gf_ok F sc_Web_then (fun _ => rfl) fun cdv A outer s H E ⟨rs, qs⟩ vs F0 hr hp hv => ?_
  obtain ⟨v, v1, rfl, h1, h2⟩ := each2 hv
  refine ⟨_, (pss_cons (ps_expr (p_call c_require_like hr (by decide) (pa_cons (pv 0) (pa_cons (pv 1) pa_nil))))
      (pss_cons (ps_set (i := 2) sc_Web_then.nd rfl (by first | exact Or.inl rfl | exact Or.inr rfl) (pe_lst pa_nil))
      (pss_cons (ps_for PassesOwn.never rfl (pi_range1 (by rfl) B.range (pa_cons (pe_sl (pv 0)) pa_nil)) (pg_name (i := 3) sc_Web_then.nd rfl (by first | exact Or.inl rfl | exact Or.inr rfl))
        (pss_cons (ps_setLc2 (i := 4) (own := [("near", 5), ("far", 6)]) (vs1 := [6]) (g := gName 5) (g1 := gName 6) (tt := tYes) (tt1 := tYes)  rfl sc_Web_then.nd rfl rfl (sw_true rfl rfl rfl (by decide +kernel)) (pi_tup (p_call c_heard_by hr (by decide) (pa_cons (pv 1) (pa_cons (pv 3) pa_nil)))) (blkOk_by (N := N_Web_then) (sc := defScope s_Web_then) (by decide +kernel)) (by decide) (fun _ _ _ _ _ => (pg_name (i := 5) sc_Web_then.nd rfl (by first | exact Or.inl rfl | exact Or.inr rfl))) (fun _ _ _ _ _ => pts_nil) (fun _ _ _ _ _ => by exact (pi_tupK K (p_call c_heard_by hr (by decide) (pa_cons (pv 0) (pa_cons (pv 5) pa_nil))))) (fun _ _ _ _ _ => (pg_name (i := 6) sc_Web_then.nd rfl (by first | exact Or.inl rfl | exact Or.inr rfl))) (fun _ _ _ _ _ => pts_nil) (fun _ _ _ _ _ => by exact (pv 6)))
        (pss_one (ps_expr (pe_bm PySem.F.plainAttrs_list PySem.F.slot_list_append PySem.F.type_list_append mt_append (pv 2) (pa_cons (p_tuple B (pa_cons (pe_lc (own := [("far", 6)]) (g := gName 6) rfl sc_Web_then.nd (pi_list (p_sortedSet rfl B (pa_cons (p_set rfl B (pa_cons (pv 4) pa_nil)) pa_nil))) (blkOk_by (N := N_Web_then) (sc := defScope s_Web_then) (by decide +kernel)) (fun _ _ _ _ _ => (pg_name (i := 6) sc_Web_then.nd rfl (by first | exact Or.inl rfl | exact Or.inr rfl))) (fun _ _ _ _ _ => (pts_one (pt_cmpR op_ne (pv 6) (pv 3) (nomark _)))) (fun _ _ _ _ _ => by exact (pv 6))) pa_nil)) pa_nil))))))
      (pss_one (ps_ret (p_mk c_Web hr (by decide) (pa_cons (p_tuple B (pa_cons (pv 2) pa_nil)) pa_nil))))))), ?_⟩
  have hq : qs.length = rs.length := hp
  have ok : Ok rs := h1.1
  have hl := ok.le
  refine q_drop (r_call (rs, qs) hp (by walk_at "rr")) fun F1 e1 => ?_
  refine q_new (Rs := []) r_nil (by decide) fun l ws F2 e2 nl hw => ?_
  obtain rfl := each0 hw
  have a2 := e1.trans e2
  have h1' := Mono.go h1 a2
  refine q_for (fun i σ' F' L' => ∃ o3 o4 o5 o6 vs, σ' = [some v, some v1, some (.ref l), o3, o4, o5, o6] ∧ L' = [(l, .lst vs)] ∧ Each ((List.range i).map fun h => Dt K (dRow (thenRow rs qs h))) vs F')
    (i_rangeN (n := rs.length) (r_size W (r_var rfl h1')) (by omega)) (fun F3 e3 => ⟨_, _, _, _, [], rfl, rfl, True.intro⟩) (fun i σ' F' F'' L' e ⟨o3, o4, o5, o6, vs, q1, q2, q3⟩ => ⟨o3, o4, o5, o6, vs, q1, q2, Mono.go q3 e⟩) ?_ ?_
  · rintro i S x σ' F4 L4 e4 hS hx ⟨o3, o4, o5, o6, vs, rfl, rfl, hvs⟩
    have hi : i < rs.length := by
      have := (List.getElem?_eq_some_iff.mp hS).1
      rwa [List.length_map, List.length_range] at this
    rw [List.getElem?_map, List.getElem?_range hi] at hS
    cases hS
    refine g_name ?_
    have h14 := Mono.go h1' e4
    have h24 := Mono.go (Mono.go h2 a2) e4
    have okq : Ok qs := h2.1
    refine q_set (R := Dt K (.list ((toldL rs qs i).map nI))) (r_is (r_lnD (α := Nat × Nat) (xs := flat (fun near => hbL rs near) (hbL qs i)) (f := fun p => nI p.2) (r_lc2 (ι := Nat) (κ := Nat) (xs := hbL qs i) (ys := fun near => hbL rs near) (Ri := fun n => Dt K (nI n)) (Rj := fun _ y => Dt K (nI y)) (Re := fun _ y => Dt K (nI y))
      (i_tupN (xs := hbL qs i) (f := nI) (r_call (qs, i) (by show i < qs.length; omega) (r_cons (r_var rfl h24) (r_cons (r_var rfl hx) r_nil)))) (Nat.le_trans (told_len hl okq.le) (by decide)) fun n u G1 e hn hu => rg_name fun G2 e2 => ⟨rfl, i_tupN (xs := hbL rs n) (f := nI) (r_call (rs, n) (by have := hb_lt hn; show n < rs.length; omega) (r_cons (r_var rfl (Mono.go h14 (e.trans e2))) (r_cons (r_var rfl (Mono.go hu e2)) r_nil))), fun y u2 G3 e3 hy q3 => rg_name fun G4 e4 => ⟨rfl, r_var rfl (Mono.go q3 e4)⟩⟩)) (by unfold toldL; rw [List.map_map]; rfl)) fun x4 F5 e5 h4 => ?_
    have hlen : vs.length = i := by rw [each_length hvs, List.length_map, List.length_range]
    refine s_app (R := Dt K (dRow (thenRow rs qs i))) (r_varE rfl) (r_tupLn (xs := (allL rs qs i).filter fun x => !decide (x = i)) (f := nI) (r_lcF (ι := Nat) (xs := allL rs qs i) (f := fun x => !decide (x = i)) (Ri := fun n => Dt K (nI n)) (Re := fun n => Dt K (nI n))
      (i_lstN (xs := allL rs qs i) (f := nI) (r_sortedSetN (r_var rfl h4) (by have := told_len (h := i) hl okq.le; unfold toldL; rw [List.length_map]; omega) asc_all fun k => mem_all)) (by have := all_len (rs := rs) (qs := qs) (h := i); omega) (fun _ => rfl) (fun y u G1 e hy hu => ?_) fun y u G1 e hy hu _ => r_var rfl hu)) (by omega) fun u F6 e6 hu => ?_
    · have hx' := dp_up (e5.trans e) hx
      exact t_test (r_neN (r_var rfl hu) (r_var rfl hx'))
    · refine ⟨_, _, _, _, _, rfl, rfl, ?_⟩
      rw [List.range_succ, List.map_append]
      exact each_app (Mono.go hvs (e5.trans e6)) ⟨hu, True.intro⟩
  · rintro σ' F4 L4 e4 ⟨o3, o4, o5, o6, vs, rfl, rfl, hvs⟩
    rw [List.length_map, List.length_range] at hvs
    refine s_ret (r_mk (thenR rs qs) (then_ok ok) (r_cons (r_tpD (xs := thenR rs qs) (f := dRow) (r_tupC (l := l) (xs := vs) List.mem_cons_self (r_cons (r_varE (i := 2) rfl) r_nil) ?_)) r_nil))
    unfold thenR
    rw [List.map_map]
    exact hvs
end
end Wb

namespace Wb
open PySem PySem.Spec PyProof.Rows L2 SlX StX Rs Ma
local macro_rules | `(tactic| walk_at "rr") => `(tactic| (first
  | exact r_nil | exact r_int | exact r_bl | exact r_str
  | (refine r_var rfl ?_; assumption)
  | exact r_c rfl
  | (refine r_cons ?_ ?_ <;> walk_at "rr")))
section
variable {P : Program} {w : World} {K : PySem.W.Frag} {mg : Str → Option Value} {base : Heap} {C_Web : Addr}
noncomputable abbrev spProp (C_Web : Addr) (K : PySem.W.Frag) (R : Rows → VP) : Sp := SpF (γ := Rows) (fun _ => True) (fun g => [webP C_Web K g]) R
-- Web.heard: 0:self
abbrev s_Web_heard : Stmt := inClass (topS 18) 2
abbrev N_Web_heard : List Str := ["self"]
theorem sc_Web_heard : FnScope N_Web_heard ["self"] (defScope s_Web_heard) := ⟨rfl, rfl, rfl, by decide +kernel, rfl, by decide +kernel, by decide +kernel⟩
theorem ok_heard {f : Addr} {fd : FuncData} (W : WebK K C_Web) (F : Fun K "heard" "Web.heard" s_Web_heard f fd) : FnOk P w K mg base CX0 1 f fd ["self"] (spProp C_Web K fun rs => Dt K (dRows rs)) := by
  refine gf_ok F sc_Web_heard (fun _ => rfl) fun cdv A outer s H E rs vs F0 hr hp hv => ?_
  obtain ⟨v, rfl, h1⟩ := each1 hv
  exact ⟨_, (pss_one (ps_ret (pe_sl (pv 0)))), s_ret (r_heard W (by walk_at "rr"))⟩
-- Web.size: 0:self
abbrev s_Web_size : Stmt := inClass (topS 18) 3
abbrev N_Web_size : List Str := ["self"]
theorem sc_Web_size : FnScope N_Web_size ["self"] (defScope s_Web_size) := ⟨rfl, rfl, rfl, by decide +kernel, rfl, by decide +kernel, by decide +kernel⟩
theorem ok_size {f : Addr} {fd : FuncData} (W : WebK K C_Web) (F : Fun K "size" "Web.size" s_Web_size f fd) : FnOk P w K mg base CX0 1 f fd ["self"] (spProp C_Web K fun rs => Dt K (nI rs.length)) := by
  refine gf_ok F sc_Web_size (fun _ => rfl) fun cdv A outer s H E rs vs F0 hr hp hv => ?_
  obtain ⟨v, rfl, h1⟩ := each1 hv
  exact ⟨_, (pss_one (ps_ret (pe_sl (pv 0)))), s_ret (r_size W (by walk_at "rr"))⟩
-- Web.roots: 0:self
abbrev s_Web_roots : Stmt := inClass (topS 18) 4
abbrev N_Web_roots : List Str := ["self"]
theorem sc_Web_roots : FnScope N_Web_roots ["self"] (defScope s_Web_roots) := ⟨rfl, rfl, rfl, by decide +kernel, rfl, by decide +kernel, by decide +kernel⟩
theorem ok_roots {f : Addr} {fd : FuncData} (W : WebK K C_Web) (F : Fun K "roots" "Web.roots" s_Web_roots f fd) : FnOk P w K mg base CX0 1 f fd ["self"] (spProp C_Web K fun rs => Dt K (dRow (rootsN rs))) := by
  refine gf_ok F sc_Web_roots (fun _ => rfl) fun cdv A outer s H E rs vs F0 hr hp hv => ?_
  obtain ⟨v, rfl, h1⟩ := each1 hv
  exact ⟨_, (pss_one (ps_ret (pe_sl (pv 0)))), s_ret (r_roots W (by walk_at "rr"))⟩
noncomputable abbrev spHears (C_Web : Addr) (K : PySem.W.Frag) : Sp := SpF (γ := Rows × Nat) (fun g => g.2 < g.1.length) (fun g => [webP C_Web K g.1, Dt K (nI g.2)]) (fun g => Dt K (dRow (hbL g.1 g.2)))
-- Web.hears: 0:self 1:house
abbrev s_Web_hears : Stmt := inClass (topS 18) 6
abbrev N_Web_hears : List Str := ["self", "house"]
theorem sc_Web_hears : FnScope N_Web_hears ["self", "house"] (defScope s_Web_hears) := ⟨rfl, rfl, rfl, by decide +kernel, rfl, by decide +kernel, by decide +kernel⟩
theorem ok_hears {f : Addr} {fd : FuncData} (c_require_house : Gf P w K mg base 4 "require_house" (spRequireHouse C_Web K)) (c_heard_by : Gf P w K mg base 1 "heard_by" (spHeardBy C_Web K)) (F : Fun K "hears" "Web.hears" s_Web_hears f fd) : FnOk P w K mg base CX0 5 f fd ["self", "house"] (spHears C_Web K) := by
  refine gf_ok F sc_Web_hears (fun _ => rfl) fun cdv A outer s H E ⟨rs, h⟩ vs F0 hr hp hv => ?_
  obtain ⟨v, v1, rfl, h1, h2⟩ := each2 hv
  refine ⟨_, (pss_cons (ps_expr (p_call c_require_house hr (by decide) (pa_cons (pv 0) (pa_cons (pv 1) pa_nil))))
      (pss_one (ps_ret (p_call c_heard_by hr (by decide) (pa_cons (pv 0) (pa_cons (pv 1) pa_nil)))))), ?_⟩
  refine q_drop (r_call (rs, h) hp (by walk_at "rr")) fun F1 e1 => ?_
  have h1' := Mono.go h1 e1
  have h2' := Mono.go h2 e1
  exact s_ret (r_call (rs, h) hp (by walk_at "rr"))
noncomputable abbrev spEq (C_Web : Addr) (K : PySem.W.Frag) : Sp := SpF (γ := Rows × Rows) (fun _ => True) (fun g => [webP C_Web K g.1, webP C_Web K g.2]) (fun g => Dt K (.bool (decide (g.1 = g.2))))
-- Web.__eq__: 0:self 1:other
abbrev s_Webu__equ_ : Stmt := inClass (topS 18) 17
abbrev N_Webu__equ_ : List Str := ["self", "other"]
theorem sc_Webu__equ_ : FnScope N_Webu__equ_ ["self", "other"] (defScope s_Webu__equ_) := ⟨rfl, rfl, rfl, by decide +kernel, rfl, by decide +kernel, by decide +kernel⟩
theorem ok_eq {f : Addr} {fd : FuncData} (B : Bf mg) (W : WebK K C_Web) (m_Web : mg "Web" = some (.ref C_Web)) (F : Fun K "__eq__" "Web.__eq__" s_Webu__equ_ f fd) : FnOk P w K mg base CX0 1 f fd ["self", "other"] (spEq C_Web K) := by
  refine gf_ok F sc_Webu__equ_ (fun _ => rfl) fun cdv A outer s H E ⟨rs, qs⟩ vs F0 hr hp hv => ?_
  obtain ⟨v, v1, rfl, h1, h2⟩ := each2 hv
  refine ⟨_, (pss_one (ps_ret (pe_and (p_isiS (.ref C_Web) B (pa_cons (pv 1) (pa_cons (p_cls (by rfl) m_Web) pa_nil))) (pe_one (pe_cmpR (op_eqD hr.units) (pe_sl (pv 0)) (pe_sl (pv 1)) (nomark _)))))), ?_⟩
  exact s_ret (r_and (a := true) (b := decide (rs = qs)) (r_isiS W (fun _ _ => webP.is) (r_cons (r_var rfl h2) (r_cons (r_c rfl) r_nil))) fun _ => r_is (r_eqD (r_heard W (by walk_at "rr")) (r_heard W (by walk_at "rr")) sh_rows sh_rows) (by rw [eqv_rows]))
end
end Wb

namespace Wb
open PySem PySem.Spec PyProof.Rows L2 SlX StX Rs Ma
local macro_rules | `(tactic| walk_at "rr") => `(tactic| (first
  | exact r_nil | exact r_int | exact r_bl | exact r_str
  | (refine r_var rfl ?_; assumption)
  | exact r_c rfl
  | (refine r_cons ?_ ?_ <;> walk_at "rr")))
section
variable {P : Program} {w : World} {K : PySem.W.Frag} {mg : Str → Option Value} {base : Heap} {C_Web : Addr}
/-! ### the cask -/
abbrev spCask (K : PySem.W.Frag) : Sp := SpF (γ := List Int × Nat) (fun g => g.1.length ≤ 63) (fun g => [Dt K (.list (g.1.map .int)), Dt K (nI g.2)]) (fun _ => Ck 3)
-- _law_cask: 0:_law_script 1:_law_at 2:_law_cell 3:_law_great 4:_law_seed
abbrev s__law_cask : Stmt := topS 30
abbrev N__law_cask : List Str := ["_law_script", "_law_at", "_law_cell", "_law_great", "_law_seed"]
theorem sc__law_cask : FnScope N__law_cask ["_law_script", "_law_at"] (defScope s__law_cask) := ⟨rfl, rfl, rfl, by decide +kernel, rfl, by decide +kernel, by decide +kernel⟩
theorem ok_cask {f : Addr} {fd : FuncData} (B : Bf mg) (F : Fun K "_law_cask" "_law_cask" s__law_cask f fd) (hm : mg "_law_cask" = some (.ref f)) (b : Binds K fd ["_law_script", "_law_at"] []) : Gf P w K mg base 1 "_law_cask" (spCask K) := by
  refine ⟨f, fd, _, ck_new F sc__law_cask (fun _ => rfl) fun cdv A outer s H E ⟨ns, at_⟩ vs F0 hr hp hv => ?_, hm, F.kp, b⟩
  obtain ⟨v, v1, rfl, h1, h2⟩ := each2 hv
  have h1 : Dt K (.list (ns.map .int)) v F0 := h1
  refine ⟨_, (pss_cons (ps_set (i := 2) sc__law_cask.nd rfl (by first | exact Or.inl rfl | exact Or.inr rfl) (pe_ifExp (pt_cmpR op_lt (pv 1) (p_len B (pa_cons (pv 0) pa_nil)) (nomark _)) (pe_ix ix_list (pv 0) (pv 1) (fun _ _ => rfl)) (pe_op op_add (pe_op op_mul pe_int (pv 1)) pe_int)))
      (pss_cons (ps_set (i := 3) sc__law_cask.nd rfl (by first | exact Or.inl rfl | exact Or.inr rfl) (pe_op op_mod (p_int B (pa_cons (p_abs B (pa_cons (pv 2) pa_nil)) pa_nil)) (pe_op Nq.op_powX (pe_op Nq.op_powX pe_int pe_int) pe_int)))
      (pss_cons (ps_set (i := 4) sc__law_cask.nd rfl (by first | exact Or.inl rfl | exact Or.inr rfl) (pe_op op_mod (p_int B (pa_cons (pe_op op_add (pe_op op_add (pe_op op_add (pv 3) (pe_op op_mul pe_int (pv 1))) (pe_op op_mul pe_int (p_int B (pa_cons (pe_cmpR op_lt (pv 2) pe_int (nomark _)) pa_nil)))) pe_int) pa_nil)) (pe_op op_add (pe_op Nq.op_powX pe_int pe_int) pe_int)))
      (pss_one (ps_ret (pe_lst (pa_cons (pe_ifExp (pt_cmpR op_gt (pv 3) (pe_op Nq.op_powX pe_int pe_int) (nomark _)) (pe_op op_sub (pv 3) (pe_op Nq.op_powX pe_int pe_int)) pe_int) (pa_cons (pv 4) (pa_cons pe_int pa_nil))))))))), ?_⟩
  refine q_set (R := IntV) (r_if (b := decide (at_ < ns.length)) (t_is (t_test (r_I0b (by walk_at "rr") (r_is (r_lnLD (r_var rfl h1)) (by rw [List.length_map])))) (decide_eq_decide.mpr (by omega))) (fun hb => ?_) fun _ => a_op0 (a_mulL (r_int (K := K)) (r_any (by walk_at "rr")) ⟨by decide, by decide⟩) r_anyI) fun x2 F2 e2 h3 => ?_
  · rw [decide_eq_true_eq] at hb
    exact r_any (r_ixL (d := .int ns[at_]) (by walk_at "rr") (by walk_at "rr") (by rw [List.getElem?_map, List.getElem?_eq_getElem hb]; rfl))
  refine q_set (R := IntV) (a_modI (m := (10 ^ 60) ^ 8) (a_int (r_cons (a_abs (r_cons (r_var rfl h3) r_nil)) r_nil)) (r_Ii (f := fun i j => i ^ j.toNat) (r_Ii (f := fun i j => i ^ j.toNat) (r_int (K := K)) (r_int (K := K)) ⟨by decide, by decide +kernel⟩) (r_int (K := K)) ⟨by decide, by decide +kernel⟩) (by decide +kernel)) fun x3 F3 e3 h4 => ?_
  have h3' := Mono.go h3 e3
  refine q_set (R := IntV) (a_modI (m := 10 ^ 18 + 9) (a_int (r_cons (a_op0 (a_op0 (a_op0 (r_var rfl h4) (a_mulL (r_int (K := K)) (r_any (r_var (R := Dt K (nI at_)) rfl (dp_up (e2.trans e3) h2))) ⟨by decide, by decide⟩)) (a_mulL (r_int (K := K)) (a_intB (r_cons (a_cmp (r_var rfl h3') r_anyI) r_nil)) ⟨by decide, by decide⟩)) r_anyI) r_nil)) (r_I0i (r_Ii (f := fun i j => i ^ j.toNat) (r_int (K := K)) (r_int (K := K)) ⟨by decide, by decide +kernel⟩) (r_int (K := K))) (by decide +kernel)) fun x4 F4 e4 h5 => ?_
  have h4' := Mono.go h4 e4
  refine s_ret ((r_lstN (Rs := [IntV, IntV, IntV]) (r_cons (a_if (a_test (a_cmp (r_var rfl h4') (r_any (r_Ii (f := fun i j => i ^ j.toNat) (r_int (K := K)) (r_int (K := K)) ⟨by decide, by decide +kernel⟩)))) (a_op0 (r_var rfl h4') (r_any (r_Ii (f := fun i j => i ^ j.toNat) (r_int (K := K)) (r_int (K := K)) ⟨by decide, by decide +kernel⟩))) r_anyI) (r_cons (r_var rfl h5) (r_cons r_anyI r_nil))) (by show 3 ≤ 100000; decide)).weak fun v F5 e5 ⟨a, vs, q1, q2, q3, q4⟩ => ?_)
  obtain ⟨y1, y2, y3, rfl, ⟨i1, rfl⟩, ⟨i2, rfl⟩, ⟨i3, rfl⟩⟩ := each3 q3
  exact ⟨a, [i1, i2, i3], q1, q2, rfl, ((e2.trans e3).trans e4).free q4⟩
-- _law_scoop: 0:_law_cask_here 1:_law_total 2:_law_found 3:_law_one 4:_law_two 5:_law_three
abbrev s__law_scoop : Stmt := topS 31
abbrev N__law_scoop : List Str := ["_law_cask_here", "_law_total", "_law_found", "_law_one", "_law_two", "_law_three"]
theorem sc__law_scoop : FnScope N__law_scoop ["_law_cask_here", "_law_total"] (defScope s__law_scoop) := ⟨rfl, rfl, rfl, by decide +kernel, rfl, by decide +kernel, by decide +kernel⟩
theorem ok_scoop {f : Addr} {fd : FuncData} (B : Bf mg) (F : Fun K "_law_scoop" "_law_scoop" s__law_scoop f fd) (hm : mg "_law_scoop" = some (.ref f)) (b : Binds K fd ["_law_cask_here", "_law_total"] []) : Gf P w K mg base 1 "_law_scoop" (SpF (γ := Nat) (fun t => 1 ≤ t ∧ t ≤ 1000) (fun t => [Ck 3, Dt K (nI t)]) Bd) := by
  refine ⟨f, fd, _, ck_fn (Rs := fun t => [Dt K (nI t)]) (by decide) (fun g v F F' h => h) (fun g vs F F' h => ?_) (cell_ok F sc__law_scoop (fun _ => rfl) fun cdv A outer s H E t a xs vs F0 hr ⟨hp1, hp2⟩ hx hv => ?_) (fun _ => rfl), hm, F.kp, b⟩
  · obtain ⟨v, rfl, hv⟩ := each1 h
    cases hv
    exact ⟨.int _, True.intro⟩
  obtain ⟨v1, rfl, h2⟩ := each1 hv
  cases h2
  have h2 : ∀ F, Dt K (nI t) (.int (t : Int)) F := fun F => .int _
  obtain ⟨x, y, z, rfl⟩ : ∃ x y z, xs = [x, y, z] := by
    match xs, hx with
    | [x, y, z], _ => exact ⟨x, y, z, rfl⟩
  refine ⟨_, (pss_cons (ps_if (pt_cmpR op_gt (pe_ix ix_list (pv 0) pe_int (fun _ _ => rfl)) pe_int (nomark _))
        (pss_cons (ps_set (i := 2) sc__law_scoop.nd rfl (by first | exact Or.inl rfl | exact Or.inr rfl) (pe_op op_mod (p_int B (pa_cons (pe_ix ix_list (pv 0) pe_int (fun _ _ => rfl)) pa_nil)) (pv 1)))
        (pss_cons (ps_asg (pe_op op_fdivW (pe_ix ix_list (pv 0) pe_int (fun _ _ => rfl)) (pv 1)) (pg_sub (pv 0) pe_int set_list))
        (pss_one (ps_ret (pv 2)))))
        pss_nil)
      (pss_cons (ps_asg (pe_op op_add (pe_ix ix_list (pv 0) pe_int (fun _ _ => rfl)) pe_int) (pg_sub (pv 0) pe_int set_list))
      (pss_cons (ps_set (i := 3) sc__law_scoop.nd rfl (by first | exact Or.inl rfl | exact Or.inr rfl) (pe_op op_mod (p_int B (pa_cons (pe_op op_add (pe_ix ix_list (pv 0) pe_int (fun _ _ => rfl)) (pe_op op_mul pe_int (pe_ix ix_list (pv 0) pe_int (fun _ _ => rfl)))) pa_nil)) pe_int))
      (pss_cons (ps_set (i := 4) sc__law_scoop.nd rfl (by first | exact Or.inl rfl | exact Or.inr rfl) (pe_op op_mod (p_int B (pa_cons (pe_op op_add (pe_op op_add (pe_op op_mul (pv 3) (pv 3)) (pe_op op_fdivW (pe_ix ix_list (pv 0) pe_int (fun _ _ => rfl)) pe_int)) (pe_op op_mul pe_int (pe_ix ix_list (pv 0) pe_int (fun _ _ => rfl)))) pa_nil)) pe_int))
      (pss_cons (ps_set (i := 5) sc__law_scoop.nd rfl (by first | exact Or.inl rfl | exact Or.inr rfl) (pe_op op_mod (p_int B (pa_cons (pe_op op_add (pe_op op_mul (pv 4) (pv 4)) (pv 3)) pa_nil)) pe_int))
      (pss_one (ps_ret (pe_op op_mod (p_int B (pa_cons (pe_op op_fdivW (pv 5) pe_int) pa_nil)) (pv 1))))))))), ?_⟩
  refine u_if (a_test (a_cmp (r_any (r_ixI (xs := [x, y, z]) (n := 0) List.mem_cons_self (r_varE rfl) (r_int (K := K)) rfl)) r_anyI)) ?_ ?_
  · refine u_assoc (u_set (R := Bd t) (a_mod (a_int (r_cons (r_any (r_ixI (xs := [x, y, z]) (n := 0) List.mem_cons_self (r_varE rfl) (r_int (K := K)) rfl)) r_nil)) (r_var rfl (h2 _)) hp1) fun x1 F1 e1 g1 => ?_)
    refine u_assoc (u_setC (R := IntV) (a_div (r_any (r_ixI (xs := [x, y, z]) (n := 0) List.mem_cons_self (r_varE rfl) (r_int (K := K)) rfl)) (r_var rfl (h2 _)) ⟨by omega, ?_⟩) (r_varE rfl) (n := 0) (r_int (K := K)) (by show 0 < 3; decide) fun x2 F2 e2 ⟨i, g2⟩ => ?_)
    · have := Nat.log2_le_self t
      show (t : Int).natAbs.log2 < 9000
      rw [Int.natAbs_natCast]
      omega
    subst g2
    exact u_retq (R := Bd t) (r_var rfl g1) fun v F3 e3 hv => ⟨hv, [i, y, z], rfl, rfl⟩
  · refine u_next ?_
    refine u_setC (R := IntV) (a_op0 (r_any (r_ixI (xs := [x, y, z]) (n := 2) List.mem_cons_self (r_varE rfl) (r_int (K := K)) rfl)) r_anyI) (r_varE rfl) (n := 2) (r_int (K := K)) (by show 2 < 3; decide) fun x1 F1 e1 ⟨i, g1⟩ => ?_
    subst g1
    refine u_set (R := Bd 2147483587) (a_mod (m := 2147483587) (a_int (r_cons (a_op0 (r_any (r_ixI (xs := [x, y, i]) (n := 1) List.mem_cons_self (r_varE rfl) (r_int (K := K)) rfl)) (a_mulL (r_int (K := K)) (r_any (r_ixI (xs := [x, y, i]) (n := 2) List.mem_cons_self (r_varE rfl) (r_int (K := K)) rfl)) ⟨by decide, by decide⟩)) r_nil)) (r_int (K := K)) (by decide)) fun x2 F2 e2 g2 => ?_
    refine u_set (R := Bd 1000000033) (a_mod (m := 1000000033) (a_int (r_cons (a_op0 (a_op0 (a_mulB (r_var rfl g2) (r_anyB (r_var rfl g2)) (by decide)) (a_div (r_any (r_ixI (xs := [x, y, i]) (n := 1) List.mem_cons_self (r_varE rfl) (r_int (K := K)) rfl)) (r_int (K := K)) ⟨by decide, by decide +kernel⟩)) (a_mulL (r_int (K := K)) (r_any (r_ixI (xs := [x, y, i]) (n := 2) List.mem_cons_self (r_varE rfl) (r_int (K := K)) rfl)) ⟨by decide, by decide⟩)) r_nil)) (r_int (K := K)) (by decide)) fun x3 F3 e3 g3 => ?_
    have g2' := Mono.go g2 e3
    refine u_set (R := Bd 999999929) (a_mod (m := 999999929) (a_int (r_cons (a_op0 (a_mulB (r_var rfl g3) (r_anyB (r_var rfl g3)) (by decide)) (r_anyB (r_var rfl g2'))) r_nil)) (r_int (K := K)) (by decide)) fun x4 F4 e4 g4 => ?_
    exact u_ret (R := Bd t) (a_mod (a_int (r_cons (a_div (r_anyB (r_var rfl g4)) (r_int (K := K)) ⟨by decide, by decide +kernel⟩) r_nil)) (r_var rfl (h2 _)) hp1) fun v F5 e5 hv => ⟨hv, [x, y, i], rfl, rfl⟩
end
end Wb

/-! what the laws draw -/
namespace Wb
open PySem PySem.Spec PyProof.Rows L2 SlX StX Rs Ma Tw
def spFew {α : Type} : Unit × List α × Nat → (List α → Prop) → Prop := fun g Q => g.2.1.length ≤ 900 ∧ ∀ ys zs : List α, (ys ++ zs).Perm g.2.1 → ys.length = min g.2.2 g.2.1.length → Q ys
def spAny {α : Type} : Unit × List α → (α → Prop) → Prop := fun g Q => (g.2 ≠ [] ∧ g.2.length ≤ 1000) ∧ ∀ a ∈ g.2, Q a
section
variable {P : Program} {w : World} {K : PySem.W.Frag} {mg : Str → Option Value} {base : Heap} {α : Type} {RX : α → VP} [∀ a, Mono (RX a)]
abbrev s__law_any_of : Stmt := topS 33
abbrev N__law_any_of : List Str := ["_law_cask_here", "_law_items"]
theorem sc__law_any_of : FnScope N__law_any_of ["_law_cask_here", "_law_items"] (defScope s__law_any_of) := ⟨rfl, rfl, rfl, by decide +kernel, rfl, by decide +kernel, by decide +kernel⟩
theorem ok__law_any_of {f : Addr} {fd : FuncData} (B : Bf mg) (c_law_scoop : Gf P w K mg base 1 "_law_scoop" (SpN (fun g : Unit × Nat => [(fCk 3) g.1, (fD K dN) g.2]) (fun (g : Unit × Nat) (Q : Nat → Prop) => (1 ≤ g.2 ∧ g.2 ≤ 1000) ∧ ∀ n, n < g.2 → Q n) (fD K dN))) (F : Fun K "_law_any_of" "_law_any_of" s__law_any_of f fd) (hm : mg "_law_any_of" = some (.ref f)) (b : Binds K fd ["_law_cask_here", "_law_items"] []) : Gf P w K mg base 2 "_law_any_of" (SpN (fun g : Unit × (List α) => [(fCk 3) g.1, (fLn RX) g.2]) spAny RX) := by
  refine gw_mk F hm b sc__law_any_of (fun _ => rfl) (fun _ => inferInstance) fun cdv A outer s H E g hr => ?_
  obtain ⟨v__law_cask_here, v__law_items⟩ := g
  refine ⟨_, (pss_one (ps_ret (pe_ix ix_list (pv 1) (p_call c_law_scoop hr (by decide) (pa_cons (pv 0) (pa_cons (p_len B (pa_cons (pv 1) pa_nil)) pa_nil))) (fun _ _ => rfl)))), _,
    (ts_ret (tr_op o_ixLn (tr_var (R := (fLn RX)) (a := v__law_items) rfl) (tr_call (ta_cons (tr_var (R := (fCk 3)) (a := v__law_cask_here) rfl) (ta_one (tr_cb c_lenL (ta_one (tr_var (R := (fLn RX)) (a := v__law_items) rfl)))))))), ?_⟩
  rintro Q ⟨vs0, F0, hv⟩ hs
  try delta pur
  try dsimp only [spAny] at hs hv ⊢
  obtain ⟨⟨h1, h2⟩, q⟩ := hs
  have : 1 ≤ v__law_items.length := List.length_pos_iff.mpr h1
  exact ⟨⟨this, h2⟩, fun n hn => ⟨_, List.getElem?_eq_getElem hn, q _ (List.getElem_mem hn)⟩⟩
theorem er_perm2 {α : Type} : ∀ (l : List α) (n : Nat) (x : α), l[n]? = some x → (x :: l.eraseIdx n).Perm l
  | [], n, x, h => by simp at h
  | a :: l, 0, x, h => by cases h; exact List.Perm.refl _
  | a :: l, n + 1, x, h => (List.Perm.swap _ _ _).trans ((er_perm2 l n x (by simpa using h)).cons a)
abbrev s__law_few_of : Stmt := topS 34
abbrev N__law_few_of : List Str := ["_law_cask_here", "_law_items", "_law_count", "_law_left", "_law_found", "_law_turn"]
theorem sc__law_few_of : FnScope N__law_few_of ["_law_cask_here", "_law_items", "_law_count"] (defScope s__law_few_of) := ⟨rfl, rfl, rfl, by decide +kernel, rfl, by decide +kernel, by decide +kernel⟩
theorem ok__law_few_of {f : Addr} {fd : FuncData} (B : Bf mg) (c_law_scoop : Gf P w K mg base 1 "_law_scoop" (SpN (fun g : Unit × Nat => [(fCk 3) g.1, (fD K dN) g.2]) (fun (g : Unit × Nat) (Q : Nat → Prop) => (1 ≤ g.2 ∧ g.2 ≤ 1000) ∧ ∀ n, n < g.2 → Q n) (fD K dN))) (F : Fun K "_law_few_of" "_law_few_of" s__law_few_of f fd) (hm : mg "_law_few_of" = some (.ref f)) (b : Binds K fd ["_law_cask_here", "_law_items", "_law_count"] []) : Gf P w K mg base 2 "_law_few_of" (SpN (fun g : Unit × (List α) × Nat => [(fCk 3) g.1, (fLn RX) g.2.1, (fD K dN) g.2.2]) spFew (fLn RX)) := by
  refine gw_mk F hm b sc__law_few_of (fun _ => rfl) (fun _ => inferInstance) fun cdv A outer s H E g hr => ?_
  obtain ⟨v__law_cask_here, v__law_items, v__law_count⟩ := g
  refine ⟨_, (pss_cons (ps_par (i := 3) (j := 4) rfl sc__law_few_of.nd rfl rfl (by decide) rfl rfl (pa_cons (p_list B (pa_cons (pv 1) pa_nil)) (pa_cons (pe_lst pa_nil) pa_nil)) (by rfl))
    (pss_cons (ps_for PassesOwn.never rfl (pi_range1 (by rfl) B.range (pa_cons (p_min2 rfl B (pa_cons (pv 2) (pa_cons (p_len B (pa_cons (pv 1) pa_nil)) pa_nil))) pa_nil)) (pg_name (i := 5) sc__law_few_of.nd rfl (by first | exact Or.inl rfl | exact Or.inr rfl))
      (pss_one (ps_expr (pe_bm PySem.F.plainAttrs_list PySem.F.slot_list_append PySem.F.type_list_append mt_append (pv 4) (pa_cons (pe_bm PySem.F.plainAttrs_list PySem.F.slot_list_pop PySem.F.type_list_pop mt_popAt (pv 3) (pa_cons (p_call c_law_scoop hr (by decide) (pa_cons (pv 0) (pa_cons (p_len B (pa_cons (pv 3) pa_nil)) pa_nil))) pa_nil)) pa_nil)))))
    (pss_one (ps_ret (pv 4))))), _,
    (ts_parNN (tn_listL (R := RX) (tr_var (R := (fLn RX)) (a := v__law_items) rfl)) (tn_lst (R := RX) (ta_lnil (R := RX))) rfl rfl rfl rfl (fun l1 l2 => (ts_for (S1 := (List α) × (List α)) (ρ1 := fun s3 => [some ((fCk 3) v__law_cask_here), some ((fLn RX) v__law_items), some ((fD K dN) v__law_count), none, none, none]) (κ1s := fun s3 => [(4, ownL ((s3.2).map RX)), (3, ownL ((s3.1).map RX))]) (l1, l2) (leV_some (leV_some (leV_some (leV_none (leV_none (leV_none leV_nil)))))) (fun _ _ _ h => h) (ti_rangeN (tr_cb c_minN (ta_cons (tr_var (R := (fD K dN)) (a := v__law_count) rfl) (ta_one (tr_cb c_lenL (ta_one (tr_var (R := (fLn RX)) (a := v__law_items) rfl))))))) (tg_name (R := (fD K dN)) 5) (fun _ => rfl)
      (fun s3 x4 => (ts_one (ts_appPop (R := RX) (xs := s3.2) (ys := s3.1) (tr_call (ta_cons (tr_var (R := (fCk 3)) (a := v__law_cask_here) rfl) (ta_one (tr_perm2 (tr_bor (i := 3) (xs := s3.1) (R := RX) (tr_cb c_lenL (ta_one (tr_var (R := (fLn RX)) (a := s3.1) rfl))) rfl rfl (fun _ _ h => h)))))) (fun n5 y6 => (ts_next ((s3.1.eraseIdx n5), (s3.2 ++ [y6])) (leV_some (leV_some (leV_some (leV_none (leV_none (leV_none leV_nil)))))) (fun _ _ _ h => h))))))
      (fun s3 => (ts_retC (R := RX) (xs := s3.2)))))), ?_⟩
  rintro Q ⟨vs0, F0, hv⟩ hs
  try delta pur
  try dsimp only [spFew] at hs hv ⊢
  obtain ⟨hl, q⟩ := hs
  refine ⟨Nat.zero_le _, by omega, forW_inv (fun i s => (s.2 ++ s.1).Perm v__law_items ∧ s.2.length = i) ⟨List.Perm.refl _, rfl⟩ (fun i x s hx ⟨h1, h2⟩ => ?_) (fun s ⟨h1, h2⟩ => ?_) fun s x P Q h ⟨h1, h2⟩ => ⟨h1, fun n hn => ?_⟩⟩
  · have hi := (List.getElem?_eq_some_iff.mp hx).1
    rw [List.length_range] at hi
    have hl2 := h1.length_eq
    rw [List.length_append] at hl2
    refine ⟨by omega, fun n hn => ⟨_, List.getElem?_eq_getElem hn, ⟨by omega, by omega⟩, ?_, by rw [List.length_append, h2]; rfl⟩⟩
    refine List.Perm.trans ?_ h1
    rw [List.append_assoc]
    exact (er_perm2 _ n _ (List.getElem?_eq_getElem hn)).append_left _
  · rw [List.length_range] at h2
    exact q s.2 s.1 h1 h2
  · obtain ⟨a, h3, h4, h5⟩ := h2 n hn
    exact ⟨a, h3, h4, h _ h5⟩
end
end Wb

/-! drawn rows -/
namespace Wb
open PySem PySem.Spec PyProof.Rows L2 SlX StX Rs Ma Tw
theorem few_way {n : Nat} (hn : n < 5) : ∃ a : List Nat, [[0, 1, 1, 2], [1], [0, 1], [1, 2, 3, 4], [4]][n]? = some a ∧ (a ≠ [] ∧ a.length ≤ 1000) := by
  match n, hn with
  | 0, _ => exact ⟨_, rfl, by decide, by decide⟩
  | 1, _ => exact ⟨_, rfl, by decide, by decide⟩
  | 2, _ => exact ⟨_, rfl, by decide, by decide⟩
  | 3, _ => exact ⟨_, rfl, by decide, by decide⟩
  | 4, _ => exact ⟨_, rfl, by decide, by decide⟩
theorem ok_drawn {rs : Rows} {n : Nat} (h1 : 1 ≤ n) (h5 : n ≤ 5) (hl : rs.length = n) (h : ∀ (j : Nat) r, rs[j]? = some r → Asc r ∧ ∀ x ∈ r, x < n ∧ x ≠ j) : Ok rs := by
  refine ⟨by omega, by omega, fun r hr => ?_, fun r hr x hx => ?_, fun j r hj hm => ((h j r hj).2 j hm).2 rfl⟩
  · obtain ⟨j, hj⟩ := List.mem_iff_getElem?.mp hr
    exact (h j r hj).1
  · obtain ⟨j, hj⟩ := List.mem_iff_getElem?.mp hr
    rw [hl]; exact ((h j r hj).2 x hx).1
theorem sortN_asc2 {ys : List Nat} (h : ys.Nodup) : Asc (sortN ys) := by
  have h1 := sortN_asc (xs := ys)
  have h2 : (sortN ys).Nodup := sortN_perm.nodup_iff.mpr h
  exact (h1.and h2).imp fun ⟨a, b⟩ => Nat.lt_of_le_of_ne a b
section
variable {P : Program} {w : World} {K : PySem.W.Frag} {mg : Str → Option Value} {base : Heap}
abbrev s__law_rows : Stmt := topS 35
abbrev N__law_rows : List Str := ["_law_cask_here", "_law_size", "_law_way", "_law_found", "_law_house", "_law_others", "_law_one", "_law_count"]
theorem sc__law_rows : FnScope N__law_rows ["_law_cask_here", "_law_size"] (defScope s__law_rows) := ⟨rfl, rfl, rfl, by decide +kernel, rfl, by decide +kernel, by decide +kernel⟩
theorem ok__law_rows {f : Addr} {fd : FuncData} (B : Bf mg) (c_law_scoop : Gf P w K mg base 1 "_law_scoop" (SpN (fun g : Unit × Nat => [(fCk 3) g.1, (fD K dN) g.2]) (fun (g : Unit × Nat) (Q : Nat → Prop) => (1 ≤ g.2 ∧ g.2 ≤ 1000) ∧ ∀ n, n < g.2 → Q n) (fD K dN))) (c_law_any_of : Gf P w K mg base 2 "_law_any_of" (SpN (fun g : Unit × (List Nat) => [(fCk 3) g.1, (fLn (fD K dN)) g.2]) spAny (fD K dN))) (c_law_few_of : Gf P w K mg base 2 "_law_few_of" (SpN (fun g : Unit × (List Nat) × Nat => [(fCk 3) g.1, (fLn (fD K dN)) g.2.1, (fD K dN) g.2.2]) spFew (fLn (fD K dN)))) (F : Fun K "_law_rows" "_law_rows" s__law_rows f fd) (hm : mg "_law_rows" = some (.ref f)) (b : Binds K fd ["_law_cask_here", "_law_size"] []) : Gf P w K mg base 3 "_law_rows" (SpN (fun g : Unit × Nat => [(fCk 3) g.1, (fD K dN) g.2]) (fun (g : Unit × Nat) (Q : Rows → Prop) => (1 ≤ g.2 ∧ g.2 ≤ 5) ∧ ∀ rs : Rows, Ok rs → rs.length = g.2 → Q rs) (fD K (dT (dT dN)))) := by
  refine gw_mk F hm b sc__law_rows (fun _ => rfl) (fun _ => inferInstance) fun cdv A outer s H E g hr => ?_
  obtain ⟨v__law_cask_here, v__law_size⟩ := g
  refine ⟨_, (pss_cons (ps_par (i := 2) (j := 3) rfl sc__law_rows.nd rfl rfl (by decide) rfl rfl (pa_cons (p_call c_law_scoop hr (by decide) (pa_cons (pv 0) (pa_cons pe_int pa_nil))) (pa_cons (pe_lst pa_nil) pa_nil)) (by rfl))
    (pss_cons (ps_for PassesOwn.never rfl (pi_range1 (by rfl) B.range (pa_cons (pv 1) pa_nil)) (pg_name (i := 4) sc__law_rows.nd rfl (by first | exact Or.inl rfl | exact Or.inr rfl))
      (pss_cons (ps_setLc (i := 5) (own := [("_law_one", 6)]) (g := gName 6)  rfl sc__law_rows.nd rfl rfl (sw_true rfl rfl rfl (by decide +kernel)) (pi_range1 (by rfl) B.range (pa_cons (pv 1) pa_nil)) (blkOk_by (N := N__law_rows) (sc := defScope s__law_rows) (by decide +kernel)) (fun _ _ _ _ _ => (pg_name (i := 6) sc__law_rows.nd rfl (by first | exact Or.inl rfl | exact Or.inr rfl))) (fun _ _ _ _ _ => (pts_one (pt_cmpR op_ne (pv 6) (pv 4) (nomark _)))) (fun _ _ _ _ _ => by exact (pv 6)))
      (pss_cons (ps_set (i := 7) sc__law_rows.nd rfl (by first | exact Or.inl rfl | exact Or.inr rfl) (p_min2 rfl B (pa_cons (p_len B (pa_cons (pv 5) pa_nil)) (pa_cons (p_call c_law_any_of hr (by decide) (pa_cons (pv 0) (pa_cons (pe_ix ix_list (pe_lst (pa_cons (pe_lst (pa_cons pe_int (pa_cons pe_int (pa_cons pe_int (pa_cons pe_int pa_nil))))) (pa_cons (pe_lst (pa_cons pe_int pa_nil)) (pa_cons (pe_lst (pa_cons pe_int (pa_cons pe_int pa_nil))) (pa_cons (pe_lst (pa_cons pe_int (pa_cons pe_int (pa_cons pe_int (pa_cons pe_int pa_nil))))) (pa_cons (pe_lst (pa_cons pe_int pa_nil)) pa_nil)))))) (pv 2) (fun _ _ => rfl)) pa_nil))) pa_nil))))
      (pss_one (ps_expr (pe_bm PySem.F.plainAttrs_list PySem.F.slot_list_append PySem.F.type_list_append mt_append (pv 3) (pa_cons (p_tuple B (pa_cons (p_sortedL B (pa_cons (p_call c_law_few_of hr (by decide) (pa_cons (pv 0) (pa_cons (pv 5) (pa_cons (pv 7) pa_nil)))) pa_nil)) pa_nil)) pa_nil)))))))
    (pss_one (ps_ret (p_tuple B (pa_cons (pv 3) pa_nil)))))), _,
    (ts_parN (tr_call (ta_cons (tr_var (R := (fCk 3)) (a := v__law_cask_here) rfl) (ta_one (tr_nat (K := K) 5)))) (tn_lst (R := (fD K (dT dN))) (ta_lnil (R := (fD K (dT dN))))) rfl rfl rfl (fun v_1 l2 => (ts_for (S1 := (List (List Nat))) (ρ1 := fun s3 => [some ((fCk 3) v__law_cask_here), some ((fD K dN) v__law_size), some ((fD K dN) v_1), none, none, none, none, none]) (κ1s := fun s3 => [(3, ownL ((s3).map (fD K (dT dN))))]) l2 (leV_some (leV_some (leV_some (leV_none (leV_none (leV_none (leV_none (leV_none leV_nil)))))))) (fun _ _ _ h => h) (ti_rangeN (tr_var (R := (fD K dN)) (a := v__law_size) rfl)) (tg_name (R := (fD K dN)) 4) (fun _ => rfl)
      (fun s3 x4 => (ts_set (R := (fLn (fD K dN))) 5 (tr_lc (vs := [6]) (Rd := (fD K dN)) (ti_rangeN (tr_var (R := (fD K dN)) (a := v__law_size) rfl)) (tg_name (R := (fD K dN)) 6) rfl rfl rfl (fun _ => rfl) (fun x5 => (tt_test (tr_op o_neN (tr_var (R := (fD K dN)) (a := x5) rfl) (tr_var (R := (fD K dN)) (a := x4) rfl)))) (fun x5 => (tr_var (R := (fD K dN)) (a := x5) rfl))) rfl (fun v_law_others_6 => (ts_set (R := (fD K dN)) 7 (tr_cb c_minN (ta_cons (tr_cb c_lenL (ta_one (tr_var (R := (fLn (fD K dN))) (a := v_law_others_6) rfl))) (ta_one (tr_call (ta_cons (tr_var (R := (fCk 3)) (a := v__law_cask_here) rfl) (ta_one (tr_op o_ixLn (tr_lst (R := (fLn (fD K dN))) (ta_lcons (R := (fLn (fD K dN))) (tr_lst (R := (fD K dN)) (ta_lcons (R := (fD K dN)) (tr_nat (K := K) 0) (ta_lcons (R := (fD K dN)) (tr_nat (K := K) 1) (ta_lcons (R := (fD K dN)) (tr_nat (K := K) 1) (ta_lcons (R := (fD K dN)) (tr_nat (K := K) 2) (ta_lnil (R := (fD K dN)))))))) (ta_lcons (R := (fLn (fD K dN))) (tr_lst (R := (fD K dN)) (ta_lcons (R := (fD K dN)) (tr_nat (K := K) 1) (ta_lnil (R := (fD K dN))))) (ta_lcons (R := (fLn (fD K dN))) (tr_lst (R := (fD K dN)) (ta_lcons (R := (fD K dN)) (tr_nat (K := K) 0) (ta_lcons (R := (fD K dN)) (tr_nat (K := K) 1) (ta_lnil (R := (fD K dN)))))) (ta_lcons (R := (fLn (fD K dN))) (tr_lst (R := (fD K dN)) (ta_lcons (R := (fD K dN)) (tr_nat (K := K) 1) (ta_lcons (R := (fD K dN)) (tr_nat (K := K) 2) (ta_lcons (R := (fD K dN)) (tr_nat (K := K) 3) (ta_lcons (R := (fD K dN)) (tr_nat (K := K) 4) (ta_lnil (R := (fD K dN)))))))) (ta_lcons (R := (fLn (fD K dN))) (tr_lst (R := (fD K dN)) (ta_lcons (R := (fD K dN)) (tr_nat (K := K) 4) (ta_lnil (R := (fD K dN))))) (ta_lnil (R := (fLn (fD K dN)))))))))) (tr_var (R := (fD K dN)) (a := v_1) rfl)))))))) rfl (fun v_law_count_7 => (ts_one (ts_app (R := (fD K (dT dN))) (xs := s3) (tr_cb c_tupDL (ta_one (tr_cb c_sorted (ta_one (tr_lnD (tr_call (ta_cons (tr_var (R := (fCk 3)) (a := v__law_cask_here) rfl) (ta_cons (tr_var (R := (fLn (fD K dN))) (a := v_law_others_6) rfl) (ta_one (tr_var (R := (fD K dN)) (a := v_law_count_7) rfl)))))))))) (fun y8 => (ts_next (s3 ++ [y8]) (leV_some (leV_some (leV_some (leV_none (leV_none (leV_none (leV_none (leV_none leV_nil)))))))) (fun _ _ _ h => h))))))))))
      (fun s3 => (ts_ret (tr_tpD (tr_tupC (R := (fD K (dT dN))) (xs := s3)))))))), ?_⟩
  rintro Q ⟨vs0, F0, hv⟩ hs
  try delta pur
  try dsimp only [spAny, spFew] at hs hv ⊢
  obtain ⟨⟨h1, h5⟩, q⟩ := hs
  refine ⟨⟨by decide, by decide⟩, fun n hn => ⟨Nat.zero_le _, by omega, ?_⟩⟩
  simp only [lcW_p, List.map_id']
  refine forW_inv (fun i s => s.length = i ∧ ∀ (j : Nat) r, s[j]? = some r → Asc r ∧ ∀ x ∈ r, x < v__law_size ∧ x ≠ j) ⟨rfl, fun j r h => by simp at h⟩ (fun i x s hx ⟨g1, g2⟩ => ?_) (fun s ⟨g1, g2⟩ => ?_) fun s x P Q h ⟨c1, c2, c3, c4, c5, c6, c7, c8, a, c9, c10, c11⟩ => ⟨c1, c2, c3, c4, c5, c6, c7, c8, a, c9, c10, fun b hb => ⟨(c11 b hb).1, fun ys zs d1 d2 => ?_⟩⟩
  · have hi := (List.getElem?_eq_some_iff.mp hx).1
    rw [List.length_range] at hi
    rw [List.getElem?_range hi] at hx
    cases hx
    obtain ⟨a, e1, e2⟩ := few_way hn
    have hol : ((List.range v__law_size).filter fun y => !decide (y = i)).length ≤ 5 := Nat.le_trans (List.length_filter_le _ _) (by rw [List.length_range]; exact h5)
    refine ⟨by omega, by rw [List.length_range]; omega, by decide, by decide, by decide, by decide, by decide, by decide, a, e1, e2, fun b hb => ⟨by omega, fun ys zs hp hl => ⟨?_, by omega, by rw [List.length_append, g1]; rfl, fun j r hj => ?_⟩⟩⟩
    · have := hp.length_eq
      rw [List.length_append] at this
      omega
    · rcases Nat.lt_or_ge j s.length with hjs | hjs
      · rw [List.getElem?_append_left hjs] at hj
        exact g2 j r hj
      · rw [List.getElem?_append_right hjs] at hj
        have hj0 : j - s.length = 0 := by
          have := (List.getElem?_eq_some_iff.mp hj).1
          rw [List.length_singleton] at this
          omega
        rw [hj0] at hj
        cases hj
        have hji : j = i := by omega
        subst hji
        have nd : (ys ++ zs).Nodup := hp.nodup_iff.mpr (List.nodup_range.filter _)
        refine ⟨sortN_asc2 (List.nodup_append.mp nd).1, fun x hx => ?_⟩
        have hm : x ∈ (List.range v__law_size).filter fun y => !decide (y = j) := hp.mem_iff.mp (List.mem_append_left _ (sortN_perm.mem_iff.mp hx))
        rw [List.mem_filter, List.mem_range] at hm
        exact ⟨hm.1, by simpa using hm.2⟩
  · rw [List.length_range] at g1
    exact q s (ok_drawn h1 h5 g1 g2) g1
  · obtain ⟨f1, f2, f3⟩ := (c11 b hb).2 ys zs d1 d2
    exact ⟨f1, f2, h _ f3⟩
end
end Wb

/-! Sn0: sets whose elements are keys of any one kind of heap keys; the search. -/
namespace Sn
open PySem PySem.Spec PyProof.Rows L2

/-- a kind of keys that a set shows nothing of -/
structure SKind (P : Program) (w : World) (K : Type) [DecidableEq K] where
  kd : HeapKind P w K
  noClass : ∀ {A : Around} {E : Value → Shared → Prop} {s : Shared} {k : K} {a : Addr} {Q : Bool → Shared → Prop}, kd.is s.heap k a → Q false s → wpAny (model P w) A (ofAClassStatement 8 (.ref a)) Q E s
  byVal : ∀ {A : Around} {E : Value → Shared → Prop} {s : Shared} {k : K} {a : Addr} {Q : Bool → Shared → Prop}, kd.is s.heap k a → Q true s → wpAny (model P w) A (hashByValue 8 (.ref a)) Q E s
  stay : ∀ {h h' : Heap} {k : K} {a : Addr}, kd.is h k a → (∀ b o vs n, h.get? b = some o → o.data = .seq vs n → h'.get? b = some o) → kd.is h' k a

section
variable {P : Program} {w : World} {K : Type} [DecidableEq K] (kk : SKind P w K)
def hs (p : Addr × K) : Int := kk.kd.hash p.2
def row1 (p : Addr × K) : Int × Value := (hs kk p, .ref p.1)
/-- the object o at a is the set of the keys of L -/
structure SI (h : Heap) (a : Addr) (L : List (Addr × K)) (o : Obj) (es : Array (Int × Value)) (ep : Nat) (t : SetTable) : Prop where
  at' : h.get? a = some o
  exact' : o.ExactSet
  data : o.data = .set es ep t
  rows : es.toList = L.map (row1 kk)
  tab : TabOk t (L.map (hs kk))
  nd : (L.map (·.2)).Nodup
  keys : ∀ p ∈ L, kk.kd.is h p.2 p.1
  plain : t.plain = true
  led : w.params.followText "set-order" = true ∨ t.led = true
  room : L.length * 5 < t.mask * 3
  few : L.length < 64
variable {kk}
theorem rows_len {es : Array (Int × Value)} {L : List (Addr × K)} (h : es.toList = L.map (row1 kk)) : es.size = L.length := by
  rw [← Array.length_toList, h, List.length_map]
theorem rows_at {es : Array (Int × Value)} {L : List (Addr × K)} (h : es.toList = L.map (row1 kk)) (i : Nat) : es[i]? = (L[i]?).map (row1 kk) := by
  rw [← Array.getElem?_toList, h, List.getElem?_map]
theorem fits_of {t : SetTable} {n : Nat} (h1 : t.place.size = n) (h2 : t.dummies = #[]) (h3 : n ≤ t.mask) : t.fits n = true := by
  have e : t.fill = n := by
    unfold SetTable.fill
    rw [h1, h2]; rfl
  unfold SetTable.fits
  rw [e, h1, Bool.and_eq_true, beq_iff_eq, decide_eq_true_eq]
  exact ⟨rfl, h3⟩
section
variable {h : Heap} {a : Addr} {L : List (Addr × K)} {o : Obj} {es : Array (Int × Value)} {ep : Nat} {t : SetTable}
theorem SI.sz (R : SI kk h a L o es ep t) : t.place.size = es.size := by
  rw [R.tab.sz, List.length_map, rows_len R.rows]
theorem SI.fits (R : SI kk h a L o es ep t) : t.fits es.size = true := by
  refine fits_of R.sz R.tab.dm ?_
  have := R.room
  rw [rows_len R.rows]
  omega
theorem SI.notGone (R : SI kk h a L o es ep t) : ¬ t.gaveWay = true := by
  unfold SetTable.gaveWay
  rw [mask_odd R.tab.mok]
  decide
theorem SI.hashAt (R : SI kk h a L o es ep t) {i : Nat} {p : Addr × K} (hp : L[i]? = some p) : (es[i]?.map (·.1)).getD 0 = hs kk p := by
  rw [rows_at R.rows, hp]; rfl
theorem SI.inPlace (R : SI kk h a L o es ep t) {i : Nat} {p : Addr × K} (hp : L[i]? = some p) : ∃ j, t.place.toList[i]? = some j := by
  have h1 := (List.getElem?_eq_some_iff.mp hp).1
  have h2 : i < t.place.toList.length := by
    rw [Array.length_toList, R.tab.sz, List.length_map]; exact h1
  exact ⟨_, List.getElem?_eq_getElem h2⟩
theorem SI.ofPlace (R : SI kk h a L o es ep t) {i j : Nat} (hj : t.place.toList[i]? = some j) : ∃ p, L[i]? = some p := by
  have h1 := (List.getElem?_eq_some_iff.mp hj).1
  rw [Array.length_toList, R.tab.sz, List.length_map] at h1
  exact ⟨_, List.getElem?_eq_getElem h1⟩
end

/-- the n-th step of the way of a hash -/
abbrev stp (t : SetTable) (v : Int) (n : Nat) : SetTable.Probe := nth t.mask (runAt t.mask (SetTable.bits v % (t.mask + 1)) (SetTable.bits v)) n
theorem stp_dummy (t : SetTable) (v : Int) : ∀ n, (stp t v n).dummy = none
  | 0 => rfl
  | n + 1 => by
    have ih := stp_dummy t v n
    show (nth t.mask _ (n + 1)).dummy = none
    rw [nth_succ]
    unfold adv
    split
    · exact ih
    · exact ih
theorem stp_add (t : SetTable) (v : Int) (c q : Nat) : nth t.mask (stp t v c) q = stp t v (c + q) := (nth_add t.mask c _ q).symm

section
variable {A : Around} {E : Value → Shared → Prop} {s : Shared}
/-- a search among such keys shows nothing -/
theorem unseen {k : K} {b : Addr} {Q : Bool → Shared → Prop} (hk : kk.kd.is s.heap k b) (ys : List Value) (hy : ∀ y ∈ ys, ∃ k' c, y = Value.ref c ∧ kk.kd.is s.heap k' c) (h : Q false s) :
    wpAny (model P w) A (searchCouldBeSeen (.ref b) ys) Q E s := by
  unfold searchCouldBeSeen
  refine wpAny_bind (wpAny_forIn_list _ (fun left r s' => (r.1 = none ∧ s' = s) ∧ ∀ y ∈ left, ∃ k' c, y = Value.ref c ∧ kk.kd.is s.heap k' c) _ (fun y left r s' H => ?_) (fun r s' H => ?_) _ _ ⟨⟨rfl, rfl⟩, hy⟩)
  · obtain ⟨⟨h1, rfl⟩, h2⟩ := H
    obtain ⟨k', c, rfl, hc⟩ := h2 y List.mem_cons_self
    have more := fun u (hu : u ∈ left) => h2 u (List.mem_cons_of_mem _ hu)
    dsimp only
    cases hv : (b == c || (carriedByValue (.ref b) && carriedByValue (.ref c)))
    · refine wp_if_neg (by decide) (wpAny_bind (kk.kd.quiet hk ?_))
      simp only [Bool.not_true, Bool.false_eq_true, if_false]
      refine wpAny_bind (kk.kd.quiet hc ?_)
      simp only [Bool.not_true, Bool.false_eq_true, if_false]
      refine wpAny_bind (kk.noClass hk ?_)
      simp only [Bool.false_eq_true, if_false]
      refine wpAny_bind (kk.noClass hc ?_)
      simp only [Bool.false_eq_true, if_false]
      exact wpAny_pure ⟨⟨rfl, rfl⟩, more⟩
    · exact wp_if_pos rfl (wpAny_pure ⟨⟨rfl, rfl⟩, more⟩)
  · obtain ⟨r1, r2⟩ := r
    obtain ⟨⟨h1, rfl⟩, _⟩ := H
    simp only at h1
    subst h1
    exact wpAny_pure h

variable {a : Addr} {L : List (Addr × K)} {o : Obj} {es : Array (Int × Value)} {ep : Nat} {t : SetTable}
/-- the search, with n steps to the free slot -/
theorem look (R : SI kk s.heap a L o es ep t) {x : Addr} {k : K} (hx : kk.kd.is s.heap k x) (hr : kk.kd.room A) {N : Nat} (hN : N < 10 * SetTable.turns t.mask)
    (free : way t.mask (kk.kd.hash k) N ∉ t.place.toList) (taken : ∀ c, c < N → way t.mask (kk.kd.hash k) c ∈ t.place.toList) {Q : SetFound → Shared → Prop}
    (qin : k ∈ L.map (·.2) → Q (.there none) s) (qout : k ∉ L.map (·.2) → Q (.free (way t.mask (kk.kd.hash k) N) false) s) :
    ∀ (n f c : Nat) (from' : Option SetTable.Probe), c + n = N → n < f → from'.getD (t.probeStart (kk.kd.hash k)) = stp t (kk.kd.hash k) c →
      (∀ (i : Nat) p, L[i]? = some p → p.2 = k → ∃ c', c ≤ c' ∧ c' < N ∧ t.place.toList[i]? = some (way t.mask (kk.kd.hash k) c')) →
      wpAny (model P w) A (setSearchFrom a (.ref x) (kk.kd.hash k) true f from') Q E s := by
  intro n
  induction n using Nat.strongRecOn with
  | ind n ih =>
    intro f c from' hc hf hfrom ahead
    obtain ⟨f, rfl⟩ : ∃ g, f = g + 1 := ⟨f - 1, by omega⟩
    rw [setSearchFrom_succ]
    refine wpAny_bind (wpAny_setState_of R.at' R.data R.fits ?_)
    dsimp only
    refine wp_if_neg R.notGone ?_
    try refine wpAny_bind (wpAny_pure ?_)
    have spec := go_spec t R.tab.ris R.tab.dm (fun i => (es[i]?.map (·.1)).getD 0) (kk.kd.hash k) (10 * SetTable.turns t.mask) n (stp t (kk.kd.hash k) c) (stp_dummy _ _ _) (by omega)
      (fun q hq => by rw [stp_add]; exact taken (c + q) (by omega)) (by rw [stp_add, hc]; exact free)
    rcases spec with ⟨q, i, hq, hi, hh, first, probe⟩ | ⟨none', probe⟩
    · rw [stp_add] at hi
      rw [stp_add, stp_add] at probe
      have probe' : t.probe (fun i => (es[i]?.map (·.1)).getD 0) (kk.kd.hash k) (from'.getD (t.probeStart (kk.kd.hash k))) = some (.candidate (stp t (kk.kd.hash k) (c + q)).j i (stp t (kk.kd.hash k) (c + (q + 1)))) := by rw [hfrom]; exact probe
      rw [probe']
      dsimp only
      obtain ⟨p, hp⟩ := R.ofPlace hi
      have hpL := List.mem_of_getElem? hp
      have entry : es[i]? = some (hs kk p, Value.ref p.1) := by rw [rows_at R.rows, hp]; rfl
      have slot := slot_live R.tab.ris hi
      have rest : wpAny (model P w) A (searchRest a (.ref x) (kk.kd.hash k) true f es t (stp t (kk.kd.hash k) (c + q)).j i (stp t (kk.kd.hash k) (c + (q + 1)))) Q E s := by
        unfold searchRest
        rw [entry]
        dsimp only
        refine wpAny_bind (wpAny_holding (kk.kd.eqBool hr (R.keys p hpL) hx ?_))
        refine wpAny_bind (wpAny_setState_of R.at' R.data R.fits ?_)
        dsimp only
        by_cases same : p.2 = k
        · exact wp_if_pos (by simp [same]) (wpAny_pure (qin (List.mem_map.mpr ⟨p, hpL, same⟩)))
        · refine wp_if_neg (by simp [same]) ?_
          try refine wpAny_bind (wpAny_pure ?_)
          rw [sameMem]
          dsimp only
          simp only [if_true, slot, entry]
          refine wpAny_bind (wpAny_isSame_ref_self (wpAny_bind (wpAny_pure ?_)))
          simp only [if_true]
          refine wp_if_neg (by simp [same]) ?_
          refine ih (n - (q + 1)) (by omega) f (c + (q + 1)) _ (by omega) (by omega) rfl fun i0 p0 h0 e0 => ?_
          obtain ⟨c', a1, a2, a3⟩ := ahead i0 p0 h0 e0
          refine ⟨c', ?_, a2, a3⟩
          rcases Nat.lt_trichotomy c' (c + q) with z | z | z
          · refine absurd ?_ (first (c' - c) i0 (by omega) (by rw [stp_add, show c + (c' - c) = c' by omega]; exact a3))
            exact (R.hashAt h0).trans (congrArg kk.kd.hash e0)
          · rw [z] at a3
            have s2 := slot_live R.tab.ris a3
            rw [slot] at s2
            injection s2 with s2
            rw [← s2, hp] at h0
            exact absurd ((congrArg Prod.snd (Option.some.inj h0)).trans e0) same
          · omega
      cases hled : t.led
      · refine wp_if_pos rfl (wpAny_bind (unseen hx _ (fun y hy => ?_) ?_))
        · obtain ⟨e, he, ee⟩ := List.mem_map.mp hy
          have he1 : e ∈ es.toList := by
            have : e ∈ es ∧ e.1 = kk.kd.hash k := by simpa using he
            simpa using this.1
          rw [R.rows] at he1
          obtain ⟨z, hz, rfl⟩ := List.mem_map.mp he1
          exact ⟨z.2, z.1, ee.symm, R.keys z hz⟩
        · refine wp_if_neg (by decide) ?_
          try refine wpAny_bind (wpAny_pure ?_)
          exact rest
      · refine wp_if_neg (by decide) ?_
        try refine wpAny_bind (wpAny_pure ?_)
        exact rest
    · rw [stp_add, hc] at probe
      have probe' : t.probe (fun i => (es[i]?.map (·.1)).getD 0) (kk.kd.hash k) (from'.getD (t.probeStart (kk.kd.hash k))) = some (.empty (way t.mask (kk.kd.hash k) N) none) := by rw [hfrom]; exact probe
      rw [probe']
      dsimp only
      refine wpAny_pure (qout fun hm => ?_)
      obtain ⟨p0, h0, e0⟩ := List.mem_map.mp hm
      obtain ⟨i0, hi0⟩ := List.mem_iff_getElem?.mp h0
      obtain ⟨c', a1, a2, a3⟩ := ahead i0 p0 hi0 e0
      refine absurd ?_ (none' (c' - c) i0 (by omega) (by rw [stp_add, show c + (c' - c) = c' by omega]; exact a3))
      exact (R.hashAt hi0).trans (congrArg kk.kd.hash e0)

/-- the search as adding asks for it -/
theorem seek (R : SI kk s.heap a L o es ep t) {x : Addr} {k : K} (hx : kk.kd.is s.heap k x) (hr : kk.kd.room A) {Q : SetFound → Shared → Prop} (qin : k ∈ L.map (·.2) → Q (.there none) s)
    (qout : ∀ N, k ∉ L.map (·.2) → way t.mask (kk.kd.hash k) N ∉ t.place.toList → (∀ c, c < N → way t.mask (kk.kd.hash k) c ∈ t.place.toList) → Q (.free (way t.mask (kk.kd.hash k) N) false) s) :
    wpAny (model P w) A (setSearch a (.ref x) (kk.kd.hash k) true) Q E s := by
  have hroom := R.room
  obtain ⟨N, hN, free, taken⟩ := R.tab.first (by rw [List.length_map]; omega) (kk.kd.hash k)
  have bound : 10 * SetTable.turns t.mask ≤ 99999 := by
    unfold SetTable.turns
    rcases R.tab.mok with e | e | e <;> omega
  refine look R hx hr hN free taken qin (fun hn => qout N hn free taken) N 100000 0 none (Nat.zero_add _) (by omega) rfl fun i p hp e => ?_
  obtain ⟨j, hj⟩ := R.inPlace hp
  have hi : (L.map (hs kk))[i]? = some (kk.kd.hash k) := by rw [List.getElem?_map, hp, ← e]; rfl
  obtain ⟨c, hc, ec⟩ := R.tab.before free hi hj
  exact ⟨c, Nat.zero_le _, hc, by rw [hj, ec]⟩
end
end
end Sn

/-! Sn1: adding to a set of keys. -/
namespace Sn
open PySem PySem.Spec PyProof.Rows L2
section
variable {P : Program} {w : World} {K : Type} [DecidableEq K] {kk : SKind P w K}

/-- the entries in another order -/
theorem picked {L : List (Addr × K)} {es : Array (Int × Value)} (h : es.toList = L.map (row1 kk)) : ∀ is : List Nat, (∀ i ∈ is, i < L.length) →
    is.filterMap (fun i => es[i]?) = (is.filterMap fun i => L[i]?).map (row1 kk) ∧ (is.filterMap fun i => L[i]?).map (hs kk) = is.map fun i => (es.map (·.1)).getD i 0
  | [], _ => ⟨rfl, rfl⟩
  | i :: is, hi => by
    obtain ⟨e1, e2⟩ := picked h is fun j hj => hi j (List.mem_cons_of_mem _ hj)
    have hl := hi i List.mem_cons_self
    have hL : L[i]? = some L[i] := List.getElem?_eq_getElem hl
    have hE : es[i]? = some (row1 kk L[i]) := by rw [rows_at h, hL]; rfl
    refine ⟨?_, ?_⟩
    · rw [List.filterMap_cons_some hE, List.filterMap_cons_some hL, e1, List.map_cons]
    · rw [List.filterMap_cons_some hL, List.map_cons, List.map_cons, e2]
      congr 1
      have : (es.map (·.1))[i]? = some (hs kk L[i]) := by rw [Array.getElem?_map, hE]; rfl
      simp [Array.getD_eq_getD_getElem?, this]
theorem picked_upto {α : Type} (L : List α) : ∀ n, n ≤ L.length → (List.range n).filterMap (fun i => L[i]?) = L.take n
  | 0, _ => rfl
  | n + 1, h => by
    have e : L[n]? = some L[n] := List.getElem?_eq_getElem h
    rw [List.range_succ, List.filterMap_append, picked_upto L n (Nat.le_of_succ_le h), List.take_succ, e]
    simp [e]
theorem all_picked {α : Type} (L : List α) : (List.range L.length).filterMap (fun i => L[i]?) = L := by
  rw [picked_upto L _ (Nat.le_refl _), List.take_length]

section
variable {A : Around} {E : Value → Shared → Prop} {s : Shared} {a : Addr} {L : List (Addr × K)} {o : Obj} {es : Array (Int × Value)} {ep : Nat} {t : SetTable}
/-- what is no set stays, so keys stay -/
theorem key_but {h h' : Heap} {k : K} {b : Addr} (hk : kk.kd.is h k b) (ho : h.get? a = some o) (hd : o.data = .set es ep t) (sb : Heap.SameBut a h h') : kk.kd.is h' k b :=
  kk.stay hk fun c o' vs n hc hq => by
    refine (sb.2 c ?_).trans hc
    rintro rfl
    rw [ho] at hc
    cases hc
    rw [hd] at hq
    exact nomatch hq
theorem key_up {h h' : Heap} {k : K} {b : Addr} (hk : kk.kd.is h k b) (up : ∀ c o, h.get? c = some o → h'.get? c = some o) : kk.kd.is h' k b := kk.stay hk fun c o _ _ hc _ => up c o hc

/-- a set whose table is too full is laid anew -/
theorem relay {M wanted : Nat} (ho : s.heap.get? a = some o) (hex : o.ExactSet) (hd : o.data = .set es ep t) (hrow : es.toList = L.map (row1 kk)) (T : TabOk t (L.map (hs kk))) (hfit : L.length ≤ t.mask)
    (nd : (L.map (·.2)).Nodup) (keys : ∀ p ∈ L, kk.kd.is s.heap p.2 p.1) (pl : t.plain = true) (ld : w.params.followText "set-order" = true ∨ t.led = true) (few : L.length < 64)
    (hw : SetTable.sizeAbove wanted = M + 1) (hM : MaskOk M) (hn : L.length * 5 < M * 3) {Q : Unit → Shared → Prop}
    (q : ∀ h' L' o' es' ep' t', Heap.SameBut a s.heap h' → SI kk h' a L' o' es' ep' t' → L'.Perm L → Q () { s with heap := h' }) : wpAny (model P w) A (setRelay a wanted) Q E s := by
  have len := rows_len hrow
  have psz : t.place.size = es.size := by rw [T.sz, List.length_map, len]
  have M128 : M ≤ 127 := by rcases hM with e | e | e <;> omega
  obtain ⟨t', order, er, pm, T', em, el, epl, edm⟩ := relaid_ok t (hs := es.map (·.1)) (wanted := wanted) (M := M) (by omega) hM (by rw [Array.size_map, len]; omega)
  rw [Array.size_map, len] at pm
  obtain ⟨e1, e2⟩ := picked hrow order.toList fun i hi => List.mem_range.mp (pm.mem_iff.mp hi)
  have pm2 : (order.toList.filterMap fun i => L[i]?).Perm L := by
    have := pm.filterMap fun i => L[i]?
    rwa [all_picked] at this
  rw [← e2] at T'
  have e3 : (order.filterMap (es[·]?)).toList = (order.toList.filterMap fun i => L[i]?).map (row1 kk) := by rw [Array.toList_filterMap]; exact e1
  generalize (order.toList.filterMap fun i => L[i]?) = L2 at e3 pm2 T'
  have sz3 : (order.filterMap (es[·]?)).size = es.size := by rw [rows_len e3, pm2.length_eq, len]
  rw [setRelay_eq]
  refine wpAny_bind (wpAny_setState_of ho hd (fits_of psz T.dm (by rw [len]; exact hfit)) ?_)
  dsimp only
  refine wp_if_neg (by rw [sizeLine_eq, hw]; omega) ?_
  try refine wpAny_bind (wpAny_pure ?_)
  rw [er]
  dsimp only
  refine wpAny_bind (wp_if_neg (by rw [sz3]; simp) ?_)
  try refine wpAny_bind (wpAny_pure ?_)
  refine wpAny_pure ?_
  dsimp only
  refine wpAny_storeSet_of ho hd ?_ (by rw [sz3, len, sizeLine_eq]; omega)
  have sb : Heap.SameBut a s.heap (s.heap.update a (Obj.putSet (order.filterMap (es[·]?)) t')) := Heap.SameBut.update ..
  refine q _ L2 _ _ (ep + 1) t' sb { at' := store_at ho hd, exact' := ⟨hex.1, hex.2.1, hex.2.2⟩, data := rfl, rows := e3, tab := T', nd := (pm2.map (·.2)).nodup_iff.mpr nd, keys := fun p hp => key_but (keys p (pm2.mem_iff.mp hp)) ho hd sb, plain := by rw [epl]; exact pl, led := by rw [el]; exact ld, room := by rw [pm2.length_eq, em]; exact hn, few := by rw [pm2.length_eq]; exact few } pm2

/-- adding a key -/
theorem add (R : SI kk s.heap a L o es ep t) {x : Addr} {k : K} (hx : kk.kd.is s.heap k x) (hr : kk.kd.room A) (more : L.length + 1 < 64) {Q : Bool → Shared → Prop}
    (q : ∀ b h' L' o' es' ep' t', Heap.SameBut a s.heap h' → SI kk h' a L' o' es' ep' t' → (k ∈ L.map (·.2) ∧ L' = L) ∨ (k ∉ L.map (·.2) ∧ L'.Perm ((x, k) :: L)) → Q b { s with heap := h' }) :
    wpAny (model P w) A (setAddHashed a (.ref x) (kk.kd.hash k)) Q E s := by
  have len := rows_len R.rows
  have hroom := R.room
  unfold setAddHashed
  refine wpAny_holding ?_
  rw [show (100000 : Nat) = 99999 + 1 from rfl, setAddHashedIn_succ]
  refine wpAny_bind (wpAny_setState_of R.at' R.data R.fits ?_)
  dsimp only
  refine wp_if_neg (by simp [byScan, Value.scannable]) ?_
  try refine wpAny_bind (wpAny_pure ?_)
  refine wpAny_bind (seek R hx hr (fun hm => ?_) fun N hm free taken => ?_)
  · exact wpAny_pure (q false s.heap L o es ep t (Heap.SameBut.refl a s.heap) R (.inl ⟨hm, rfl⟩))
  dsimp only
  refine wpAny_bind (wpAny_setState_of R.at' R.data R.fits ?_)
  dsimp only
  obtain ⟨p1, p2, p3, p4, p5, p6, p7, p8, p9⟩ := R.tab.put free taken
  have pl : (t.put (way t.mask (kk.kd.hash k) N)).1.plain = true := p6.trans R.plain
  generalize t.put (way t.mask (kk.kd.hash k) N) = pt at p1 p3 p4 p5 p6 p7 p8 p9 pl ⊢
  obtain ⟨t1, at1⟩ := pt
  dsimp only at p1 p3 p4 p5 p6 p7 p8 p9 pl ⊢
  subst p1
  first
    | (refine wpAny_bind ?_; refine wp_if_pos pl ?_; refine kk.byVal hx ?_)
    | refine wp_if_pos pl (wpAny_bind (kk.byVal hx ?_))
  simp only [if_true]
  generalize SetTable.below t.place (way t.mask (kk.kd.hash k) N) = n at p2 p3 ⊢
  have erow : (SetTable.insertAt es n (kk.kd.hash k, Value.ref x)).toList = (L.take n ++ (x, k) :: L.drop n).map (row1 kk) := by
    rw [SetTable.toList_insertAt, R.rows, List.map_append, List.map_cons, List.map_take, List.map_drop]; rfl
  have pm := put_perm L n (x, k)
  have T1 : TabOk t1 ((L.take n ++ (x, k) :: L.drop n).map (hs kk)) := by
    rw [List.map_append, List.map_cons, List.map_take, List.map_drop]; exact p3
  generalize L.take n ++ (x, k) :: L.drop n = L1 at erow pm T1
  generalize SetTable.insertAt es n (kk.kd.hash k, Value.ref x) = es1 at erow ⊢
  have len1 : L1.length = L.length + 1 := pm.length_eq
  have esz : es1.size = L.length + 1 := (rows_len erow).trans len1
  have nd1 : (L1.map (·.2)).Nodup := (pm.map (·.2)).nodup_iff.mpr (List.nodup_cons.mpr ⟨hm, R.nd⟩)
  refine wpAny_bind (wpAny_storeSet_of R.at' R.data ?_ (by rw [esz, sizeLine_eq]; omega))
  have sb : Heap.SameBut a s.heap (s.heap.update a (Obj.putSet es1 t1)) := Heap.SameBut.update ..
  have ho1 := store_at (es' := es1) (t' := t1) R.at' R.data
  generalize s.heap.update a (Obj.putSet es1 t1) = h1 at sb ho1 ⊢
  have keys1 : ∀ p ∈ L1, kk.kd.is h1 p.2 p.1 := fun p hp => by
    refine key_but ?_ R.at' R.data sb
    rcases List.mem_cons.mp (pm.mem_iff.mp hp) with rfl | hp
    · exact hx
    · exact R.keys p hp
  have ld1 : w.params.followText "set-order" = true ∨ t1.led = true := by rw [p5]; exact R.led
  have fill1 : t1.fill = L.length + 1 := by rw [p9, List.length_map]
  cases hf : t1.tooFull
  · first
      | refine wp_if_neg (by simp) ?_
      | (refine wpAny_bind ?_; refine wp_if_neg (by simp) ?_; refine wpAny_pure ?_)
    have roomy : ¬ ((L.length + 1) * 5 ≥ t1.mask * 3) := by
      have := hf
      unfold SetTable.tooFull at this
      rwa [decide_eq_false_iff_not, fill1] at this
    exact wpAny_pure (q true h1 L1 _ es1 (ep + 1) t1 sb { at' := ho1, exact' := ⟨R.exact'.1, R.exact'.2.1, R.exact'.2.2⟩, data := rfl, rows := erow, tab := T1, nd := nd1, keys := keys1, plain := pl, led := ld1, room := by rw [len1]; omega, few := by rw [len1]; exact more } (.inr ⟨hm, pm⟩))
  · first
      | (refine wpAny_bind ?_; refine wp_if_pos (by simp) ?_)
      | (refine wp_if_pos (by simp) ?_; refine wpAny_bind ?_)
    have full : (L.length + 1) * 5 ≥ t1.mask * 3 := by
      have := hf
      unfold SetTable.tooFull at this
      rwa [decide_eq_true_eq, fill1] at this
    rw [len]
    have fit1 : L1.length ≤ t1.mask := by
      rw [len1, p4]
      rcases R.tab.mok with e | e | e <;> omega
    have go : ∀ M, SetTable.sizeAbove (SetTable.grown (L.length + 1)) = M + 1 → MaskOk M → (L.length + 1) * 5 < M * 3 → wpAny (model P w) A (setRelay a (SetTable.grown (L.length + 1))) (fun _ s' => wpAny (model P w) A (pure true) Q E s') E { s with heap := h1 } := fun M g1 g2 g3 =>
      relay (s := { s with heap := h1 }) ho1 ⟨R.exact'.1, R.exact'.2.1, R.exact'.2.2⟩ rfl erow T1 fit1 nd1 keys1 pl ld1 (by rw [len1]; exact more) g1 g2 (by rw [len1]; exact g3) fun h2 L2 o2 es2 ep2 t2 sb2 R2 pm2 => wpAny_pure (q true h2 L2 o2 es2 ep2 t2 (sb.trans sb2) R2 (.inr ⟨hm, pm2.trans pm⟩))
    rcases R.tab.mok with e | e | e
    · have l4 : L.length = 4 := by omega
      exact go 31 (by rw [l4, size_20]) (.inr (.inl rfl)) (by omega)
    · have l18 : L.length = 18 := by omega
      exact go 127 (by rw [l18, size_76]) (.inr (.inr rfl)) (by omega)
    · omega
end
end
end Sn

/-! Sn2: set(a list of keys). -/
namespace Sn
open PySem PySem.Spec PyProof.Rows L2
section
variable {P : Program} {w : World} {K : Type} [DecidableEq K] {kk : SKind P w K}
/-- the set L came of the keys ks -/
structure Came (ks L : List (Addr × K)) : Prop where
  sub : ∀ p ∈ L, p ∈ ks
  iff : ∀ k, k ∈ L.map (·.2) ↔ k ∈ ks.map (·.2)
  len : L.length ≤ ks.length
theorem Came.snoc {ks L L' : List (Addr × K)} {p : Addr × K} (c : Came ks L) (h : (p.2 ∈ L.map (·.2) ∧ L' = L) ∨ (p.2 ∉ L.map (·.2) ∧ L'.Perm (p :: L))) : Came (ks ++ [p]) L' := by
  rcases h with ⟨hm, rfl⟩ | ⟨hm, pm⟩
  · refine ⟨fun x hx => List.mem_append_left _ (c.sub x hx), fun k => ?_, ?_⟩
    · rw [List.map_append, List.mem_append, c.iff k]
      refine ⟨.inl, fun h => h.elim id fun h => ?_⟩
      have : k = p.2 := by simpa using h
      rw [this]; exact (c.iff _).mp hm
    · have := c.len
      rw [List.length_append, List.length_singleton]; omega
  · refine ⟨fun x hx => ?_, fun k => ?_, ?_⟩
    · rcases List.mem_cons.mp (pm.mem_iff.mp hx) with rfl | hx
      · exact List.mem_append_right _ (List.mem_singleton.mpr rfl)
      · exact List.mem_append_left _ (c.sub x hx)
    · rw [(pm.map (·.2)).mem_iff, List.map_cons, List.mem_cons, List.map_append, List.mem_append, c.iff k]
      simp [or_comm]
    · have := c.len
      rw [pm.length_eq, List.length_append, List.length_singleton, List.length_cons]; omega
section
variable {A : Around} {E : Value → Shared → Prop} {s : Shared}
/-- the set at a -/
def IsSet (kk : SKind P w K) (h : Heap) (a : Addr) (L : List (Addr × K)) : Prop := ∃ o es ep t, SI kk h a L o es ep t
theorem IsSet.up {h h' : Heap} {a : Addr} {L : List (Addr × K)} (R : IsSet kk h a L) (ha : ∀ o, h.get? a = some o → h'.get? a = some o) (hk : ∀ p ∈ L, kk.kd.is h' p.2 p.1) : IsSet kk h' a L := by
  obtain ⟨o, es, ep, t, R⟩ := R
  exact ⟨o, es, ep, t, { R with at' := ha o R.at', keys := hk }⟩
theorem isSet_new {h : Heap} {a : Addr} (ho : h.get? a = some { cls := .type "set", dict := none, data := .set #[] 0 (.fresh 0 0 (!w.params.followText "set-order")) }) : IsSet kk h a [] := by
  refine ⟨_, _, _, _, { at' := ho, exact' := ⟨rfl, rfl, rfl⟩, data := rfl, rows := rfl, tab := ⟨List.Pairwise.nil, rfl, rfl, .inl rfl, fun x hx => (nomatch hx), fun i h j hi => (by simp at hi)⟩, nd := List.nodup_nil, keys := fun p hp => (nomatch hp), plain := rfl, led := ?_, room := (by show 0 * 5 < 7 * 3; decide), few := (by show 0 < 64; decide) }⟩
  show _ ∨ (!w.params.followText "set-order") = true
  cases w.params.followText "set-order"
  · exact .inr rfl
  · exact .inl rfl

theorem loop {I : Addr} {fp wr : List Addr} {G : Array GenState → Array GenState → Prop} {n : Nat} {Pv : Nat → Value → Prop} {St : Nat → Shared → Prop} {R : Result → Shared → Prop}
    (W : WalksS P w A.in1 I fp wr G n Pv St) (S : Addr) (out : S ∉ fp) (ks : List (Addr × K)) (hn : n = ks.length) (few : ks.length < 64) (vals : ∀ i v, Pv i v → ∃ p, ks[i]? = some p ∧ v = .ref p.1)
    (h0 : Heap) (keys : ∀ p ∈ ks, kk.kd.is h0 p.2 p.1) (noS : h0.get? S = none) (noW : ∀ b ∈ wr, h0.get? b = none) (hr : kk.kd.room A.in1) :
    ∀ (m i : Nat) (s : Shared), i + m = n → St i s → (∀ b o, h0.get? b = some o → s.heap.get? b = some o) → (∃ L, IsSet kk s.heap S L ∧ Came (ks.take i) L) →
      (∀ s' L, Moved (S :: wr) G s s' → IsSet kk s'.heap S L → Came ks L → (∀ b o, h0.get? b = some o → s'.heap.get? b = some o) → R (.ok (.ret .none)) s') →
      codeAny (model P w) A (.builtin "set.update.loop" ⟨[.ref S, .ref I], []⟩) R s := by
  have outW : S ∉ wr := fun h => out (W.sub _ h)
  have wider : ∀ b ∈ wr, b ∈ S :: wr := fun b hb => List.mem_cons_of_mem _ hb
  have kept : ∀ {s s' : Shared}, Moved wr G s s' → (∀ b o, h0.get? b = some o → s.heap.get? b = some o) → ∀ b o, h0.get? b = some o → s'.heap.get? b = some o := fun hm hk b o e => hm.heap b o (fun hb => by rw [noW b hb] at e; cases e) (hk b o e)
  intro m
  induction m with
  | zero =>
    intro i s him hst hk ⟨L, hS, g⟩ hR
    obtain rfl : i = n := him
    refine codeAny_builtin F.entry_set_update_loop ?_
    rw [Around.under_plainId F.plain_set_update_loop _]
    show wpAny _ A.in1 (pyNext (.ref I) >>= _) _ _ s
    refine wpAny_bind (W.done s _ _ hst fun s' hm => ?_)
    show wpAny _ A.in1 (ret Value.none) _ _ s'
    have hk' := kept hm hk
    rw [hn, List.take_length] at g
    exact wpAny_pure (hR s' L (hm.mono wider) (hS.up (fun o e => hm.heap S o outW e) fun p hp => key_up (keys p (g.sub p hp)) hk') g hk')
  | succ m ih =>
    intro i s him hst hk ⟨L, hS, g⟩ hR
    refine codeAny_builtin F.entry_set_update_loop ?_
    rw [Around.under_plainId F.plain_set_update_loop _]
    show wpAny _ A.in1 (pyNext (.ref I) >>= _) _ _ s
    refine wpAny_bind (W.item i s _ _ (by omega) hst fun v s' hv hst' hm => ?_)
    obtain ⟨p, hp, rfl⟩ := vals i v hv
    have hk' := kept hm hk
    obtain ⟨o, es, ep, t, S1⟩ := hS.up (h' := s'.heap) (fun o e => hm.heap S o outW e) fun z hz => key_up (keys z (List.mem_of_mem_take (g.sub z hz))) hk'
    have hx : kk.kd.is s'.heap p.2 p.1 := key_up (keys p (List.mem_of_getElem? hp)) hk'
    show wpAny _ A.in1 (holding [Value.ref p.1] (setAdd S (.ref p.1)) >>= _) _ _ s'
    refine wpAny_bind (wpAny_holding ?_)
    unfold setAdd
    refine wpAny_holding (wpAny_bind (kk.kd.pyHash hr hx ?_))
    have gl := g.len
    rw [List.length_take] at gl
    refine add (s := { s' with toks := s'.toks + kk.kd.draws p.2 }) S1 hx hr (by omega) fun b h' L' o' es' ep' t' sb S2 ch => ?_
    have g2 : Came (ks.take (i + 1)) L' := by
      rw [List.take_succ, hp]
      exact g.snoc ch
    have hk2 : ∀ b o, h0.get? b = some o → h'.get? b = some o := fun b o e => (sb.2 b (fun z => by rw [z, noS] at e; cases e)).trans (hk' b o e)
    refine wpAny_pure ⟨plainId_quiet F.plain_set_update_loop _, ih (i + 1) _ (by omega) (W.frame _ s' _ _ hst' (Nat.le_add_right _ _) fun b hb o e => ?_) hk2 ⟨L', ⟨_, _, _, _, S2⟩, g2⟩ fun s'' L2 hm2 S3 g3 hk3 => ?_⟩
    · exact (sb.2 b (fun z => out (z ▸ hb))).trans e
    · refine hR s'' L2 (Moved.trans W.gtrans ((hm.mono wider).then_heap (Nat.le_add_right _ _) fun b o hb e => ?_) hm2) S3 g3 hk3
      exact (sb.2 b (fun z => hb (z ▸ List.mem_cons_self))).trans e

set_option maxHeartbeats 3200000 in
theorem set_list {l : Addr} {items : Array Value} (ks : List (Addr × K)) {Q : Value → Shared → Prop} (hh : A.handled = none) (hl : s.heap.IsList l items) (hit : items.toList = ks.map fun p => Value.ref p.1)
    (keys : ∀ p ∈ ks, kk.kd.is s.heap p.2 p.1) (few : ks.length < 64) (hr : ∀ A', A'.units ≤ A.units + 8 → kk.kd.room A')
    (h : ∀ (h' : Heap) (tk : Nat) L, IsSet kk h' s.heap.objs.size L → Came ks L → (∀ b o, s.heap.get? b = some o → h'.get? b = some o) → Q (.ref s.heap.objs.size) { s with heap := h', toks := tk }) :
    wpAny (model P w) A (call (.type "set") [.ref l]) Q E s := by
  have isz : items.size = ks.length := by rw [← Array.length_toList, hit, List.length_map]
  obtain ⟨c0, tl0, hmro⟩ := F.called_set.mro
  have k1 := F.called_set.made
  have k2 := F.called_set.sub
  refine wpAny_call (codeAny_of_tree ?_)
  show wpAny _ _ (callAny (.type "set") _) _ _ _
  refine wpAny_pure ⟨Code.quiet_builtin _ (by decide +kernel), codeAny_builtin F.entry_type_call ?_⟩
  rw [Around.under_plain (weight_type_call_type "set" [.ref l] []) rfl]
  have k3 := F.called_set.notType
  have k4 := F.called_set.canCreate
  have k5 := F.typeCall_set_1 (.ref l)
  repeat (any_goals (first | assumption | wp_step))
  refine codeAny_mono (code_set_led1 (.ref l) (E := E) (Q₁ := fun obj s₁ => obj = .ref s.heap.objs.size ∧ s₁ = { s with heap := Rs.withSet w s.heap }) ⟨rfl, rfl⟩) fun r s₁ hr' => ?_
  match r, hr' with
  | .error e, hr' => exact hr'
  | .ok (.next), hr' => exact hr'.elim
  | .ok (.brk), hr' => exact hr'.elim
  | .ok (.cont), hr' => exact hr'.elim
  | .ok (.ret obj), hr' =>
    obtain ⟨rfl, rfl⟩ := hr'
    have atS : (Rs.withSet w s.heap).get? s.heap.objs.size = some { cls := .type "set", dict := none, data := .set #[] 0 (.fresh 0 0 (!w.params.followText "set-order")) } := Heap.get?_push_size _ rfl
    have tyS : Shared.TypeIs { s with heap := Rs.withSet w s.heap } (.ref s.heap.objs.size) "set" := ⟨_, atS, rfl⟩
    have k6 := F.called_set.init.lookup
    have k7 := F.called_set.init.bind (.ref s.heap.objs.size)
    repeat (any_goals (first | assumption | wp_step))
    refine codeAny_mono (codeAny_call_builtin (R := wants (fun r s₂ => r = .none ∧ ∃ h' tk L, s₂ = { s with heap := h', toks := tk } ∧ IsSet kk h' s.heap.objs.size L ∧ Came ks L ∧
        (∀ b o, s.heap.get? b = some o → h'.get? b = some o)) E) F.called_set.init.plain F.entry_set_init (check_set_init_1 tyS ?_)) fun r₂ s₂ hr₂ => ?_
    · obtain ⟨⟨oc, od, odt, osl⟩, hol, hcl, nl, hdl⟩ := hl
      obtain rfl : oc = .type "list" := hcl
      obtain rfl : odt = .seq items nl := hdl
      have up1 : ∀ b o, s.heap.get? b = some o → (Rs.withSet w s.heap).get? b = some o := fun b o e => Heap.get?_push_of_some _ e
      have hol' := up1 _ _ hol
      have k8 := F.sub_list_set
      have k9 := F.sub_list_frozenset
      have k10 : (Value.type "list" == Value.type "dict") = false := by decide
      have isL : (Rs.withSet w s.heap).IsList l items := ⟨_, hol', rfl, nl, rfl⟩
      have sz1 : (Rs.withSet w s.heap).objs.size = s.heap.objs.size + 1 := Heap.size_push ..
      unfold Builtin.«set.__init__» noKeywords Builtin.Frozenset.updateFrom
      generalize hPI : pyIter = PI
      wp_walk
      subst hPI
      refine wpAny_pyIter_list isL ?_
      refine wpAny_bind (wpAny_runValue ?_)
      have lS : l < s.heap.objs.size := Heap.lt_size hol
      have hh3 : A.in1.in1.in1.handled = none := hh
      have neI : l ≠ (Rs.withSet w s.heap).objs.size := by rw [sz1]; exact Nat.ne_of_lt (Nat.lt_succ_of_lt lS)
      have nfp : s.heap.objs.size ∉ [(Rs.withSet w s.heap).objs.size, l] := by
        rw [sz1]
        simp only [List.mem_cons, List.not_mem_nil, or_false, not_or]
        exact ⟨Nat.ne_of_lt (Nat.lt_succ_self _), Nat.ne_of_gt lS⟩
      have vals : ∀ (i : Nat) (v : Value), items[i]? = some v → ∃ p, ks[i]? = some p ∧ v = .ref p.1 := fun i v hv => by
        rw [← Array.getElem?_toList, hit, List.getElem?_map] at hv
        obtain ⟨p, hp, e⟩ := Option.map_eq_some_iff.mp hv
        exact ⟨p, hp, e.symm⟩
      have gone : ∀ b, s.heap.objs.size ≤ b → s.heap.get? b = none := fun b hb => by
        cases q : s.heap.get? b with
        | none => rfl
        | some o => exact absurd (Nat.lt_of_lt_of_le (Heap.lt_size q) hb) (Nat.lt_irrefl _)
      refine loop ((Walks.list hh3 _ l neI items).toS) s.heap.objs.size nfp ks isz few vals s.heap keys (gone _ (Nat.le_refl _)) (fun b hb => gone b ?_) (hr _ ?_) items.size 0 _ (Nat.zero_add _)
        ⟨⟨_, Heap.get?_push_size _ rfl, rfl, rfl⟩, (isL.push _)⟩ (fun b o e => Heap.get?_push_of_some _ (up1 b o e)) ?S0 ?S1
      · rw [List.mem_singleton.mp hb, sz1]; exact Nat.le_succ _
      · simp only [Around.in1_units]; omega
      case S0 => exact ⟨[], isSet_new (Heap.get?_push_of_some _ atS), ⟨fun p hp => (nomatch hp), fun k => (by simp), Nat.zero_le _⟩⟩
      case S1 =>
        intro s' L hm S1 g hk
        obtain ⟨h', g2, d', tk', os'⟩ := s'
        obtain rfl : g2 = s.gens := hm.gens
        obtain rfl : d' = s.drawn := hm.drawn
        obtain rfl : os' = s.os := hm.os
        show wpAny _ _ _ _ _ _
        refine wpAny_pure ?_
        show wpAny _ _ (ret Value.none) _ _ _
        exact wpAny_pure ⟨rfl, h', tk', L, rfl, S1, g, hk⟩
    · match r₂, hr₂ with
      | .error e, hr₂ => exact hr₂
      | .ok (.next), hr₂ => exact hr₂.elim
      | .ok (.brk), hr₂ => exact hr₂.elim
      | .ok (.cont), hr₂ => exact hr₂.elim
      | .ok (.ret r), hr₂ =>
        obtain ⟨rfl, h', tk, L, rfl, S1, g, hk⟩ := hr₂
        repeat (any_goals (first | assumption | wp_step))
        exact h _ _ _ S1 g hk
end
end
end Sn

/-! Sn3: keys that are whole numbers, truths, None and tuples of such, nested. -/
namespace Sn
open PySem PySem.Spec PyProof.Rows L2
mutual
/-- no text within -/
def calm : NestedKey → Bool
  | .none => true
  | .num _ => true
  | .text _ => false
  | .tup ks => calmAll ks
def calmAll : List NestedKey → Bool
  | [] => true
  | k :: ks => calm k && calmAll ks
end
section
variable {P : Program} {w : World}
def NoAt (P : Program) (w : World) (n : Nat) (s : Shared) (v : Value) : Prop := ∀ (A : Around) (E : Value → Shared → Prop) (Q : Bool → Shared → Prop), Q false s → wpAny (model P w) A (ofAClassStatement n v) Q E s
def ByAt (P : Program) (w : World) (n : Nat) (s : Shared) (v : Value) : Prop := ∀ (A : Around) (E : Value → Shared → Prop) (Q : Bool → Shared → Prop), Q true s → wpAny (model P w) A (hashByValue n v) Q E s
theorem noAt_val {n : Nat} {s : Shared} {v : Value} (h : ofAClassStatement n v = pure false) : NoAt P w n s v := fun A E Q q => by
  rw [h]; exact wpAny_pure q
theorem byAt_val {n : Nat} {s : Shared} {v : Value} (h : hashByValue n v = pure true) : ByAt P w n s v := fun A E Q q => by
  rw [h]; exact wpAny_pure q
theorem noAt_tup {n m : Nat} {s : Shared} {a : Addr} {o : Obj} {vs : Array Value} (ho : s.heap.get? a = some o) (hc : o.cls = .type "tuple") (hd : o.data = .seq vs m) (hv : ∀ v ∈ vs.toList, NoAt P w n s v) : NoAt P w (n + 1) s (.ref a) := fun A E Q q => by
  have ty : s.TypeIs (.ref a) "tuple" := ⟨o, ho, hc⟩
  have isT : (("tuple" : String) == "tuple") = true := by decide
  unfold ofAClassStatement
  refine wpAny_bind (wpAny_typeOf ty ?_)
  dsimp only
  simp only [isT, if_true, Bool.not_true, Bool.false_eq_true, if_false]
  try refine wpAny_bind (wpAny_pure ?_)
  try simp only [Bool.not_true, Bool.false_eq_true, if_false]
  show wpAny _ _ (seqItems? (.ref a) >>= _) _ _ s
  refine wpAny_bind (wpAny_seqItems ho hd ?_)
  dsimp only
  refine wpAny_bind ?_
  show wpAny _ _ (forIn vs _ _) _ _ s
  rw [← Array.forIn_toList]
  refine wpAny_forIn_list _ (fun left r s' => (r.1 = none ∧ s' = s) ∧ ∀ v ∈ left, NoAt P w n s v) _ (fun v left r s' H => ?_) (fun r s' H => ?_) _ _ ⟨⟨rfl, rfl⟩, hv⟩
  · obtain ⟨⟨h1, rfl⟩, h2⟩ := H
    refine wpAny_bind (h2 v List.mem_cons_self _ _ _ ?_)
    simp only [Bool.false_eq_true, if_false]
    exact wpAny_pure ⟨⟨rfl, rfl⟩, fun u hu => h2 u (List.mem_cons_of_mem _ hu)⟩
  · obtain ⟨r1, r2⟩ := r
    obtain ⟨⟨h1, rfl⟩, _⟩ := H
    simp only at h1
    subst h1
    exact wpAny_pure q
theorem byAt_tup {n m : Nat} {s : Shared} {a : Addr} {o : Obj} {vs : Array Value} (ho : s.heap.get? a = some o) (hc : o.cls = .type "tuple") (hd : o.data = .seq vs m) (hv : ∀ v ∈ vs.toList, ByAt P w n s v) : ByAt P w (n + 1) s (.ref a) := fun A E Q q => by
  have ty : s.TypeIs (.ref a) "tuple" := ⟨o, ho, hc⟩
  unfold hashByValue
  refine wpAny_bind (wpAny_specialOf ty F.slot_tuple_hash.lookup ?_)
  show wpAny _ _ (seqItems? (.ref a) >>= _) _ _ s
  refine wpAny_bind (wpAny_seqItems ho hd ?_)
  refine wpAny_bind ?_
  show wpAny _ _ (forIn vs _ _) _ _ s
  rw [← Array.forIn_toList]
  refine wpAny_forIn_list _ (fun left r s' => (r.1 = none ∧ s' = s) ∧ ∀ v ∈ left, ByAt P w n s v) _ (fun v left r s' H => ?_) (fun r s' H => ?_) _ _ ⟨⟨rfl, rfl⟩, hv⟩
  · obtain ⟨⟨h1, rfl⟩, h2⟩ := H
    refine wpAny_bind (h2 v List.mem_cons_self _ _ _ ?_)
    simp only [Bool.not_true, Bool.false_eq_true, if_false]
    exact wpAny_pure ⟨⟨rfl, rfl⟩, fun u hu => h2 u (List.mem_cons_of_mem _ hu)⟩
  · obtain ⟨r1, r2⟩ := r
    obtain ⟨⟨h1, rfl⟩, _⟩ := H
    simp only at h1
    subst h1
    exact wpAny_pure q
mutual
theorem no_key : ∀ (k : NestedKey) (v : Value) (n : Nat) (s : Shared), NestedIs s.heap k v → k.depth ≤ n → NoAt P w n s v
  | .none, _, n, s, x, _ => by cases x; exact noAt_val (by cases n <;> rfl)
  | .num i, _, n, s, x, _ => by cases x <;> exact noAt_val (by cases n <;> rfl)
  | .text y, _, n, s, x, _ => by cases x; exact noAt_val (by cases n <;> rfl)
  | .tup ks, _, 0, s, x, h => by simp [NestedKey.depth] at h
  | .tup ks, _, n + 1, s, x, h => by
    cases x with
    | tup h1 h2 h3 h4 =>
      simp only [NestedKey.depth] at h
      exact noAt_tup h1 h2 h3 (no_keys ks _ n s h4 (by omega))
theorem no_keys : ∀ (ks : List NestedKey) (vs : List Value) (n : Nat) (s : Shared), NestedAll s.heap ks vs → NestedKey.depthAll ks ≤ n → ∀ v ∈ vs, NoAt P w n s v
  | [], _, n, s, x, _, v, hv => by cases x; cases hv
  | k :: ks, _, n, s, x, h, v, hv => by
    simp only [NestedKey.depthAll] at h
    cases x with
    | cons x1 x2 =>
      rcases List.mem_cons.mp hv with rfl | hv
      · exact no_key k _ n s x1 (by omega)
      · exact no_keys ks _ n s x2 (by omega) v hv
end
mutual
theorem by_key : ∀ (k : NestedKey) (v : Value) (n : Nat) (s : Shared), NestedIs s.heap k v → k.depth ≤ n → calm k = true → ByAt P w n s v
  | .none, _, n, s, x, _, _ => by cases x; exact byAt_val (by cases n <;> rfl)
  | .num i, _, n, s, x, _, _ => by cases x <;> exact byAt_val (by cases n <;> rfl)
  | .text y, _, n, s, x, _, hc => by cases hc
  | .tup ks, _, 0, s, x, h, _ => by simp [NestedKey.depth] at h
  | .tup ks, _, n + 1, s, x, h, hc => by
    cases x with
    | tup h1 h2 h3 h4 =>
      simp only [NestedKey.depth] at h
      exact byAt_tup h1 h2 h3 (by_keys ks _ n s h4 (by omega) hc)
theorem by_keys : ∀ (ks : List NestedKey) (vs : List Value) (n : Nat) (s : Shared), NestedAll s.heap ks vs → NestedKey.depthAll ks ≤ n → calmAll ks = true → ∀ v ∈ vs, ByAt P w n s v
  | [], _, n, s, x, _, _, v, hv => by cases x; cases hv
  | k :: ks, _, n, s, x, h, hc, v, hv => by
    simp only [NestedKey.depthAll] at h
    simp only [calmAll, Bool.and_eq_true] at hc
    cases x with
    | cons x1 x2 =>
      rcases List.mem_cons.mp hv with rfl | hv
      · exact by_key k _ n s x1 (by omega) hc.1
      · exact by_keys ks _ n s x2 (by omega) hc.2 v hv
end
/-- the kind of keys of which sets are made here -/
def nk (P : Program) (w : World) : SKind P w NestedKey where
  kd := { nestedKind P w with
    is := fun h k a => (nestedKind P w).is h k a ∧ calm k = true
    inj := fun hx hy => (nestedKind P w).inj hx.1 hy.1
    keeps := fun x ho hd hs => ⟨(nestedKind P w).keeps x.1 ho hd hs, x.2⟩
    pyHash := fun hu hk h => (nestedKind P w).pyHash hu hk.1 h
    eqBool := fun hu hx hy h => (nestedKind P w).eqBool hu hx.1 hy.1 h
    quiet := fun hk h => (nestedKind P w).quiet hk.1 h }
  noClass := fun {A E s k a Q} hk h => no_key k _ 8 s hk.1.1 hk.1.2 A E Q h
  byVal := fun {A E s k a Q} hk h => by_key k _ 8 s hk.1.1 hk.1.2 hk.2 A E Q h
  stay := fun {h h' k a} hk up => ⟨⟨NestedIs.at up k _ hk.1.1, hk.1.2⟩, hk.2⟩
end
/-! a value that reads as the data of a key is this key -/
section
variable {X : Cx} {pins : List (Addr × Obj)} {σ : L2.St} {H : Hp} {s : Shared}
mutual
theorem nested_of (I : Inv X pins σ H s) : ∀ (k : NestedKey) (v : V) (u : Value), Dp X.K H v k.data → RelV v u → NestedIs s.heap k u
  | .none, _, _, h, r => by cases h; cases r; exact .none
  | .num i, _, _, h, r => by
    cases h
    obtain ⟨t, rfl⟩ := r
    exact .int i t
  | .text x, _, _, h, r => by
    cases h
    obtain ⟨t, rfl⟩ := r
    exact .text x t
  | .tup ks, _, u, h, r => by
    cases h with
    | @tup a xs ds hs ha =>
      obtain rfl : u = Value.ref a := r
      obtain ⟨its, rv, p, _⟩ := I.tuple hs
      obtain ⟨o, e, c, n, d⟩ := (show s.heap.IsTuple a its.toArray from p)
      exact .tup e c d (nesteds_of I ks xs its ha rv)
theorem nesteds_of (I : Inv X pins σ H s) : ∀ (ks : List NestedKey) (vs : List V) (us : List Value), DpAll X.K H vs (NestedKey.datas ks) → Vals vs us → NestedAll s.heap ks us
  | [], _, _, h, r => by cases h; cases r; exact .nil
  | k :: ks, _, _, h, r => by
    cases h with
    | cons h1 h2 =>
      cases r with
      | cons r1 r2 => exact .cons (nested_of I k _ _ h1 r1) (nesteds_of I ks _ _ h2 r2)
end
end
end Sn

/-! Sn4: sets of nested keys as things; set(a list), len. -/
namespace Sn
open PySem PySem.Spec PyProof.Rows L2 SlX StX Rs Ma
abbrev Ad := Addr × NestedKey
/-- what a set is, told of its own object alone -/
def S0 (P : Program) (w : World) (L : List Ad) (a : Addr) (h : Heap) : Prop := ∃ o es ep t, h.get? a = some o ∧ o.ExactSet ∧ o.data = .set es ep t ∧ es.toList = L.map (row1 (nk P w)) ∧ TabOk t (L.map (hs (nk P w))) ∧ (L.map (·.2)).Nodup ∧ t.plain = true ∧
  (w.params.followText "set-order" = true ∨ t.led = true) ∧ L.length * 5 < t.mask * 3 ∧ L.length < 64
def setN (P : Program) (w : World) (L : List Ad) (a : Addr) : HO := .ext (S0 P w L a)
section
variable {P : Program} {w : World} {h : Heap} {H : Hp} {a : Addr} {L : List Ad}
theorem IsSet.s0 (R : IsSet (nk P w) h a L) : S0 P w L a h := by
  obtain ⟨o, es, ep, t, R⟩ := R
  exact ⟨o, es, ep, t, R.at', R.exact', R.data, R.rows, R.tab, R.nd, R.plain, R.led, R.room, R.few⟩
theorem S0.isSet (R : S0 P w L a h) (k : ∀ p ∈ L, (nk P w).kd.is h p.2 p.1) : IsSet (nk P w) h a L := by
  obtain ⟨o, es, ep, t, h1, h2, h3, h4, h5, h6, h7, h8, h9, h10⟩ := R
  exact ⟨o, es, ep, t, ⟨h1, h2, h3, h4, h5, h6, k, h7, h8, h9, h10⟩⟩
theorem setN_new (R : S0 P w L a h) : ObjOk P w H h a (setN P w L a) := by
  refine ⟨R, ?_, fun h1 h2 ⟨o, es, ep, t, q1, q⟩ st => ⟨o, es, ep, t, st o q1, q⟩⟩
  obtain ⟨o, es, ep, t, q1, _⟩ := R
  exact ⟨o, q1⟩
end
/-- a key that may be in a set -/
def Good (k : NestedKey) : Prop := (∃ ks, k = .tup ks) ∧ calm k = true ∧ k.depth ≤ 8
theorem addrs_of {h : Heap} : ∀ {ks : List NestedKey} {us : List Value}, NestedAll h ks us → (∀ k ∈ ks, ∃ l, k = .tup l) → ∃ bs : List Ad, us = bs.map (fun p => Value.ref p.1) ∧ bs.map (·.2) = ks ∧ ∀ p ∈ bs, NestedIs h p.2 (.ref p.1)
  | [], us, x, _ => by cases x; exact ⟨[], rfl, rfl, fun p hp => nomatch hp⟩
  | k :: ks, us, x, hk => by
    cases x with
    | @cons _ v _ vs x1 x2 =>
      obtain ⟨bs, e1, e2, e3⟩ := addrs_of x2 fun y hy => hk y (List.mem_cons_of_mem _ hy)
      obtain ⟨l, rfl⟩ := hk k List.mem_cons_self
      cases x1 with
      | @tup b o vs' n _ h1 h2 h3 h4 =>
        refine ⟨(b, .tup l) :: bs, by rw [List.map_cons, e1], by rw [List.map_cons, e2], fun p hp => ?_⟩
        rcases List.mem_cons.mp hp with rfl | hp
        · exact .tup h1 h2 h3 h4
        · exact e3 p hp
/-- set(a list of keys) -/
def rSetK (K : PySem.W.Frag) (P : Program) (w : World) : List V → Hp → VK → Prop := fun vs H Q => ∃ (a : Addr) (xs : List V) (ks : List NestedKey), vs = [.ref a] ∧ SqL K H a xs ∧ DpAll K H xs (NestedKey.datas ks) ∧ (∀ k ∈ ks, Good k) ∧ ks.length < 64 ∧
  ∀ p L, (L.map (·.2)).Nodup → (∀ k, k ∈ L.map (·.2) ↔ k ∈ ks) → H p = none → Q (.ref p) (upd H p (setN P w L p))
def rLenK (P : Program) (w : World) : List V → Hp → VK → Prop := fun vs H Q => ∃ (a : Addr) (L : List Ad), vs = [.ref a] ∧ H a = some (setN P w L a) ∧ Q (.int (L.length : Int)) H
section
variable {X : Cx}
theorem cr_setK (hc : X.calm = true) (hu : X.A.units + 64 < cLine) : CallR X (.type "set") (rSetK X.K X.prog X.w) := by
  intro pins s σ H vs us Q I r h
  obtain ⟨a, xs, ks, rfl, hs, hd, hg, hl, q⟩ := h
  rw [Vals.ref1 r]
  obtain ⟨its, rv, ⟨o, n, e, c, d, hdat⟩, _⟩ := I.list hs
  obtain ⟨bs, e1, e2, e3⟩ := addrs_of (nesteds_of I ks xs its hd rv) fun k hk => (hg k hk).1
  have gd : ∀ p ∈ bs, Good p.2 := fun p hp => hg _ (by rw [← e2]; exact List.mem_map.mpr ⟨p, hp, rfl⟩)
  refine set_list (kk := nk X.prog X.w) bs (I.ok.hd hc) ⟨o, e, c, n, hdat⟩ (by simpa using e1) (fun p hp => ⟨⟨e3 p hp, (gd p hp).2.2⟩, (gd p hp).2.1⟩) (by rw [← List.length_map (f := (·.2)), e2]; exact hl) (fun A' hA => ?_) fun h' tk L hS hC hk => ?_
  · show A'.units + 8 < cLine
    omega
  · obtain ⟨_, _, _, _, S⟩ := id hS
    exact ⟨.ref _, _, I.laid (t' := tk) hk (Nat.le_refl _) (setN_new hS.s0), rfl, q _ L S.nd (fun k => by rw [hC.iff k, e2]) (I.hok.fresh (Nat.le_refl _))⟩
theorem call_lenK : CallR X (.builtin "len") (rLenK X.prog X.w) := by
  intro pins s σ H xs us Q I r h
  obtain ⟨a, L, rfl, ha, q⟩ := h
  rw [Vals.ref1 r]
  obtain ⟨⟨o, es, ep, t, h1, h2, h3, h4, h5, h6, h7, h8, h9, h10⟩, _⟩ := I.hok a _ ha
  have hsz := rows_len h4
  have fit : t.fits es.size = true := fits_of (by rw [h5.sz, List.length_map, hsz]) h5.dm (by rw [hsz]; omega)
  refine call_len_set h1 h2 h3 fit (by omega) ?_
  rw [hsz]
  exact ⟨.int L.length, H, I.tok _, ⟨_, rfl⟩, q⟩
variable {e : Expr} {es : List Expr} {t : TA} {p pos : Pos}
theorem p_setNK (K : PySem.W.Frag) (P : Program) (w : World) (hc : X.calm = true) (hu : X.A.units + 64 < cLine) (B : Bf X.mg) (ha : PA X (e :: es) t) (hg : Gl X "set" := by rfl) (he : starEach (e :: es) X.env = (false, eval e X.env) :: starEach es X.env := by rfl) (hpl : (backTo pos (starEach es X.env)).any (·.1) = false := by rfl) (hK : X.K = K := by rfl) (hP : X.prog = P := by rfl) (hw : X.w = w := by rfl) :
    PE X (.Call (.Name "set" p) (e :: es) [] pos) (tCB (rSetK K P w) t) := by
  subst hK; subst hP; subst hw
  exact pe_callTy (cr_setK hc hu) hg B.set PyProof.Rows.boot_set ha (by decide) (by decide) he hpl
theorem p_lenNK (P : Program) (w : World) (B : Bf X.mg) (ha : PA X (e :: es) t) (hg : Gl X "len" := by rfl) (he : starEach (e :: es) X.env = (false, eval e X.env) :: starEach es X.env := by rfl) (hpl : (backTo pos (starEach es X.env)).any (·.1) = false := by rfl) (hP : X.prog = P := by rfl) (hw : X.w = w := by rfl) :
    PE X (.Call (.Name "len" p) (e :: es) [] pos) (tCB (rLenK P w) t) := by
  subst hP; subst hw
  exact pe_callB call_lenK hg B.len PySem.boot_len ha (by decide) (by decide) he hpl
end
end Sn

/-! Sn5: sets of nested keys in plain terms. -/
namespace Tw
open PySem PySem.Spec PyProof.Rows L2 SlX StX Rs Ma Sn
/-- data that are keys -/
class Keyd {α : Type} (d : α → PyData) (n : outParam Nat) where
  key : α → NestedKey
  ok : ∀ a, (key a).data = d a
  quiet : ∀ a, calm (key a) = true
  dep : ∀ a, (key a).depth ≤ n
  inj : ∀ a b, key a = key b → a = b
theorem key_map_inj {α : Type} {f : α → NestedKey} (h : ∀ a b, f a = f b → a = b) : ∀ {xs ys : List α}, xs.map f = ys.map f → xs = ys
  | [], [], _ => rfl
  | [], _ :: _, e => nomatch e
  | _ :: _, [], e => nomatch e
  | x :: xs, y :: ys, e => by
    rw [List.map_cons, List.map_cons] at e
    injection e with e1 e2
    rw [h _ _ e1, key_map_inj h e2]
theorem datas_map {α : Type} {f : α → NestedKey} {d : α → PyData} (h : ∀ a, (f a).data = d a) : ∀ xs : List α, NestedKey.datas (xs.map f) = xs.map d
  | [] => rfl
  | x :: xs => by rw [List.map_cons, List.map_cons, NestedKey.datas, h, datas_map h xs]
theorem calm_map {α : Type} {f : α → NestedKey} (h : ∀ a, calm (f a) = true) : ∀ xs : List α, calmAll (xs.map f) = true
  | [] => rfl
  | x :: xs => by rw [List.map_cons, calmAll, h, calm_map h xs]; rfl
theorem dep_map {α : Type} {f : α → NestedKey} {n : Nat} (h : ∀ a, (f a).depth ≤ n) : ∀ xs : List α, NestedKey.depthAll (xs.map f) ≤ n
  | [] => Nat.zero_le _
  | x :: xs => by
    rw [List.map_cons, NestedKey.depthAll]
    exact Nat.max_le.mpr ⟨h x, dep_map h xs⟩
instance : Keyd dN 0 := ⟨fun n => .num (n : Nat), fun _ => rfl, fun _ => rfl, fun _ => Nat.le_refl _, fun a b e => by injection e with e; omega⟩
instance : Keyd dInt 0 := ⟨fun n => .num n, fun _ => rfl, fun _ => rfl, fun _ => Nat.le_refl _, fun a b e => by injection e⟩
instance keydT {α : Type} {d : α → PyData} {n : Nat} [c : Keyd d n] : Keyd (dT d) (n + 1) := ⟨fun xs => .tup (xs.map c.key), fun xs => by rw [NestedKey.data, datas_map c.ok]; rfl, fun xs => by rw [calm]; exact calm_map c.quiet xs, fun xs => by
  rw [NestedKey.depth]
  exact Nat.succ_le_succ (dep_map c.dep xs), fun a b e => by injection e with e; exact key_map_inj c.inj e⟩
/-- each once -/
def dd {α : Type} [DecidableEq α] : List α → List α
  | [] => []
  | x :: xs => if x ∈ xs then dd xs else x :: dd xs
theorem mem_dd {α : Type} [DecidableEq α] {x : α} : ∀ {xs : List α}, x ∈ dd xs ↔ x ∈ xs
  | [] => Iff.rfl
  | y :: ys => by
    unfold dd
    split
    · rename_i h
      rw [mem_dd, List.mem_cons]
      exact ⟨.inr, fun z => z.elim (fun e => e ▸ h) id⟩
    · rw [List.mem_cons, List.mem_cons, mem_dd]
theorem nodup_dd {α : Type} [DecidableEq α] : ∀ {xs : List α}, (dd xs).Nodup
  | [] => List.nodup_nil
  | y :: ys => by
    unfold dd
    split
    · exact nodup_dd
    · rename_i h
      exact List.nodup_cons.mpr ⟨fun z => h (mem_dd.mp z), nodup_dd⟩
theorem dd_le {α : Type} [DecidableEq α] : ∀ xs : List α, (dd xs).length ≤ xs.length
  | [] => Nat.le_refl _
  | y :: ys => by
    unfold dd
    have := dd_le ys
    split
    · rw [List.length_cons]; omega
    · rw [List.length_cons, List.length_cons]; omega
theorem dd_len {α : Type} [DecidableEq α] : ∀ {xs : List α}, (dd xs).length = xs.length ↔ xs.Nodup
  | [] => ⟨fun _ => List.nodup_nil, fun _ => rfl⟩
  | y :: ys => by
    unfold dd
    have := dd_le ys
    rw [List.nodup_cons, ← dd_len (xs := ys)]
    split
    · rename_i h
      rw [List.length_cons]
      exact ⟨fun e => by omega, fun z => absurd h z.1⟩
    · rename_i h
      rw [List.length_cons, List.length_cons]
      exact ⟨fun e => ⟨h, by omega⟩, fun z => by omega⟩
/-- a set of such data -/
def fSK (P : Program) (w : World) {α : Type} (d : α → PyData) {n : Nat} [c : Keyd d n] : List α → VP := fun xs v F => ∃ a L, v = .ref a ∧ F a = some (setN P w L a) ∧ (L.map (·.2)).Nodup ∧ ∀ k, k ∈ L.map (·.2) ↔ k ∈ xs.map c.key
instance {P : Program} {w : World} {α : Type} {d : α → PyData} {n : Nat} [Keyd d n] {xs : List α} : Mono (fSK P w d xs) := ⟨fun _ _ _ e ⟨a, L, h, h1, r⟩ => ⟨a, L, h, e _ _ h1, r⟩⟩
section
variable {ε : Type} {K : PySem.W.Frag} {P : Program} {w : World} {α : Type} {d : α → PyData} {n : Nat}
theorem c_setK [c : Keyd d n] (hn : n ≤ 7 := by decide) : Cb ε (rSetK K P w) (fun xs => [fD K (dL (dT d)) xs]) (fun xs Q X => xs.length < 64 ∧ Q xs) (fSK P w (dT d)) := .of fun xs vs F L hv Q X ⟨q0, q1⟩ => by
  obtain ⟨v, rfl, hx⟩ := each1 hv
  refine ⟨xs, q1, fun F2 N H e A Qk qk => ?_⟩
  have hx2 : Dt K (dL (dT d) xs) v F := hx
  cases hx2 with
  | @lst a ys ds hs ha =>
    refine ⟨a, ys, xs.map (keydT (c := c)).key, rfl, sqL_up (e.trans A.ex) hs, ?_, fun k hk => ?_, by rw [List.length_map]; exact q0, fun p M h1 h2 hp => ?_⟩
    · rw [datas_map (keydT (c := c)).ok]
      exact dpA_up (e.trans A.ex) ha
    · obtain ⟨x, _, rfl⟩ := List.mem_map.mp hk
      exact ⟨⟨_, rfl⟩, (keydT (c := c)).quiet x, Nat.le_trans ((keydT (c := c)).dep x) (by omega)⟩
    · exact qk _ (upd F2 p _) _ (same_new (A.free hp)) (A.new hp) ⟨p, M, rfl, upd_same, h1, h2⟩
theorem c_lenK [DecidableEq α] [c : Keyd d n] : Cb ε (rLenK P w) (fun xs => [fSK P w d xs]) (fun xs => pur (dd xs).length) (fD K dN) := cb1p fun xs v F L hx => by
  obtain ⟨a, M, rfl, h1, h2, h3⟩ := hx
  refine r_cb (cv (R := Eqv (.ref a)) rfl) fun vs F1 e1 hv => ?_
  obtain ⟨u, rfl, hu⟩ := each1 hv
  cases hu
  refine fun F2 N H e A Q q => ⟨a, M, rfl, A.ex _ _ (e _ _ (e1 _ _ h1)), q _ F2 H (Same.refl _) A ?_⟩
  have pm : (M.map (·.2)).Perm ((dd xs).map c.key) := by
    refine (List.perm_ext_iff_of_nodup h2 ?_).mpr fun k => ?_
    · refine List.Pairwise.map _ (fun a b hne he => hne (c.inj _ _ he)) nodup_dd
    · rw [h3 k, List.mem_map, List.mem_map]
      exact ⟨fun ⟨x, hx, e⟩ => ⟨x, mem_dd.mpr hx, e⟩, fun ⟨x, hx, e⟩ => ⟨x, mem_dd.mp hx, e⟩⟩
  have e : M.length = (dd xs).length := by
    have := pm.length_eq
    rwa [List.length_map, List.length_map] at this
  rw [e]
  exact .int _
end
end Tw

/-! Sn6: dicts by nested keys: d[k], k in d, d[k] = v within comprehensions. -/
namespace Sn
open PySem PySem.Spec PyProof.Rows L2 SlX StX Rs Ma
abbrev Ent := NestedKey × Addr × V
def EntR (p : Ent) (q : NestedKey × Addr × Value) : Prop := p.1 = q.1 ∧ p.2.1 = q.2.1 ∧ RelV p.2.2 q.2.2
/-- what a dict is, told of its own object alone -/
def D0 (P : Program) (w : World) (zs : List Ent) (D : Addr) (h : Heap) : Prop := (D == sysModules) = false ∧ zs.length ≤ 100000 ∧ ∃ ys : List (NestedKey × Addr × Value), Paired EntR zs ys ∧ ∃ o es ep, h.get? D = some o ∧ o.ExactDict ∧ o.data = .dict es ep ∧ es.toList = ys.map (entryOfKey (nestedKind P w)) ∧ (ys.map (·.1)).Nodup
def dictN (P : Program) (w : World) (zs : List Ent) (D : Addr) : HO := .ext (D0 P w zs D)
def atN (zs : List Ent) (k : NestedKey) : Option (Addr × V) := (zs.find? fun z => decide (z.1 = k)).map (·.2)
def putN (zs : List Ent) (k : NestedKey) (a : Addr) (v : V) : List Ent := if (atN zs k).isSome then zs.map (fun z => if z.1 = k then (z.1, z.2.1, v) else z) else zs ++ [(k, a, v)]
/-- a key is here -/
def KeyAt (K : PySem.W.Frag) (H : Hp) (k : NestedKey) (a : Addr) : Prop := Dp K H (.ref a) k.data ∧ k.depth ≤ 8
section
variable {P : Program} {w : World} {h h' : Heap} {H : Hp} {D : Addr} {zs : List Ent}
theorem d0_new (hb : sysModules < h.objs.size) : D0 P w [] h.objs.size (h.push { cls := .type "dict", data := .dict #[] }) :=
  ⟨beq_eq_false_iff_ne.mpr (Ne.symm (Nat.ne_of_lt hb)), Nat.zero_le _, [], .nil, _, #[], 0, Heap.get?_push_size _ rfl, ⟨rfl, rfl, rfl⟩, rfl, rfl, List.nodup_nil⟩
theorem dictN_new (R : D0 P w zs D h) : ObjOk P w H h D (dictN P w zs D) := by
  refine ⟨R, ?_, fun h1 h2 ⟨q0, q1, ys, q2, o, es, ep, q3, q⟩ st => ⟨q0, q1, ys, q2, o, es, ep, st o q3, q⟩⟩
  obtain ⟨_, _, _, _, o, _, _, q, _⟩ := R
  exact ⟨o, q⟩
theorem atN_rel : ∀ {zs : List Ent} {ys : List (NestedKey × Addr × Value)}, Paired EntR zs ys → ∀ k, (atN zs k = none ∧ atKey ys k = none) ∨ ∃ a v u, atN zs k = some (a, v) ∧ atKey ys k = some (a, u) ∧ RelV v u
  | _, _, .nil, k => .inl ⟨rfl, rfl⟩
  | _ :: zt, _ :: yt, .cons (a := z) (b := y) r t, k => by
    obtain ⟨e1, e2, e3⟩ := r
    by_cases hk : z.1 = k
    · refine .inr ⟨z.2.1, z.2.2, y.2.2, ?_, ?_, e3⟩
      · unfold atN; rw [List.find?_cons_of_pos (by simp [hk])]; rfl
      · unfold atKey; rw [List.find?_cons_of_pos (by simp [← e1, hk]), e2]; rfl
    · have n1 : atN (z :: zt) k = atN zt k := by unfold atN; rw [List.find?_cons_of_neg (by simp [hk])]
      have n2 : atKey (y :: yt) k = atKey yt k := by unfold atKey; rw [List.find?_cons_of_neg (by simp [← e1, hk])]
      rw [n1, n2]
      exact atN_rel t k
theorem paired_snoc {α β : Type} {R : α → β → Prop} {x : α} {y : β} (r : R x y) : ∀ {l1 : List α} {l2 : List β}, Paired R l1 l2 → Paired R (l1 ++ [x]) (l2 ++ [y])
  | _, _, .nil => .cons r .nil
  | _, _, .cons q t => .cons q (paired_snoc r t)
theorem set_rel {k : NestedKey} {v : V} {u : Value} (r : RelV v u) : ∀ {zs : List Ent} {ys : List (NestedKey × Addr × Value)}, Paired EntR zs ys → Paired EntR (zs.map (fun z => if z.1 = k then (z.1, z.2.1, v) else z)) (ys.map (putAt k u))
  | _, _, .nil => .nil
  | _, _, .cons (a := z) (b := y) q t => by
    refine .cons ?_ (set_rel r t)
    obtain ⟨e1, e2, e3⟩ := q
    show EntR (if z.1 = k then (z.1, z.2.1, v) else z) (putAt k u y)
    unfold putAt
    rw [← e1]
    split
    · exact ⟨rfl, e2, r⟩
    · exact ⟨e1, e2, e3⟩
theorem put_rel {k : NestedKey} {a : Addr} {v : V} {u : Value} {zs : List Ent} {ys : List (NestedKey × Addr × Value)} (hp : Paired EntR zs ys) (r : RelV v u) : Paired EntR (putN zs k a v) (storedH ys k a u) := by
  have both : ((atN zs k).isSome : Bool) = (atKey ys k).isSome := by
    rcases atN_rel hp k with ⟨e1, e2⟩ | ⟨a, v, u, e1, e2, _⟩
    · rw [e1, e2]; rfl
    · rw [e1, e2]; rfl
  unfold putN storedH
  rw [both]
  split
  · exact set_rel r hp
  · exact paired_snoc ⟨rfl, rfl, r⟩ hp
theorem putN_len {k : NestedKey} {a : Addr} {v : V} {zs : List Ent} : (putN zs k a v).length ≤ zs.length + 1 := by
  unfold putN
  split
  · rw [List.length_map]; omega
  · rw [List.length_append]; exact Nat.le_refl _
theorem putN_mem {k : NestedKey} {a : Addr} {v : V} {zs : List Ent} {z : Ent} (h : z ∈ putN zs k a v) : (∃ z0 ∈ zs, z0.1 = z.1 ∧ z0.2.1 = z.2.1) ∨ (z.1 = k ∧ z.2.1 = a) := by
  unfold putN at h
  split at h
  · obtain ⟨z0, h0, rfl⟩ := List.mem_map.mp h
    refine .inl ⟨z0, h0, ?_⟩
    split
    · exact ⟨rfl, rfl⟩
    · exact ⟨rfl, rfl⟩
  · rcases List.mem_append.mp h with h | h
    · exact .inl ⟨z, h, rfl, rfl⟩
    · rw [List.mem_singleton.mp h]; exact .inr ⟨rfl, rfl⟩
end
section
variable {X : Cx} {pins : List (Addr × Obj)} {σ : L2.St} {H : Hp} {s : Shared} {D a : Addr} {k : NestedKey} {zs : List Ent} {E : Value → Shared → Prop} {v : V} {u : Value}
theorem key_at (I : Inv X pins σ H s) (hk : KeyAt X.K H k a) : (nestedKind X.prog X.w).is s.heap k a := ⟨nested_of I k _ _ hk.1 rfl, hk.2⟩
theorem dict_at (I : Inv X pins σ H s) (hD : H D = some (dictN X.prog X.w zs D)) (hz : ∀ z ∈ zs, KeyAt X.K H z.1 z.2.1) : (D == sysModules) = false ∧ zs.length ≤ 100000 ∧ ∃ ys, Paired EntR zs ys ∧ s.heap.DictOfH (nestedKind X.prog X.w) D ys := by
  obtain ⟨⟨q0, q1, ys, q2, o, es, ep, q3, q4, q5, q6, q7⟩, _⟩ := I.hok D _ hD
  refine ⟨q0, q1, ys, q2, o, es, ep, q3, q4, q5, q6, fun y hy => ?_, q7⟩
  have all : ∀ {zs : List Ent} {ys : List (NestedKey × Addr × Value)}, Paired EntR zs ys → (∀ z ∈ zs, KeyAt X.K H z.1 z.2.1) → ∀ y ∈ ys, (nestedKind X.prog X.w).is s.heap y.1 y.2.1 := by
    intro zs ys hp
    induction hp with
    | nil => intro _ y hy; cases hy
    | @cons z y _ _ r t ih =>
      intro hz y' hy
      rcases List.mem_cons.mp hy with rfl | hy
      · rw [← r.1, ← r.2.1]
        exact key_at I (hz z List.mem_cons_self)
      · exact ih (fun z hz' => hz z (List.mem_cons_of_mem _ hz')) y' hy
  exact all q2 hz y hy
/-- k in d -/
def rInK (K : PySem.W.Frag) (P : Program) (w : World) (neg : Bool) : R2 := fun x y H Q => ∃ a D zs k, x = .ref a ∧ y = .ref D ∧ H D = some (dictN P w zs D) ∧ (∀ z ∈ zs, KeyAt K H z.1 z.2.1) ∧ KeyAt K H k a ∧ Q (.bl (neg != (atN zs k).isSome)) H
/-- d[k], k being there -/
def rIxK (K : PySem.W.Frag) (P : Program) (w : World) : R2 := fun x y H Q => ∃ a D zs k b v, x = .ref D ∧ y = .ref a ∧ H D = some (dictN P w zs D) ∧ (∀ z ∈ zs, KeyAt K H z.1 z.2.1) ∧ KeyAt K H k a ∧ atN zs k = some (b, v) ∧ Q v H
theorem op_inK (hu : X.A.units + 64 < cLine) : OpR X (compareOp .In) (rInK X.K X.prog X.w false) := by
  intro pins s σ H x y v u Q I rx ry ⟨a, D, zs, k, ex, ey, hD, hz, hk, q⟩
  subst ex ey
  obtain rfl : v = Value.ref a := rx
  obtain rfl : u = Value.ref D := ry
  obtain ⟨q0, _, ys, rel, dd⟩ := dict_at I hD hz
  refine wpAny_in_heap (show X.A.in1.units + 8 < cLine by rw [Around.in1_units]; omega) (key_at I hk) q0 dd ?_
  have e : (atKey ys k).isSome = (atN zs k).isSome := by
    rcases atN_rel rel k with ⟨e1, e2⟩ | ⟨a, v, u, e1, e2, _⟩
    · rw [e1, e2]; rfl
    · rw [e1, e2]; rfl
  rw [e]
  exact ⟨.bl _, H, I.tok _, rfl, by simpa using q⟩
theorem op_notInK (hu : X.A.units + 64 < cLine) : OpR X (compareOp .NotIn) (rInK X.K X.prog X.w true) := by
  intro pins s σ H x y v u Q I rx ry ⟨a, D, zs, k, ex, ey, hD, hz, hk, q⟩
  subst ex ey
  obtain rfl : v = Value.ref a := rx
  obtain rfl : u = Value.ref D := ry
  obtain ⟨q0, _, ys, rel, dd⟩ := dict_at I hD hz
  refine notIn_keyed (show X.A.in1.units + 8 < cLine by rw [Around.in1_units]; omega) (key_at I hk) q0 ⟨ys, dd, rfl⟩ ?_
  have e : (valueAt (pairsH ys) k).isSome = (atN zs k).isSome := by
    rw [valueAt_pairsH, Option.isSome_map]
    rcases atN_rel rel k with ⟨e1, e2⟩ | ⟨a, v, u, e1, e2, _⟩
    · rw [e1, e2]; rfl
    · rw [e1, e2]; rfl
  rw [e]
  exact ⟨.bl _, H, I.tok _, rfl, by simpa using q⟩
theorem p_ixNK {o i : Expr} {td ty : TE} {pos : Pos} (K : PySem.W.Frag) (P : Program) (w : World) (hu : X.A.units + 64 < cLine) (ho : PE X o td) (hi : PE X i ty) (hs : NoSl i) (hK : X.K = K := by rfl) (hP : X.prog = P := by rfl) (hw : X.w = w := by rfl) : PE X (.Subscript o i pos) (tOp (rIxK K P w) td ty) := by
  subst hK; subst hP; subst hw
  refine ⟨fun pins s σ H Q I h => ?_⟩
  refine subD_of PySem.F.slot_dict_getitem.lookup hs (thn (ho.run pins s σ H _ I h) fun u s1 ⟨x, H1, I1, rx, q1⟩ => thn (hi.run pins s1 σ H1 _ I1 q1) fun iv s2 ⟨y, H2, I2, ry, q2⟩ => ?_)
  obtain ⟨a, D, zs, k, b, v, ex, ey, hD, hz, hk, hv, q⟩ := q2
  subst ex ey
  obtain rfl : u = Value.ref D := rx
  obtain rfl : iv = Value.ref a := ry
  obtain ⟨_, _, ys, rel, dd⟩ := dict_at I2 hD hz
  refine ⟨dd.typeIs, ?_⟩
  rcases atN_rel rel k with ⟨e1, _⟩ | ⟨a', v', u', e1, e2, r⟩
  · rw [e1] at hv; cases hv
  · rw [e1] at hv
    cases hv
    exact wpAny_getItem_heap (show X.A.in1.units + 8 < cLine by rw [Around.in1_units]; omega) (key_at I2 hk) dd e2 ⟨v, H2, I2.tok _, r, q⟩
/-- d[k] = v by a comprehension -/
theorem dset {Q : Unit → Shared → Prop} {A : Around} (hu : A.units + 64 < cLine) (I : Inv X pins σ H s) (hD : H D = some (dictN X.prog X.w zs D)) (hz : ∀ z ∈ zs, KeyAt X.K H z.1 z.2.1) (hk : KeyAt X.K H k a) (r : RelV v u) (hl : zs.length < 100000)
    (h : ∀ s', Inv X pins σ (upd H D (dictN X.prog X.w (putN zs k a v) D)) s' → Q () s') : wpAny (model X.prog X.w) A (dictSet D (.ref a) u) Q E s := by
  obtain ⟨q0, _, ys, rel, dd⟩ := dict_at I hD hz
  have hyl : ys.length ≤ sizeLine := by rw [← rel.length, sizeLine_eq]; omega
  refine wpAny_dictSet_heap (show A.units + 8 < cLine by omega) (key_at I hk) dd (fun h' dd' sb => h _ ?_) hyl
  obtain ⟨o, es, ep, g1, g2, g3, g4, _, g6⟩ := dd'
  refine d_write I (by rw [hD]; exact True.intro) sb ⟨o, g1⟩ (dictN_new ⟨q0, ?_, _, put_rel rel r, o, es, ep, g1, g2, g3, g4, g6⟩)
  have := putN_len (k := k) (a := a) (v := v) (zs := zs)
  omega
end
end Sn

/-! Sn7: {k: v for ..} with nested keys. -/
namespace Sn
open PySem PySem.Spec PyProof.Rows L2 SlX StX Rs Ma
/-- what a turn of such a comprehension needs and leaves -/
def Turn (K : PySem.W.Frag) (P : Program) (w : World) (tt : TT) (tk tv : TE) (D : Addr) (Nx : Hp → Prop) : L2.St → Hp → Prop := fun τ H2 => tt τ H2 fun b H3 =>
  if b = true then tk τ H3 fun y H4 => tv τ H4 fun z H5 => ∃ a zs k, y = .ref a ∧ H5 D = some (dictN P w zs D) ∧ (∀ e ∈ zs, KeyAt K H5 e.1 e.2.1) ∧ KeyAt K H5 k a ∧ zs.length < 100000 ∧ Nx (upd H5 D (dictN P w (putN zs k a z) D)) else Nx H3
def tDcK (K : PySem.W.Frag) (P : Program) (w : World) (wi : TI) (g : TG) (tt : TT) (tk tv : TE) (vs : List Nat) : TE := fun σ H Q => wi σ H fun J H1 => ∀ D, H1 D = none → ∃ W : Nat → Nat → Hp → Prop, (∃ m, W 0 m (upd H1 D (dictN P w [] D))) ∧ ∀ i m H, W i m H →
  (J.stop i H ∧ Q (.ref D) H) ∨ (J.go i H ∧ ∃ Nx : Hp → Prop, (∀ H', Nx H' → ∃ m', m' < m ∧ W (i + 1) m' H') ∧ ∀ x H', J.yld i H x H' → g x (wipe σ vs) H' fun τ H2 => wipe τ vs = wipe σ vs ∧ Turn K P w tt tk tv D Nx τ H2)
section
variable {X : Cx}
theorem pe_dcK {kx vx tg iter : Expr} {ifs : List Expr} {scope : Scope} {own : List (Str × Nat)} {pos : Pos} {wi : TI} {g : TG} {tt : TT} {tk tv : TE} (calm' : X.calm = true) (hu : X.A.units + 64 < cLine) (hN : X.N.Nodup) (pi : PI X tg iter wi) (blk : BlkOk X.N X.env.scope scope own)
    (pg : ∀ (s : Shared) (H : Hp) (C : Addr) (cl : List (Str × Addr)) (fp : List Addr), PG (X.blk s H scope (compEnvC scope cl C X.env) fp) tg g) (pt : ∀ (s : Shared) (H : Hp) (C : Addr) (cl : List (Str × Addr)) (fp : List Addr), PTs (X.blk s H scope (compEnvC scope cl C X.env) fp) ifs tt)
    (pk : ∀ (s : Shared) (H : Hp) (C : Addr) (cl : List (Str × Addr)) (fp : List Addr), PE (X.blk s H scope (compEnvC scope cl C X.env) fp) kx tk)
    (pv : ∀ (s : Shared) (H : Hp) (C : Addr) (cl : List (Str × Addr)) (fp : List Addr), PE (X.blk s H scope (compEnvC scope cl C X.env) fp) vx tv) (nofold : ∀ x, foldedSetIterable iter X.env x = pure x := by intro _; rfl) :
    PE X (.DictComp kx vx [⟨tg, iter, ifs, 0⟩] scope pos) (tDcK X.K X.prog X.w wi g tt tk tv (own.map (·.2))) := by
  refine ⟨fun pins s σ H Q I h => ?_⟩
  rw [arm_eval_DictComp]
  have caught : ∀ y ∈ scope.names, y.2 = .free → ∃ c, X.env.cells.lookup y.1 = some c := fun y hy e => (blk.free y hy e).elim (fun k => I.ok.has _ (.inl k)) fun k => I.ok.has _ (.inr k)
  refine wpAny_comprehension_free (use := none) rfl nofold (closure_ok caught) blk.kind (fun y hy e => by rw [blk.uniq y hy, e]) (thn (pi.run pins s σ H _ I h) fun xv s1 hx => thn hx fun itv s2 h2 => ?_)
  obtain ⟨it, fp, tn, J, H2, rfl, I2, T, st2, fresh, body⟩ := h2
  refine wpAny_newObj_type (newEnv_comp ?_)
  -- the new dict at D
  obtain ⟨D, hD⟩ : ∃ D, D = s2.heap.objs.size := ⟨_, rfl⟩
  rw [← hD]
  have hn : H2 D = none := I2.hok.fresh (Nat.le_of_eq hD.symm)
  obtain ⟨W, ⟨m0, w0⟩, turns⟩ := body D hn
  obtain ⟨s3, hs3⟩ : ∃ s3 : Shared, s3 = { s2 with heap := s2.heap.push { cls := .type "dict", data := .dict #[] } } := ⟨_, rfl⟩
  rw [← hs3]
  have heap3 : s3.heap = s2.heap.push { cls := .type "dict", data := .dict #[] } := by rw [hs3]
  have I3 : Inv X pins σ (upd H2 D (dictN X.prog X.w [] D)) s3 := by
    rw [hs3]
    refine I2.laid (t' := s2.toks) (fun b o e => Heap.get?_push_of_some _ e) (Nat.le_of_eq hD.symm) ?_
    rw [hD]
    exact dictN_new (d0_new I2.big)
  obtain ⟨H3, hH3⟩ : ∃ H3, H3 = upd H2 D (dictN X.prog X.w [] D) := ⟨_, rfl⟩
  rw [← hH3] at I3 w0
  have below : ∀ b ∈ fp, b < s2.heap.objs.size := fun b hb => by
    obtain ⟨o, e, _⟩ := T.obj _ _ st2 b hb
    exact Heap.lt_size e
  have fp3 : ∀ b ∈ fp, FpOk X pins H3 b ∧ b < s3.heap.objs.size := fun b hb => by
    have lt := below b hb
    refine ⟨⟨?_, (fresh b hb).2⟩, by rw [heap3, Heap.size_push]; exact Nat.lt_succ_of_lt lt⟩
    rw [hH3, upd_ne (by rw [hD]; exact Nat.ne_of_lt lt)]
    exact (fresh b hb).1
  have st3 : tn 0 s3.heap := T.keep _ _ _ st2 fun b _ o e => by rw [heap3]; exact Heap.get?_push_of_some _ e
  have I4 := block_start I3 blk hN fp3
  have pg := pg s3 H3 s3.heap.objs.size (cellsFrom (s3.heap.objs.size + 1) scope.names (cloFrom X.env.cells scope.names [])) fp
  have pt := pt s3 H3 s3.heap.objs.size (cellsFrom (s3.heap.objs.size + 1) scope.names (cloFrom X.env.cells scope.names [])) fp
  have pk := pk s3 H3 s3.heap.objs.size (cellsFrom (s3.heap.objs.size + 1) scope.names (cloFrom X.env.cells scope.names [])) fp
  have pv := pv s3 H3 s3.heap.objs.size (cellsFrom (s3.heap.objs.size + 1) scope.names (cloFrom X.env.cells scope.names [])) fp
  show codeAny _ _ (.compStart (.DictComp kx vx [⟨tg, iter, ifs, 0⟩] scope pos) 0 (.ref it) (.ref D) (compEnvC scope (cellsFrom (s3.heap.objs.size + 1) scope.names (cloFrom X.env.cells scope.names [])) s3.heap.objs.size X.env)) (compPost (model X.prog X.w) X.A X.xe none (EP X pins σ Q) (.ref D) s3.heap.objs.size) { s3 with heap := pushCells (s3.heap.push { cls := .type "dict", data := .dict #[] }) scope.names }
  obtain ⟨ce, hce⟩ : ∃ ce, ce = compEnvC scope (cellsFrom (s3.heap.objs.size + 1) scope.names (cloFrom X.env.cells scope.names [])) s3.heap.objs.size X.env := ⟨_, rfl⟩
  have cloc : ce.locals = s3.heap.objs.size := by rw [hce]; rfl
  rw [← hce] at I4 pg pt pk pv ⊢
  obtain ⟨s4, hs4⟩ : ∃ s4 : Shared, s4 = { s3 with heap := pushCells (s3.heap.push { cls := .type "dict", data := .dict #[] }) scope.names } := ⟨_, rfl⟩
  rw [← hs4] at I4 ⊢
  have st4 : tn 0 s4.heap := T.keep _ _ _ st3 fun b _ o e => by rw [hs4]; exact pushCells_keeps _ _ _ _ (Heap.get?_push_of_some _ e)
  have fp4 : ∀ b ∈ fp, H3 b = none := fun b hb => (fp3 b hb).1.1
  have foot : ∀ {τ : L2.St} {H' : Hp} {s' : Shared}, Inv (X.blk s3 H3 scope ce fp) [] τ H' s' → (∀ b ∈ fp, H' b = none) → ∀ b ∈ fp, FpOk (X.blk s3 H3 scope ce fp) [] H' b := fun I' hn b hb =>
    ⟨hn b hb, (I'.ok.exf b hb).1, I'.ok.exfs b hb, .inl hb, fun x c e => (I'.ok.exf b hb).2 x c e, fun p hp => absurd (show p ∈ ([] : List (Addr × Obj)) ++ [] from hp) (by simp)⟩
  have loop : codeAny (model X.prog X.w) X.A (.compLoop (.DictComp kx vx [⟨tg, iter, ifs, 0⟩] scope pos) 0 (.ref it) (.ref D) ce) (compPost (model X.prog X.w) X.A X.xe none (EP X pins σ Q) (.ref D) s3.heap.objs.size) s4 := by
    refine compLoop_anyD (fun n s' => ∃ i H', (Inv (X.blk s3 H3 scope ce fp) [] (wipe σ (own.map (·.2))) H' s' ∧ tn i s'.heap) ∧ (∀ b ∈ fp, H' b = none) ∧ W i n H') (fun n s5 hi => ?_) m0 ⟨0, H3, ⟨I4, st4⟩, fp4, w0⟩
    obtain ⟨i, H5, ⟨I5, st5⟩, fp5, w5⟩ := hi
    rcases turns i n H5 w5 with ⟨stop, qq⟩ | ⟨go, Nx, next, step⟩
    · refine thnF (T.done (X.blk s3 H3 scope ce fp) rfl rfl rfl calm' i [] s5 _ H5 (fun _ _ => False) I5 (foot I5 fp5) st5 stop) fun r s6 hr => ?_
      obtain ⟨rfl, I6⟩ := hr
      have I7 : Inv X pins σ H5 s6 := I3.call' (ch := fp) I6.os I6.base I6.hok I6.bare fun b hb => ⟨(fp3 b hb).1.2.2.2.1, (fp3 b hb).1.2.1, (fp3 b hb).1.2.2.2.2.1, (fp3 b hb).1.2.2.2.2.2⟩
      have freeC : H5 s3.heap.objs.size = none := by
        have z : H5 ce.locals = none := I6.free
        rwa [cloc] at z
      obtain ⟨m, hm, _⟩ := I6.loc
      have hm : s6.heap.Ns ce.locals m := hm
      rw [cloc] at hm
      refine ⟨m, hm, fun h'' sb => ?_⟩
      obtain ⟨f0, f1, f2, f3, f4, f5⟩ := I3.fpOk (Nat.le_refl _) freeC
      exact ⟨.ref D, H5, I7.turned (t' := s6.toks) (fun b o hb e => (sb.2 b hb).trans e) f0 f1 f3 f4 f5, rfl, qq⟩
    · refine thnF (T.item (X.blk s3 H3 scope ce fp) rfl rfl rfl calm' i [] s5 _ H5 (fun _ _ => False) I5 (foot I5 fp5) st5 go) fun r s6 hr => ?_
      obtain ⟨u, rfl, h6⟩ := hr
      refine thnF h6 fun _ s7 h7 => ?_
      obtain ⟨x, H7, I7, r7, y7, st7, fp7⟩ := h7
      have I7' := I7.pinned (foot I7 fp7) (T.obj _ _ st7)
      refine thnF (pg.run _ s7 _ H7 x u _ I7' r7 (step x H7 y7)) fun _ s8 h8 => ?_
      obtain ⟨τ, H8, I8, wiped, q8⟩ := h8
      refine thnF (pt.run _ s8 τ H8 _ I8 q8) fun b s9 h9 => ?_
      obtain ⟨H9, I9, q9⟩ := h9
      have ends : ∀ {s' : Shared} {H' : Hp}, Inv (X.blk s3 H3 scope ce fp) ([] ++ pinsAt fp s7.heap) τ H' s' → Nx H' → ∃ m, m < n ∧ ∃ i H', (Inv (X.blk s3 H3 scope ce fp) [] (wipe σ (own.map (·.2))) H' s' ∧ tn i s'.heap) ∧ (∀ b ∈ fp, H' b = none) ∧ W i m H' := by
        intro s' H' I' nx
        obtain ⟨m', hm, w'⟩ := next H' nx
        have pinned : ∀ b ∈ fp, ∀ o, s7.heap.get? b = some o → s'.heap.get? b = some o ∧ H' b = none := fun b hb o e =>
          ⟨(I'.pin (b, o) (List.mem_append_right _ (List.mem_append_right _ (mem_pinsAt hb e)))).1, (I'.pin (b, o) (List.mem_append_right _ (List.mem_append_right _ (mem_pinsAt hb e)))).2.1⟩
        have hlen : (wipe σ (own.map (·.2))).length = τ.length := by rw [← wiped, wipe_length]
        refine ⟨m', hm, i + 1, H', ⟨(I'.unpinned (pins := [])).weak hlen fun j v e => ?_, T.keep _ _ _ st7 fun b hb o e => (pinned b hb o e).1⟩, fun b hb => ?_, w'⟩
        · rw [← wiped] at e
          exact (wipe_some e).1
        · obtain ⟨o, e, _⟩ := T.obj _ _ st7 b hb
          exact (pinned b hb o e).2
      cases b with
      | false =>
        rw [if_neg Bool.false_ne_true] at q9 ⊢
        exact ends I9 q9
      | true =>
        rw [if_pos rfl] at q9 ⊢
        refine thnF (pk.run _ s9 τ H9 _ I9 q9) fun z s10 h10 => ?_
        obtain ⟨yk, H10, I10, r10, q10⟩ := h10
        refine thnF (pv.run _ s10 τ H10 _ I10 q10) fun z2 s11 h11 => ?_
        obtain ⟨yv, H11, I11, r11, a, zs, k, rfl, hD11, hz, hk, hl, nx⟩ := h11
        obtain rfl : z = Value.ref a := r10
        exact dset (X := X.blk s3 H3 scope ce fp) hu I11 hD11 hz hk r11 hl fun s12 I12 => ends I12 nx
  exact codeAny_compStart_dict loop (T.self X.A 0 _ _ _ st4 loop)
end
end Sn

/-! Sn8: dicts by nested keys in plain terms. -/
namespace Tw
open PySem PySem.Spec PyProof.Rows L2 SlX StX Rs Ma Sn
/-- a dict in plain terms: its pairs, as they came -/
def putA {α β : Type} [DecidableEq α] : List (α × β) → α → β → List (α × β)
  | [], a, b => [(a, b)]
  | p :: ps, a, b => if p.1 = a then (p.1, b) :: ps else p :: putA ps a b
def getA {α β : Type} [DecidableEq α] : List (α × β) → α → Option β
  | [], _ => none
  | p :: ps, a => if p.1 = a then some p.2 else getA ps a
def putsA {α β : Type} [DecidableEq α] : List (α × β) → List (α × β) → List (α × β)
  | kvs, [] => kvs
  | kvs, p :: ps => putsA (putA kvs p.1 p.2) ps
theorem getA_none {α β : Type} [DecidableEq α] {a : α} : ∀ {ps : List (α × β)}, getA ps a = none ↔ a ∉ ps.map (·.1)
  | [] => by simp [getA]
  | p :: ps => by
    unfold getA
    by_cases h : p.1 = a
    · simp [h]
    · rw [if_neg h, getA_none, List.map_cons, List.mem_cons, not_or]
      exact ⟨fun z => ⟨fun e => h e.symm, z⟩, fun z => z.2⟩
theorem putA_new {α β : Type} [DecidableEq α] {a : α} {b : β} : ∀ {ps : List (α × β)}, a ∉ ps.map (·.1) → putA ps a b = ps ++ [(a, b)]
  | [], _ => rfl
  | p :: ps, h => by
    rw [List.map_cons, List.mem_cons, not_or] at h
    rw [putA, if_neg fun e => h.1 e.symm, putA_new h.2]
    rfl
theorem putsA_new {α β : Type} [DecidableEq α] : ∀ {ps kvs : List (α × β)}, ((kvs ++ ps).map (·.1)).Nodup → putsA kvs ps = kvs ++ ps
  | [], kvs, _ => by rw [putsA, List.append_nil]
  | p :: ps, kvs, h => by
    have e : kvs ++ p :: ps = (kvs ++ [p]) ++ ps := by rw [List.append_assoc]; rfl
    have hn : p.1 ∉ kvs.map (·.1) := by
      rw [List.map_append, List.map_cons] at h
      intro z
      exact (List.nodup_append.mp h).2.2 _ z _ List.mem_cons_self rfl
    rw [putsA, putA_new hn, putsA_new (by rw [← e]; exact h), ← e]
/-- the entries say these pairs -/
def EntAll (K : PySem.W.Frag) {α β : Type} (d : α → PyData) {n : Nat} [c : Keyd d n] (R : β → VP) : List Ent → List (α × β) → Hp → Prop
  | [], [], _ => True
  | z :: zs, p :: ps, F => (z.1 = c.key p.1 ∧ KeyAt K F z.1 z.2.1 ∧ R p.2 z.2.2 F) ∧ EntAll K d R zs ps F
  | _, _, _ => False
section
variable {K : PySem.W.Frag} {P : Program} {w : World} {α β : Type} [DecidableEq α] {d : α → PyData} {n : Nat} [c : Keyd d n] {R : β → VP} {F F' : Hp}
theorem keyAt_up {k : NestedKey} {a : Addr} (e : Same F F') (h : KeyAt K F k a) : KeyAt K F' k a := ⟨dp_up e h.1, h.2⟩
theorem entAll_up [∀ b, Mono (R b)] (e : Same F F') : ∀ {zs : List Ent} {ps : List (α × β)}, EntAll K d R zs ps F → EntAll K d R zs ps F'
  | [], [], _ => True.intro
  | z :: zs, p :: ps, ⟨⟨h1, h2, h3⟩, h4⟩ => ⟨⟨h1, keyAt_up e h2, Mono.mono _ _ _ e h3⟩, entAll_up e h4⟩
  | [], _ :: _, h => h.elim
  | _ :: _, [], h => h.elim
theorem entAll_len : ∀ {zs : List Ent} {ps : List (α × β)}, EntAll K d R zs ps F → zs.length = ps.length
  | [], [], _ => rfl
  | z :: zs, p :: ps, h => by rw [List.length_cons, List.length_cons, entAll_len h.2]
  | [], _ :: _, h => h.elim
  | _ :: _, [], h => h.elim
theorem entAll_keys : ∀ {zs : List Ent} {ps : List (α × β)}, EntAll K d R zs ps F → ∀ z ∈ zs, KeyAt K F z.1 z.2.1
  | [], [], _, z, hz => nomatch hz
  | z :: zs, p :: ps, h, y, hy => by
    rcases List.mem_cons.mp hy with rfl | hy
    · exact h.1.2.1
    · exact entAll_keys h.2 y hy
  | [], _ :: _, h, _, _ => h.elim
  | _ :: _, [], h, _, _ => h.elim
theorem entAll_get : ∀ {zs : List Ent} {ps : List (α × β)}, EntAll K d R zs ps F → ∀ a, (getA ps a = none ∧ atN zs (c.key a) = none) ∨ ∃ b x v, getA ps a = some b ∧ atN zs (c.key a) = some (x, v) ∧ R b v F
  | [], [], _, a => .inl ⟨rfl, rfl⟩
  | z :: zs, p :: ps, ⟨⟨h1, h2, h3⟩, h4⟩, a => by
    by_cases h : p.1 = a
    · refine .inr ⟨p.2, z.2.1, z.2.2, by rw [getA, if_pos h], ?_, h3⟩
      unfold atN
      rw [List.find?_cons_of_pos (by rw [h1, h]; simp)]
      rfl
    · have ne : ¬ z.1 = c.key a := fun e => h (c.inj _ _ (by rw [← h1, e]))
      have e1 : atN (z :: zs) (c.key a) = atN zs (c.key a) := by
        unfold atN
        rw [List.find?_cons_of_neg (by simpa using ne)]
      rw [getA, if_neg h, e1]
      exact entAll_get h4 a
  | [], _ :: _, h, _ => h.elim
  | _ :: _, [], h, _ => h.elim
theorem atN_cons_ne {z : Ent} {zs : List Ent} {k : NestedKey} (h : ¬ z.1 = k) : atN (z :: zs) k = atN zs k := by
  unfold atN
  rw [List.find?_cons_of_neg (by simpa using h)]
theorem atN_cons_eq {z : Ent} {zs : List Ent} {k : NestedKey} (h : z.1 = k) : atN (z :: zs) k = some (z.2.1, z.2.2) := by
  unfold atN
  rw [List.find?_cons_of_pos (by simpa using h)]
  rfl
theorem putN_cons_ne {z : Ent} {zs : List Ent} {k : NestedKey} {a : Addr} {v : V} (h : ¬ z.1 = k) : putN (z :: zs) k a v = z :: putN zs k a v := by
  unfold putN
  rw [atN_cons_ne h]
  split
  · rw [List.map_cons, if_neg h]
  · rfl
theorem set_same {zs : List Ent} {k : NestedKey} {v : V} (h : k ∉ zs.map (·.1)) : zs.map (fun z => if z.1 = k then (z.1, z.2.1, v) else z) = zs := by
  induction zs with
  | nil => rfl
  | cons z zs ih =>
    rw [List.map_cons, List.mem_cons, not_or] at h
    rw [List.map_cons, ih h.2, if_neg fun e => h.1 e.symm]
theorem entAll_fst : ∀ {zs : List Ent} {ps : List (α × β)}, EntAll K d R zs ps F → zs.map (·.1) = (ps.map (·.1)).map c.key
  | [], [], _ => rfl
  | z :: zs, p :: ps, h => by rw [List.map_cons, List.map_cons, List.map_cons, entAll_fst h.2, h.1.1]
  | [], _ :: _, h => h.elim
  | _ :: _, [], h => h.elim
theorem entAll_put {a : α} {b : β} {x : Addr} {v : V} (hk : KeyAt K F (c.key a) x) (hb : R b v F) : ∀ {zs : List Ent} {ps : List (α × β)}, EntAll K d R zs ps F → (ps.map (·.1)).Nodup → EntAll K d R (putN zs (c.key a) x v) (putA ps a b) F
  | [], [], _, _ => ⟨⟨rfl, hk, hb⟩, True.intro⟩
  | z :: zs, p :: ps, ⟨⟨h1, h2, h3⟩, h4⟩, hn => by
    rw [List.map_cons, List.nodup_cons] at hn
    by_cases h : p.1 = a
    · have e : z.1 = c.key a := by rw [h1, h]
      have no : c.key a ∉ zs.map (·.1) := by
        rw [entAll_fst h4]
        intro y
        obtain ⟨a', ha, ea⟩ := List.mem_map.mp y
        rw [c.inj _ _ ea, ← h] at ha
        exact hn.1 ha
      unfold putN
      rw [atN_cons_eq e, putA, if_pos h, Option.isSome_some, if_pos rfl, List.map_cons, if_pos e, set_same no]
      exact ⟨⟨h1, h2, hb⟩, h4⟩
    · have ne : ¬ z.1 = c.key a := fun e => h (c.inj _ _ (by rw [← h1, e]))
      rw [putN_cons_ne ne, putA, if_neg h]
      exact ⟨⟨h1, h2, h3⟩, entAll_put hk hb h4 hn.2⟩
  | [], _ :: _, h, _ => h.elim
  | _ :: _, [], h, _ => h.elim
theorem putA_nodup {a : α} {b : β} : ∀ {ps : List (α × β)}, (ps.map (·.1)).Nodup → ((putA ps a b).map (·.1)).Nodup ∧ ∀ x, x ∈ (putA ps a b).map (·.1) → x = a ∨ x ∈ ps.map (·.1)
  | [], _ => ⟨by simp [putA], fun x hx => by simp [putA] at hx; exact .inl hx⟩
  | p :: ps, h => by
    rw [List.map_cons, List.nodup_cons] at h
    unfold putA
    split
    · rename_i e
      exact ⟨by rw [List.map_cons]; exact List.nodup_cons.mpr h, fun x hx => .inr hx⟩
    · rename_i e
      obtain ⟨h1, h2⟩ := putA_nodup (a := a) (b := b) h.2
      refine ⟨by rw [List.map_cons]; exact List.nodup_cons.mpr ⟨fun z => (h2 _ z).elim (fun q => e q) h.1, h1⟩, fun x hx => ?_⟩
      rw [List.map_cons, List.mem_cons] at hx
      rcases hx with rfl | hx
      · exact .inr List.mem_cons_self
      · exact (h2 x hx).imp id (List.mem_cons_of_mem _)
end
/-- a dict that stays -/
def fDK (K : PySem.W.Frag) (P : Program) (w : World) {α β : Type} [DecidableEq α] (d : α → PyData) {n : Nat} [c : Keyd d n] (R : β → VP) : List (α × β) → VP := fun kvs v F => ∃ D zs, v = .ref D ∧ F D = some (dictN P w zs D) ∧ EntAll K d R zs kvs F
instance {K : PySem.W.Frag} {P : Program} {w : World} {α β : Type} [DecidableEq α] {d : α → PyData} {n : Nat} [Keyd d n] {R : β → VP} [∀ b, Mono (R b)] {kvs : List (α × β)} : Mono (fDK K P w d R kvs) := ⟨fun _ _ _ e ⟨D, zs, h, h1, r⟩ => ⟨D, zs, h, e _ _ h1, entAll_up e r⟩⟩
theorem wipe_idem {σ : L2.St} {vs : List Nat} : wipe (wipe σ vs) vs = wipe σ vs := by
  have same : ∀ (vs : List Nat) (i : Nat), i ∉ vs → (wipe σ vs)[i]? = σ[i]? := by
    intro vs
    induction vs with
    | nil => intro i _; rfl
    | cons v vs ih =>
      intro i hi
      rw [List.mem_cons, not_or] at hi
      rw [wipe, List.getElem?_set_ne (fun z => hi.1 z.symm), ih i hi.2]
  exact wipe_agree (js := vs) (wipe_length _ _) (fun i hi => same vs i hi) (by rw [List.all_eq_true]; intro x hx; simpa using hx)
section
variable {ε α β γ δ : Type} {Z : Wsh ε} {ρ : List (Option VP)} {κ : List Ow} {K : PySem.W.Frag} {P : Program} {w : World} {tk tv : TE} {tt : TT} {wi : TI} {g : TG} {n : Nat} {d : α → PyData} [DecidableEq α] [c : Keyd d n] {Rb : β → VP} {R : β → VP}
theorem dc_it {J : It} {n : Nat} {G : Hp → Prop} {Y : Nat → Hp → V → Hp → Prop} (wk : Walk J n G Y) {g : TG} {tt : TT} {tk tv : TE} {vs : List Nat} {σ : L2.St} {H1 : Hp} {D : Addr} {Qd : Hp → Prop} (Pv : Nat → Hp → Prop) (h0 : Pv 0 (upd H1 D (dictN P w [] D))) (hG : ∀ i H, i ≤ n → Pv i H → G H)
    (hs : ∀ i x H H', i < n → Pv i H → Y i H x H' → g x (wipe σ vs) H' fun τ H2 => wipe τ vs = wipe σ vs ∧ Turn K P w tt tk tv D (Pv (i + 1)) τ H2) (hd : ∀ H, Pv n H → Qd H) :
    ∃ W : Nat → Nat → Hp → Prop, (∃ m, W 0 m (upd H1 D (dictN P w [] D))) ∧ ∀ i m H, W i m H →
      (J.stop i H ∧ Qd H) ∨ (J.go i H ∧ ∃ Nx : Hp → Prop, (∀ H', Nx H' → ∃ m', m' < m ∧ W (i + 1) m' H') ∧ ∀ x H', J.yld i H x H' → g x (wipe σ vs) H' fun τ H2 => wipe τ vs = wipe σ vs ∧ Turn K P w tt tk tv D Nx τ H2) := by
  refine ⟨fun i m H => i + m = n ∧ Pv i H, ⟨n, Nat.zero_add _, h0⟩, fun i m H hi => ?_⟩
  obtain ⟨him, p⟩ := hi
  have q := hG i H (by omega) p
  cases m with
  | zero =>
    obtain rfl : i = n := him
    exact .inl ⟨wk.stops H q, hd H p⟩
  | succ m => exact .inr ⟨wk.goes i H (by omega) q, Pv (i + 1), fun H' p' => ⟨m, Nat.lt_succ_self _, by omega, p'⟩, fun x H' y => hs i x H H' (by omega) p (wk.yields i H x H' (by omega) q y)⟩
/-- {k: v for ..}: the pairs one behind the other -/
theorem tr_dc {vs js : List Nat} {up : γ → List (Option VP) → List (Option VP)} {mi : Wm ε (List γ)} {mc : γ → Wm ε Bool} {mk : γ → Wm ε (List α)} {mv : γ → Wm ε β} {Rx : γ → VP} [∀ b, Mono (Rb b)] (hn : n ≤ 7) (hi : TrI Z ρ κ wi mi Rx) (hg : TrG g Rx js up) (hj : (js.all fun j => vs.contains j) = true) (fc : freeCs vs κ = true) (fj : freeCs js κ = true)
    (hlen : ∀ x, (up x (wipeE ρ vs)).length = ρ.length) (hc : ∀ x, TrT Z (up x (wipeE ρ vs)) κ tt (mc x)) (hk : ∀ x, TrE Z (up x (wipeE ρ vs)) κ tk (mk x) (fD K (dT d))) (hv : ∀ x, TrE Z (up x (wipeE ρ vs)) κ tv (mv x) Rb) :
    TrE Z ρ κ (tDcK K P w wi g tt tk tv vs) (fun Q X => mi (fun xs => xs.length ≤ 40000 ∧ lcW mc (fun x Q X => mk x (fun a => mv x (fun b => Q (a, b)) X) X) xs (fun ps => Q (putsA [] ps)) X) X) (fDK K P w (dT d) Rb) :=
  ⟨inferInstance, fun σ F L s cc Q X q F1 N H e A wsh Qk qk => hi.run σ F L s cc _ X q F1 N H e A wsh _ fun J F2 H2 e2 A2 ⟨xs, ⟨hz, q1⟩, ⟨G, Y, wk, hG, hY⟩⟩ D hD => by
    have hl := sat_len s
    rw [List.length_map] at wk
    refine dc_it wk (Qd := fun H => Qk (.ref D) H) (fun i H' => ∃ F' zs kvs, Same F2 F' ∧ At F' ((D, dictN P w zs D) :: (L ++ N)) H' ∧ EntAll K (dT d) Rb zs kvs F' ∧ (kvs.map (·.1)).Nodup ∧ zs.length ≤ i ∧ lcW mc (fun x Q X => mk x (fun a => mv x (fun b => Q (a, b)) X) X) (xs.drop i) (fun ps => Q (putsA kvs ps)) X)
      ⟨F2, [], [], Same.refl _, A2.cell hD, True.intro, List.nodup_nil, Nat.le_refl _, q1⟩ (fun i H' _ ⟨F', zs, kvs, e', A', _⟩ => hG F' _ H' e' A') ?_ ?_
    · rintro i x H3 H4 hi ⟨F', zs, kvs, e', A', hent, hnd, hzl, q2⟩ y
      obtain ⟨F3, R, e3, A3, hR, hx⟩ := hY F' _ H3 i x H4 e' A' (by rw [List.length_map]; exact hi) y
      rw [List.getElem?_map, List.getElem?_eq_getElem hi] at hR
      cases hR
      rw [drop_at (List.getElem?_eq_getElem hi), lcW] at q2
      have P0 : ((D, dictN P w zs D) :: (L ++ N)).Perm (L ++ ((D, dictN P w zs D) :: N)) := List.perm_middle.symm
      have e13 : Same F F3 := ((e.trans e2).trans e').trans e3
      have s3 := satV_up e13 s
      have c3 := satC_up e13 cc
      have w3 : WishOk Z F3 ((D, dictN P w zs D) :: N) X := (wsh.up ((e2.trans e').trans e3)).push1
      refine hg.run xs[i] x (wipe σ vs) F3 (wipeE ρ vs) _ H4 (satV_wipe s3 vs) hx A3 _ fun τ ag s4 => ⟨?_, ?_⟩
      · rw [wipe_agree (by rw [← sat_len s4, hlen, wipe_length, hl]) ag hj]
        exact wipe_idem
      · have c4 : SatC κ τ F3 L := satC_agree ag fj (satC_wipe c3 fc)
        refine (hc xs[i]).run τ F3 L s4 c4 _ X q2 F3 _ H4 (Same.refl _) (A3.perm P0) w3 _ fun b F5 H5 e5 A5 q5 => ?_
        cases b with
        | false =>
          rw [if_neg Bool.false_ne_true] at q5
          exact iteF ⟨F5, zs, kvs, (e'.trans e3).trans e5, A5.perm P0.symm, entAll_up (e3.trans e5) hent, hnd, Nat.le_succ_of_le hzl, q5⟩
        | true =>
          rw [if_pos rfl] at q5
          refine iteT ?_
          refine (hk xs[i]).run τ F5 L (satV_up e5 s4) (satC_up e5 c4) _ X q5 F5 _ H5 (Same.refl _) A5 (w3.up e5) _ fun y F6 H6 e6 A6 ⟨a, q6, hy⟩ => ?_
          refine (hv xs[i]).run τ F6 L (satV_up (e5.trans e6) s4) (satC_up (e5.trans e6) c4) _ X q6 F6 _ H6 (Same.refl _) A6 ((w3.up e5).up e6) _ fun z F7 H7 e7 A7 ⟨b, q7, hz7⟩ => ?_
          have A8 := A7.perm P0.symm
          have hent7 := entAll_up (((e3.trans e5).trans e6).trans e7) hent
          obtain ⟨ad, rfl⟩ : ∃ ad, y = V.ref ad := by
            have hy' : Dt K (.tuple (a.map d)) y F6 := hy
            cases hy' with
            | tup _ _ => exact ⟨_, rfl⟩
          have kat : KeyAt K F7 ((keydT (c := c)).key a) ad := ⟨by rw [(keydT (c := c)).ok]; exact dp_up e7 hy, Nat.le_trans ((keydT (c := c)).dep a) (by omega)⟩
          refine ⟨ad, zs, (keydT (c := c)).key a, rfl, A8.on1, fun z hz => keyAt_up A7.ex (entAll_keys hent7 z hz), keyAt_up A7.ex kat, by omega, F7, putN zs ((keydT (c := c)).key a) ad z, putA kvs a b, (((e'.trans e3).trans e5).trans e6).trans e7, A8.put, entAll_put kat hz7 hent7 hnd, (putA_nodup hnd).1, ?_, q7⟩
          have := putN_len (k := (keydT (c := c)).key a) (a := ad) (v := z) (zs := zs)
          omega
    · rintro H3 ⟨F', zs, kvs, e', A', hent, hnd, hzl, q2⟩
      rw [List.drop_length, lcW, putsA] at q2
      exact qk _ _ _ ((e2.trans e').trans (same_new A'.off1)) A'.keep ⟨kvs, q2, D, zs, rfl, upd_same, entAll_up (same_new A'.off1) hent⟩⟩
/-- k in d -/
theorem o_inDK (hn : n ≤ 7 := by decide) [∀ b, Mono (Rb b)] : Op2 ε (rInK K P w false) (fD K (dT d)) (fDK K P w (dT d) Rb) (fun a kvs => pur (getA kvs a).isSome) (fD K dB) := op_pur fun a kvs x y F L hx ⟨D, zs, ey, hD, he⟩ => fun F1 N H e A Qk qk => by
  subst ey
  have hx' : Dt K (.tuple (a.map d)) x F := hx
  cases hx' with
  | @tup ad xs ds hs ha =>
    refine ⟨ad, D, zs, (keydT (c := c)).key a, rfl, rfl, A.ex _ _ (e _ _ hD), fun z hz => keyAt_up (e.trans A.ex) (entAll_keys he z hz), keyAt_up (e.trans A.ex) ⟨by rw [(keydT (c := c)).ok]; exact hx, Nat.le_trans ((keydT (c := c)).dep a) (by omega)⟩, qk _ F1 H (Same.refl _) A ?_⟩
    have q : (atN zs ((keydT (c := c)).key a)).isSome = (getA kvs a).isSome := by
      rcases entAll_get he a with ⟨e1, e2⟩ | ⟨b, x, v, e1, e2, _⟩
      · rw [e1, e2]; rfl
      · rw [e1, e2]; rfl
    rw [q]
    show Dp K F1 (.bl (false != (getA kvs a).isSome)) (.bool (getA kvs a).isSome)
    rw [Bool.false_bne]
    exact .bl _
theorem o_notInDK (hn : n ≤ 7 := by decide) [∀ b, Mono (Rb b)] : Op2 ε (rInK K P w true) (fD K (dT d)) (fDK K P w (dT d) Rb) (fun a kvs => pur (!(getA kvs a).isSome)) (fD K dB) := op_pur fun a kvs x y F L hx ⟨D, zs, ey, hD, he⟩ => fun F1 N H e A Qk qk => by
  subst ey
  have hx' : Dt K (.tuple (a.map d)) x F := hx
  cases hx' with
  | @tup ad xs ds hs ha =>
    refine ⟨ad, D, zs, (keydT (c := c)).key a, rfl, rfl, A.ex _ _ (e _ _ hD), fun z hz => keyAt_up (e.trans A.ex) (entAll_keys he z hz), keyAt_up (e.trans A.ex) ⟨by rw [(keydT (c := c)).ok]; exact hx, Nat.le_trans ((keydT (c := c)).dep a) (by omega)⟩, qk _ F1 H (Same.refl _) A ?_⟩
    have q : (atN zs ((keydT (c := c)).key a)).isSome = (getA kvs a).isSome := by
      rcases entAll_get he a with ⟨e1, e2⟩ | ⟨b, x, v, e1, e2, _⟩
      · rw [e1, e2]; rfl
      · rw [e1, e2]; rfl
    rw [q]
    show Dp K F1 (.bl (true != (getA kvs a).isSome)) (.bool (!(getA kvs a).isSome))
    rw [Bool.true_bne]
    exact .bl _
/-- d[k] -/
theorem o_ixDK (hn : n ≤ 7 := by decide) [∀ b, Mono (Rb b)] : Op2 ε (rIxK K P w) (fDK K P w (dT d) Rb) (fD K (dT d)) (fun kvs a Q X => ∃ b, getA kvs a = some b ∧ Q b) Rb := ⟨fun kvs a x y F L ⟨D, zs, ex, hD, he⟩ hy Q X ⟨b, q0, q1⟩ => fun F1 N H e A Qk qk => by
  subst ex
  have hy' : Dt K (.tuple (a.map d)) y F := hy
  cases hy' with
  | @tup ad xs ds hs ha =>
    rcases entAll_get he a with ⟨e1, e2⟩ | ⟨b', x, v, e1, e2, hr⟩
    · rw [e1] at q0; cases q0
    · rw [e1] at q0
      cases q0
      exact ⟨ad, D, zs, (keydT (c := c)).key a, x, v, rfl, rfl, A.ex _ _ (e _ _ hD), fun z hz => keyAt_up (e.trans A.ex) (entAll_keys he z hz), keyAt_up (e.trans A.ex) ⟨by rw [(keydT (c := c)).ok]; exact hy, Nat.le_trans ((keydT (c := c)).dep a) (by omega)⟩, e2, qk _ F1 H (Same.refl _) A ⟨b, q1, Mono.mono _ _ _ e hr⟩⟩⟩
end
end Tw

/-! RsW: own __getitem__, own __iter__ that hands out iter of a tuple. -/
namespace Rs
open PySem PySem.Spec PyProof.Rows L2 SlX StX Ma
section
variable {X : Cx} {CX : CXT} {C g : Addr} {n : Nat} {sp : Sp} {E : XK}
def rGetOwn (C : Addr) (sp : Sp) (E : XK) : R2 := fun x y H Q => ∃ a dx vs, x = V.ref a ∧ Slt H a C dx vs ∧ sp [.ref a, y] H Q E
theorem p_getOwn {o i : Expr} {ta ti : TE} {pos : Pos} (hs : PySem.W.findIn X.K (.ref C) "__getitem__" = some (some (.ref g))) (hk : PySem.W.fnIn X.K g = true) (hf : PySem.W.isFn X.K (.ref g) = true) (F : FnR X.prog X.w X.K X.mg X.base CX n g sp) (hr : Room (n + 1) X.A) (hx : Passes CX X E) (ho : PE X o ta) (hi : PE X i ti)
    (hsl : ∀ a iv, subscripted i true (.ref a) iv = runValue (.builtin "lifetime.subscript" ⟨[.ref a, iv], []⟩)) : PE X (.Subscript o i pos) (tOp (rGetOwn C sp E) ta ti) := by
  refine ⟨fun pins s σ H Q I h => ?_⟩
  refine Subscript_ (binT ho hi I h fun v u s2 x y H2 I2 rx ry q => ?_)
  obtain ⟨a, dx, vs, rfl, hsl2, q⟩ := q
  cases (show v = Value.ref a from rx)
  obtain ⟨sl, od, _, J, _⟩ := slt_inst I2 hsl2
  obtain ⟨m, hF⟩ := I2.fr
  refine PySem.W.sub_K hF I2.ok.mod.kin J hs hk hf (wpAny_call (codeAny_mono (run_at (us := [.ref a, u]) (ws := [.ref a, y]) F hr.in1 I2.env0.in1 hx I2 (.cons rfl (.cons ry .nil)) q) fun r s' z => z)) (hsl a u)
end
/-- the own __getitem__ of the class at C -/
structure GetS (P : Program) (w : World) (K : PySem.W.Frag) (mg : Str → Option Value) (base : Heap) (k : Nat) (C : Addr) (sp : Sp) : Prop where
  ex : ∃ g, PySem.W.findIn K (.ref C) "__getitem__" = some (some (.ref g)) ∧ PySem.W.fnIn K g = true ∧ PySem.W.isFn K (.ref g) = true ∧ FnR P w K mg base CX0 k g sp
section
variable {X : Cx} {k j : Nat} {C : Addr} {sp : Sp}
theorem p_getO {o i : Expr} {ta ti : TE} {pos : Pos} (c : GetS X.prog X.w X.K X.mg X.base k C sp) (hr : Room j X.A) (hk : k + 1 ≤ j) (ho : PE X o ta) (hi : PE X i ti)
    (hsl : ∀ a iv, subscripted i true (.ref a) iv = runValue (.builtin "lifetime.subscript" ⟨[.ref a, iv], []⟩)) : PE X (.Subscript o i pos) (tOp (rGetOwn C sp E0) ta ti) := by
  obtain ⟨g, h1, h2, h3, F⟩ := c.ex
  exact p_getOwn h1 h2 h3 F (hr.mono hk) pass0 ho hi hsl
end

/-! ### iter of a tuple, as a value -/
def tiObj (l : Addr) : Obj := { cls := .type "tuple_iterator", data := .fields #[.ref l, .int 0 0] }
def TiO (l it : Addr) : HO := .ext fun h => h.get? it = some (tiObj l)
theorem tiO_ok {P : Program} {w : World} {H : Hp} {h : Heap} {l it : Addr} (e : h.get? it = some (tiObj l)) : ObjOk P w H h it (TiO l it) := ⟨e, ⟨_, e⟩, fun h1 h2 q k => k _ q⟩
def rIterT (K : PySem.W.Frag) (n : Nat) : List V → Hp → VK → Prop := fun xs H Q => ∃ (l : Addr) (zs : List V), xs = [.ref l] ∧ SqT K H l zs ∧ ∀ it, H it = none → n ≤ it → Q (.ref it) (upd H it (TiO l it))
section
variable {X : Cx}
theorem call_iterT : CallR X (.builtin "iter") (rIterT X.K X.s_0.heap.objs.size) := by
  intro pins s σ H xs us Q I r h
  obtain ⟨l, zs, rfl, hq, q⟩ := h
  rw [Vals.ref1 r]
  obtain ⟨its, rv, pl, hz⟩ := I.tuple hq
  refine Calls.call_function_entry (by decide +kernel) (by decide +kernel) PySem.W.kdk_entry_iter (PySem.W.kdk_args_iter _) ?_
  unfold Builtin.«iter»
  refine wpAny_bind (m := someArgs "iter" 1 2 _) (wpAny_of_eq (a := [Value.ref l]) (by first | rfl | kernel_rfl!) ?_)
  show wpAny _ _ (pyIter (.ref l) >>= _) _ _ _
  refine wpAny_bind (wpAny_pyIter_tuple (show s.heap.IsTuple l its.toArray from pl) ?_)
  refine wpAny_pure ⟨_, rfl, ?_⟩
  exact ⟨.ref s.heap.objs.size, _, I.laid (t' := s.toks) (fun b u e => Heap.get?_push_of_some _ e) (Nat.le_refl _) (tiO_ok (Heap.get?_push_size _ rfl)), rfl, q _ (I.hok.fresh (Nat.le_refl _)) I.sz⟩
variable {e : Expr} {t : TA} {p pos : Pos}
theorem p_iterT (Bi : X.mg "iter" = none) (ha : PA X [e] t) (hg : Gl X "iter" := by rfl) (he : starEach [e] X.env = (false, eval e X.env) :: starEach [] X.env := by rfl) (hpl : (backTo pos (starEach [] X.env)).any (·.1) = false := by rfl) :
    PE X (.Call (.Name "iter" p) [e] [] pos) (tCB (rIterT X.K X.s_0.heap.objs.size) t) := pe_callB call_iterT hg Bi boot_iter ha (by decide) (by decide) he hpl
end
/-- a def at one state -/
theorem fn_at {P : Program} {w : World} {K : PySem.W.Frag} {mg : Str → Option Value} {base : Heap} {x qual : Str} {st : Stmt} {f : Addr} {fd : FuncData} {N ps : List Str} {k : Nat} (F : Fun K x qual st f fd) (b : Binds K fd ps []) (S : FnScope N ps (defScope st))
    {A : Around} {outer : List Env} {s : Shared} {H : Hp} {us : List Value} {vs : List V} {Q : VK} {E : XK} (hr : Room (k + 1) A) (e0 : Env0 P w K mg base A outer s H) (rel : Vals vs us) (len : vs.length = ps.length)
    (body : ∀ cdv, Room k (A.deeper (envOfC qual (defScope st) s.heap.objs.size f cdv)) → ∃ t, PSs (cxOf CX0 P w K mg base N qual (defScope st) f cdv A outer s H E).nox (defBody st) t ∧ t { nx := fun _ H' => Q .non H', rt := Q } (start N vs) H) :
    codeAny (model P w) A (.call (.ref f) ⟨us, []⟩) (CR CX0 outer P w H s Q E) s := by
  obtain ⟨oc, od, kV, doc, pm, an, cdv, ct, osl, rfl, lk, hcd⟩ := F.ex
  have grown : ∀ b o, base.get? b = some o → s.heap.get? b = some o := fun b o e => (e0.bs b o e).1
  have inK : K.In s.heap := e0.mod.kin.keeps grown
  have places : ∀ y ∈ ps.zip us, (defScope st).names.lookup y.1 = some .local ∨ ((defScope st).names.lookup y.1 = some .cell ∧ ((cellsFrom (s.heap.objs.size + 1) (defScope st).names []).lookup y.1).isSome = true) := fun y hy =>
    (S.par y.1 (List.of_mem_zip (a := y.1) (b := y.2) hy).1).imp id fun q => ⟨q, PySem.W.cellsFrom_some _ _ _ (.inl q)⟩
  have bound : BindsTo s (PySem.W.fnOf x qual (defArgs st) (defBody st) (defScope st) .none kV doc pm an cdv ct) ⟨us, []⟩ (ps.zip us) := by
    have := b s us inK (by rw [List.append_nil, ← rel.length]; exact len)
    rwa [List.append_nil] at this
  refine codeAny_call_function hr.depth (inK _ _ lk) rfl S.co S.gen rfl (PySem.W.codeRec_of inK hcd) (bound _ _ _ _ ?_)
  refine wpAny_newFunctionEnv_cells S.kind places fun env he s1 into => ?_
  subst he
  refine ⟨(e0.mod.nolimit.keeps grown).keeps into.toInCall.keep, codeAny_func ?_⟩
  obtain ⟨t, ht, q⟩ := body cdv (hr.deeper _)
  have I : Inv (cxOf CX0 P w K mg base N qual (defScope st) f cdv A outer s H E) [] (start N vs) H s1 := inv_start S hr.hd e0 len rel into
  refine wpAny_mono (ht.nox.run [] s1 (start N vs) H _ I q) (fun fl s' hs => ?_) fun e s' hs => hs
  match fl, hs with
  | .ret u, ⟨v, σ', H', J, rv, q⟩ => exact ⟨v, H', J.os, J.bare, J.base, J.hok, rv, q⟩
  | .next, ⟨σ', H', J, q⟩ => exact ⟨V.non, H', J.os, J.bare, J.base, J.hok, rfl, q⟩
  | .brk, ⟨_, _, _, q⟩ => exact q.elim
  | .cont, ⟨_, _, _, q⟩ => exact q.elim
/-- the own __iter__ of the class at C hands out iter of the tuple in the slot i -/
structure ItS (P : Program) (w : World) (K : PySem.W.Frag) (mg : Str → Option Value) (base : Heap) (k : Nat) (C : Addr) (i : Nat) : Prop where
  ex : ∃ g, PySem.W.findIn K (.ref C) "__iter__" = some (some (.ref g)) ∧ PySem.W.isFn K (.ref g) = true ∧ ∀ (A : Around) (outer : List Env) (s : Shared) (H : Hp) (a dx : Addr) (vs : List (Option V)) (l : Addr) (zs : List V) (Q : VK) (E : XK),
    Room k A → Env0 P w K mg base A outer s H → Slt H a C dx vs → vs[i]? = some (some (.ref l)) → SqT K H l zs → (∀ it, H it = none → s.heap.objs.size ≤ it → Q (.ref it) (upd H it (TiO l it))) → codeAny (model P w) A (.call (.ref g) ⟨[.ref a], []⟩) (CR CX0 outer P w H s Q E) s
def iOwn (K : PySem.W.Frag) (C : Addr) (i : Nat) (te : TE) : TI := fun σ H R => te σ H fun v H1 => ∃ a dx vs l zs, v = .ref a ∧ Slt H1 a C dx vs ∧ vs[i]? = some (some (.ref l)) ∧ SqT K H1 l zs ∧ R (Itt K l) H1
theorem pi_own {X : Cx} {tg e : Expr} {te : TE} {k j i : Nat} {C : Addr} (c : ItS X.prog X.w X.K X.mg X.base k C i) (hr : Room j X.A) (hk : k ≤ j) (he : PE X e te) : PI X tg e (iOwn X.K C i te) := by
  refine ⟨fun pins s σ H R I h => ?_⟩
  obtain ⟨g, h1, h2, run⟩ := c.ex
  refine thn (he.run pins s σ H _ I h) fun u s1 ⟨v, H1, I1, r1, a, dx, vs, l, zs, ev, hsl, hl, hq, q⟩ => ?_
  subst ev
  cases r1
  obtain ⟨sl, od, _, J, _⟩ := slt_inst I1 hsl
  obtain ⟨m, hF⟩ := I1.fr
  refine PySem.W.owit_iter hF I1.ok.mod.kin J h1 h2 (wpAny_call (codeAny_mono (run X.A X.stack s1 H1 a dx vs l zs (fun z H' => ∃ it, z = .ref it ∧ H1 it = none ∧ s1.heap.objs.size ≤ it ∧ H' = upd H1 it (TiO l it)) E0 (hr.mono hk) I1.env0 hsl hl hq fun it z1 z2 => ⟨it, rfl, z1, z2, rfl⟩) fun r s' hq' => ?_))
  cases r with
  | error e => exact hq'.elim
  | ok fl =>
    cases fl with
    | next => exact False.elim hq'
    | brk => exact False.elim hq'
    | cont => exact False.elim hq'
    | ret u =>
      obtain ⟨z, H', I', rz, it, ez, n1, n2, eH⟩ := I1.after hq'
      subst ez
      cases rz
      rw [eH] at I'
      have at' : s'.heap.get? it = some (tiObj l) := (I'.hok it _ upd_same).1
      have ty : s'.TypeIs (.ref it) "tuple_iterator" := ⟨_, at', rfl⟩
      unfold PySem.W.OwitIt
      refine wpAny_specialOf ty F.slot_tuple_iterator_next.lookup ?_
      have J2 := ItX.inv_drop I' (a := it) (φ := fun h => h.get? it = some (tiObj l)) upd_same
      have fp := ItX.inv_fp I' (a := it) upd_same (Nat.le_trans I1.sz n2)
      rw [ItX.dropH_upd n1] at J2 fp
      refine ⟨it, [it], _, _, H1, rfl, J2, turn_tuple l it, ⟨_, at', rfl, rfl⟩, fun b hb => ?_, q⟩
      rw [List.mem_singleton.mp hb]
      exact fp
end Rs

/-! Tx0: own items, own iteration, slices, lists * int, objects being made. -/
namespace Tw
open PySem PySem.Spec PyProof.Rows L2 SlX StX Rs Ma Sn
section
variable {ε α β γ δ : Type} {Z : Wsh ε} {ρ : List (Option VP)} {κ : List Ow} {K : PySem.W.Frag} {te ta tb ti : TE} {C : Addr} {Ra R : α → VP} {Rb : β → VP} {Rc : γ → VP} {ma : Wm ε α} {ml : Wm ε (List α)} {i : Nat} {E : XK}
/-! own items -/
theorem o_getOwn {spec : α × β → (γ → Prop) → Prop} [∀ a, Mono (Ra a)] [∀ b, Mono (Rb b)] (h1 : ∀ a v F, Ra a v F → IsOb C v F) :
    Op2 ε (rGetOwn C (SpN (fun p : α × β => [Ra p.1, Rb p.2]) spec Rc) E) Ra Rb (fun a b Q _ => spec (a, b) Q) Rc :=
  ⟨fun a b x y F L hx hy Q X q => fun F2 N H e2 A Qk qk => by
    obtain ⟨p, dx, us, rfl, q1, q2⟩ := h1 _ _ _ hx
    exact ⟨p, dx, us, rfl, at_slt A (e2 _ _ q1) (e2 _ _ q2), (a, b), F2, L ++ N, Q, A, ⟨Mono.go hx e2, Mono.go hy e2, True.intro⟩, q, fun d v F3 H3 e3 A3 pd r => qk _ F3 H3 e3 A3 ⟨d, pd, r⟩⟩⟩
/-! own iteration -/
def SlT (K : PySem.W.Frag) (C : Addr) (i : Nat) (Rs : List VP) : VP := fun v F => ∃ a dx vs l, v = .ref a ∧ F a = some (SlO a C dx vs) ∧ F dx = some (.xd []) ∧ vs[i]? = some (some (.ref l)) ∧ Tp K Rs (.ref l) F
theorem ti_own {f : α → List β} [∀ b, Mono (Rb b)] (hS : ∀ a v F, Ra a v F → SlT K C i ((f a).map Rb) v F) (h : TrE Z ρ κ te ma Ra) : TrI Z ρ κ (iOwn K C i te) (fun Q X => ma (fun a => Q (f a)) X) Rb :=
  ⟨inferInstance, fun σ F L s c Q X q => rw_bind (k := te σ) (k2 := fun v H1 R => ∃ a dx vs l zs, v = .ref a ∧ Slt H1 a C dx vs ∧ vs[i]? = some (some (.ref l)) ∧ SqT K H1 l zs ∧ R (Itt K l) H1) (h.run σ F L s c _ X q) fun x F1 e1 ⟨a, q1, hx⟩ => .of fun F2 N H e A Qk qk => by
    obtain ⟨ad, dx, vs, l, rfl, h1, h2, h3, h4⟩ := hS _ _ _ hx
    obtain ⟨l', zs, el, hs, hr⟩ := id h4
    cases el
    refine ⟨ad, dx, vs, l, zs, rfl, at_slt A (e _ _ h1) (e _ _ h2), h3, sqT_up (e.trans A.ex) hs, ?_⟩
    have hi := i_tup (σ := []) (te := tC (.ref l)) (L := L) (r_c (R := Tp K ((f a).map Rb)) h4)
    have := hi F2 N H e A (fun J H' => J = Itt K l → Qk J H') fun J F3 H3 e3 A3 hJ _ => qk J F3 H3 e3 A3 ⟨f a, q1, hJ⟩
    obtain ⟨l2, el, _, r⟩ := this
    cases el
    exact r rfl⟩
/-! slices -/
structure TrO (Z : Wsh ε) (ρ : List (Option VP)) (κ : List Ow) (to : TO) (m : Wm ε (Option Nat)) : Prop where
  run : ∀ σ F L, SatV ρ σ F → SatC κ σ F L → ∀ Q X, m Q X → RunW Z (to σ) F L (fun o _ => ∃ k : Option Nat, Q k ∧ o = k.map fun n => (n : Int)) X
theorem to_no : TrO Z ρ κ tNoPart (pur none) := ⟨fun σ F L s c Q X q => .of fun F1 N H e A Qk qk => qk none F1 H (Same.refl _) A ⟨none, q, rfl⟩⟩
theorem to_some {m : Wm ε Nat} (h : TrE Z ρ κ te m (fD K dN)) : TrO Z ρ κ (tPart te) (fun Q X => m (fun n => Q (some n)) X) :=
  ⟨fun σ F L s c Q X q => rw_bind (k := te σ) (k2 := fun x H Q => ∃ i, x = .int i ∧ Q (some i) H) (h.run σ F L s c _ X q) fun x F1 e1 ⟨n, q1, hx⟩ => .of fun F2 N H e A Qk qk => by
    cases hx
    exact ⟨(n : Int), rfl, qk _ F2 H (Same.refl _) A ⟨some n, q1, rfl⟩⟩⟩
/-- xs[lo:hi] -/
def cutL (xs : List α) (lo hi : Option Nat) : List α := (xs.take (hi.getD xs.length)).drop (lo.getD 0)
theorem cut_eq {xs : List V} {lo hi : Option Nat} : cutV xs (lo.map fun n => (n : Int)) (hi.map fun n => (n : Int)) = cutL xs lo hi := by
  have e1 : HT.sIx xs.length 0 (lo.map fun n => (n : Int)) = min (lo.getD 0) xs.length := by
    cases lo with
    | none => show (0 : Nat) = min 0 xs.length; omega
    | some n => exact HT.sIx_nat _ _ _
  have e2 : HT.sIx xs.length xs.length (hi.map fun n => (n : Int)) = min (hi.getD xs.length) xs.length := by
    cases hi with
    | none => show xs.length = min xs.length xs.length; omega
    | some n => exact HT.sIx_nat _ _ _
  unfold cutV cutL
  rw [e1, e2, List.drop_take]
  apply List.ext_getElem?
  intro n
  rw [List.getElem?_take, List.getElem?_take, List.getElem?_drop, List.getElem?_drop]
  by_cases h : lo.getD 0 ≤ xs.length
  · rw [Nat.min_eq_left h]
    by_cases h2 : n < min (hi.getD xs.length) xs.length - lo.getD 0
    · rw [if_pos h2, if_pos (by omega)]
    · rw [if_neg h2]
      split
      · rw [List.getElem?_eq_none (by omega)]
      · rfl
  · rw [if_neg (by omega)]
    split
    · rw [List.getElem?_eq_none (by omega)]
    · rfl
theorem cutL_each {xs : List α} {vs : List V} {F : Hp} {lo hi : Option Nat} (h : Each (xs.map R) vs F) : Each ((cutL xs lo hi).map R) (cutL vs lo hi) F := by
  have hl : vs.length = xs.length := by rw [each_length h, List.length_map]
  have tk : ∀ (n : Nat) (xs : List α) (vs : List V), Each (xs.map R) vs F → Each ((xs.take n).map R) (vs.take n) F := by
    intro n
    induction n with
    | zero => intro xs vs _; exact True.intro
    | succ n ih => intro xs vs h; match xs, vs, h with
      | [], [], _ => exact True.intro
      | x :: xs, v :: vs, h => exact ⟨h.1, ih xs vs h.2⟩
  have dp : ∀ (n : Nat) (xs : List α) (vs : List V), Each (xs.map R) vs F → Each ((xs.drop n).map R) (vs.drop n) F := by
    intro n
    induction n with
    | zero => intro xs vs h; exact h
    | succ n ih => intro xs vs h; match xs, vs, h with
      | [], [], _ => exact True.intro
      | x :: xs, v :: vs, h => exact ih xs vs h.2
  unfold cutL
  rw [hl]
  exact dp _ _ _ (tk _ _ _ h)
theorem tr_slL {tl th : TO} {mlo mhi : Wm ε (Option Nat)} [∀ a, Mono (R a)] (h : TrE Z ρ κ te ml (fLn R)) (hl : TrO Z ρ κ tl mlo) (hh : TrO Z ρ κ th mhi) :
    TrE Z ρ κ (L2.tSl (rSlL K) te tl th) (fun Q X => ml (fun xs => mlo (fun lo => mhi (fun hi => Q (cutL xs lo hi)) X) X) X) (fLn R) :=
  ⟨inferInstance, fun σ F L s c Q X q => rw_bind (k := te σ) (h.run σ F L s c _ X q) fun x F1 e1 ⟨xs, q1, hx⟩ => rw_bind (k := tl σ) (hl.run σ F1 L (satV_up e1 s) (satC_up e1 c) _ X q1) fun o1 F2 e2 ⟨lo, q2, hlo⟩ =>
    rw_bind (k := th σ) (k2 := fun o2 H Q => rSlL K x o1 o2 H Q) (hh.run σ F2 L (satV_up (e1.trans e2) s) (satC_up (e1.trans e2) c) _ X q2) fun o2 F3 e3 ⟨hi, q3, hhi⟩ => .of fun F4 N H e A Qk qk => by
      obtain ⟨a, vs, rfl, hs, hr⟩ := hx
      subst hlo hhi
      refine ⟨a, vs, rfl, .inl (.inl (A.ex _ _ (((e2.trans e3).trans e) _ _ hs))), fun p hp => ?_⟩
      rw [cut_eq]
      refine qk _ (upd F4 p _) _ (same_new (A.free hp)) (A.new hp) ⟨_, q3, p, _, rfl, upd_same, cutL_each (MonoL.mono _ _ _ (((e2.trans e3).trans e).trans (same_new (A.free hp))) hr)⟩⟩
theorem tr_slT {tl th : TO} {mlo mhi : Wm ε (Option Nat)} [∀ a, Mono (R a)] (h : TrE Z ρ κ te ml (fTp K R)) (hl : TrO Z ρ κ tl mlo) (hh : TrO Z ρ κ th mhi) :
    TrE Z ρ κ (L2.tSl (rSlA K) te tl th) (fun Q X => ml (fun xs => mlo (fun lo => mhi (fun hi => Q (cutL xs lo hi)) X) X) X) (fTp K R) :=
  ⟨inferInstance, fun σ F L s c Q X q => rw_bind (k := te σ) (h.run σ F L s c _ X q) fun x F1 e1 ⟨xs, q1, hx⟩ => rw_bind (k := tl σ) (hl.run σ F1 L (satV_up e1 s) (satC_up e1 c) _ X q1) fun o1 F2 e2 ⟨lo, q2, hlo⟩ =>
    rw_bind (k := th σ) (k2 := fun o2 H Q => rSlA K x o1 o2 H Q) (hh.run σ F2 L (satV_up (e1.trans e2) s) (satC_up (e1.trans e2) c) _ X q2) fun o2 F3 e3 ⟨hi, q3, hhi⟩ => .of fun F4 N H e A Qk qk => by
      obtain ⟨a, vs, rfl, hs, hr⟩ := id hx
      subst hlo hhi
      have hx4 : Tp K (xs.map R) (.ref a) F4 := Mono.mono (R := Tp K (xs.map R)) _ _ _ ((e2.trans e3).trans e) hx
      have hl : vs.length = xs.length := by rw [each_length hr, List.length_map]
      refine ⟨a, vs, rfl, sqT_up (((e2.trans e3).trans e).trans A.ex) hs, fun hw => ?_, fun _ p hp => ?_⟩
      · have e5 : cutL vs lo hi = vs := by
          rw [← cut_eq]
          unfold cutV
          rw [hw.1, hw.2, List.drop_zero, Nat.sub_zero, List.take_length]
        have e6 : cutL xs lo hi = xs := by
          have hle : (cutL xs lo hi).length = xs.length := by
            have := congrArg List.length e5
            unfold cutL at this ⊢
            rw [List.length_drop, List.length_take] at this ⊢
            rw [hl] at this
            exact this
          unfold cutL at hle ⊢
          rw [List.length_drop, List.length_take] at hle
          have z1 : lo.getD 0 = 0 ∨ xs.length = 0 := by omega
          rcases z1 with z1 | z1
          · rw [z1, List.drop_zero, List.take_of_length_le (by rw [z1] at hle; omega)]
          · rw [List.length_eq_zero_iff.mp z1, List.take_nil, List.drop_nil]
        exact qk _ F4 H (Same.refl _) A ⟨_, q3, by rw [e6]; exact hx4⟩
      · rw [cut_eq]
        exact qk _ (upd F4 p _) _ (same_new (A.free hp)) (A.new hp) ⟨_, q3, p, _, rfl, .inl (.inl upd_same), cutL_each (MonoL.mono _ _ _ (((e2.trans e3).trans e).trans (same_new (A.free hp))) hr)⟩⟩
/-! a list so many times -/
theorem flat_rep {xs : List α} {vs : List V} {F : Hp} (h : Each (xs.map R) vs F) : ∀ n : Nat, Each (((List.replicate n xs).flatten).map R) (List.replicate n vs).flatten F
  | 0 => True.intro
  | n + 1 => by
    rw [List.replicate_succ, List.replicate_succ, List.flatten_cons, List.flatten_cons, List.map_append]
    exact each_app h (flat_rep h n)
theorem o_repL [∀ a, Mono (R a)] : Op2 ε rRep (fLn R) (fD K dN) (fun xs n Q X => xs.length * n ≤ 100000 ∧ n ≤ 100000 ∧ Q (List.replicate n xs).flatten) (fLn R) := ⟨fun xs n x y F L hx hy Q X ⟨q0, q1, q2⟩ => fun F1 N H e A Qk qk => by
  obtain ⟨a, vs, rfl, hs, hr⟩ := hx
  cases hy
  have hl : vs.length = xs.length := by rw [each_length hr, List.length_map]
  refine ⟨a, (n : Int), vs, rfl, rfl, A.ex _ _ (e _ _ hs), by omega, by omega, by rw [Int.toNat_natCast, hl, sizeLine_eq]; omega, fun p hp => ?_⟩
  rw [Int.toNat_natCast]
  exact qk _ (upd F1 p _) _ (same_new (A.free hp)) (A.new hp) ⟨_, q2, p, _, rfl, upd_same, flat_rep (MonoL.mono _ _ _ (e.trans (same_new (A.free hp))) hr) n⟩⟩
end
/-! ### an object being made -/
section
variable {α : Type} {ρ : List (Option VP)} {K : PySem.W.Frag} {σ : L2.St} {F : Hp} {L : Cells} {Nx : L2.St → Hp → Cells → Prop} {Rt : VP} {u : TS} {tv : TE} {tt : TT} {C a dx : Addr} {f : Str} {i : Nat} {vs : List (Option V)} {o o2 : HO} {R : α → VP} {m : Wm Empty α} {mb : Wm Empty Bool}
theorem run0 {k : Hp → (α → Hp → Prop) → Prop} {S : α → Hp → Prop} (h : RunW Z0 k F L S X0) : Run k F L S := fun F1 N H e A Q q => h F1 N H e A wish0 Q q
/-- self.f = value -/
theorem q_slW (s : SlF K C f i) (hc : SCell a C dx vs o o2) (h0 : σ[0]? = some (some (.ref a))) (hv : TrE Z0 ρ [] tv m R) (sv : SatV ρ σ F) {Q : α → Prop} (q : m Q X0)
    (k : ∀ x v F1, Same F F1 → Q x → R x v F1 → RunS u σ F1 ((a, SlO a C dx (putS i v vs)) :: (dx, .xd []) :: L) Nx Rt) : RunS (tSeq (sSl K (tVar 0) tv f) u) σ F ((a, o) :: (dx, o2) :: L) Nx Rt := by
  have mo : Mono (fun v F1 => ∃ x, Q x ∧ R x v F1) := ⟨fun v F1 F2 e ⟨x, h1, h2⟩ => ⟨x, h1, (hv.mono x).mono _ _ _ e h2⟩⟩
  exact q_slset (R := fun v F1 => ∃ x, Q x ∧ R x v F1) s hc (r_varE h0) (run0 (hv.run σ F _ sv True.intro Q X0 q)) fun v F1 e ⟨x, h1, h2⟩ => k x v F1 e h1 h2
theorem s_slW (s : SlF K C f i) (hc : SCell a C dx vs o o2) (h0 : σ[0]? = some (some (.ref a))) (hv : TrE Z0 ρ [] tv m R) (sv : SatV ρ σ F) {Q : α → Prop} (q : m Q X0)
    (k : ∀ x v F1, Same F F1 → Q x → R x v F1 → Nx σ F1 ((a, SlO a C dx (putS i v vs)) :: (dx, .xd []) :: L)) : RunS (sSl K (tVar 0) tv f) σ F ((a, o) :: (dx, o2) :: L) Nx Rt := by
  have mo : Mono (fun v F1 => ∃ x, Q x ∧ R x v F1) := ⟨fun v F1 F2 e ⟨x, h1, h2⟩ => ⟨x, h1, (hv.mono x).mono _ _ _ e h2⟩⟩
  exact s_slset (R := fun v F1 => ∃ x, Q x ∧ R x v F1) s hc (r_varE h0) (run0 (hv.run σ F _ sv True.intro Q X0 q)) fun v F1 e ⟨x, h1, h2⟩ => k x v F1 e h1 h2
end
end Tw

/-! numberings -/
namespace Wb
open PySem PySem.Spec PyProof.Rows L2 SlX StX Rs Ma
local macro_rules | `(tactic| walk_at "rr") => `(tactic| (first
  | exact r_nil | exact r_int | exact r_bl | exact r_str
  | (refine r_var rfl ?_; assumption)
  | exact r_c rfl
  | (refine r_cons ?_ ?_ <;> walk_at "rr")))
/-- a new number for each house -/
structure IsNum (ns : List Nat) (n : Nat) : Prop where
  len : ns.length = n
  nd : ns.Nodup
  lt : ∀ x ∈ ns, x < n
  le : n ≤ 8
section
variable {P : Program} {w : World} {K : PySem.W.Frag} {mg : Str → Option Value} {base : Heap} {C_Web : Addr}
noncomputable abbrev spIsNumbering (K : PySem.W.Frag) : Sp := SpF (γ := List Nat × Nat) (fun g => IsNum g.1 g.2) (fun g => [Dt K (dRow g.1), Dt K (nI g.2)]) (fun g => Dt K (.bool true))
-- is_numbering: 0:value 1:size 2:number
abbrev s_is_numbering : Stmt := topS 14
abbrev N_is_numbering : List Str := ["value", "size", "number"]
theorem sc_is_numbering : FnScope N_is_numbering ["value", "size"] (defScope s_is_numbering) := ⟨rfl, rfl, rfl, by decide +kernel, rfl, by decide +kernel, by decide +kernel⟩
theorem ok_is_numbering {f : Addr} {fd : FuncData} (B : Bf mg) (c_is_between : Gf P w K mg base 2 "is_between" (spIsBetween K)) (F : Fun K "is_numbering" "is_numbering" s_is_numbering f fd) (hm : mg "is_numbering" = some (.ref f)) (b : Binds K fd ["value", "size"] []) : Gf P w K mg base 3 "is_numbering" (spIsNumbering K) := by
  refine gf_mk F hm b sc_is_numbering (fun _ => rfl) fun cdv A outer s H E ⟨ns, n⟩ vs F0 hr hp hv => ?_
  obtain ⟨v, v1, rfl, h1, h2⟩ := each2 hv
  refine ⟨_, (pss_cons (ps_if (PW.pt (pw_or (pt_not (pt_val (p_isi B (pa_cons (pv 0) (pa_cons (p_ty (by rfl) B.tuple boot_tuple) pa_nil))))) (pw_or1 (pt_cmpR op_ne (p_len B (pa_cons (pv 0) pa_nil)) (pv 1) (nomark _)))))
        (pss_one (ps_ret pe_bl))
        pss_nil)
      (pss_one (ps_ret (pe_and (p_all rfl B (pa_cons (pe_lc (own := [("number", 2)]) (g := gName 2) (tt := tYes) rfl sc_is_numbering.nd (pi_tup (pv 0)) (blkOk_by (N := N_is_numbering) (sc := defScope s_is_numbering) (by decide +kernel)) (fun _ _ _ _ _ => (pg_name (i := 2) sc_is_numbering.nd rfl (by first | exact Or.inl rfl | exact Or.inr rfl))) (fun _ _ _ _ _ => pts_nil) (fun _ _ _ _ _ => by exact (p_call c_is_between hr (by decide) (pa_cons (pv 2) (pa_cons pe_int (pa_cons (pe_op op_sub (pv 1) pe_int) pa_nil)))))) pa_nil)) (pe_one (pe_cmpR op_eq (p_lenS B (pa_cons (p_set rfl B (pa_cons (pv 0) pa_nil)) pa_nil)) (pv 1) (nomark _))))))), ?_⟩
  have N : IsNum ns n := hp
  have hn := N.le
  have hln := N.len
  have h1 : Dt K (dRow ns) v F0 := h1
  have h2 : Dt K (nI n) v1 F0 := h2
  refine q_if (b := false) (t_is (t_or (a := false) (b := false) (t_not (t_B (r_isiD (b := true) (by walk_at "rr") (by dsimp only [tyName]; decide +kernel)))) fun _ => t_is (t_test (r_neN (i := ns.length) (j := n) (r_lnN (xs := ns) (f := nI) (by walk_at "rr")) (by walk_at "rr"))) (by rw [hln]; simp)) rfl) (fun z => nomatch z) fun _ => ?_
  refine q_next (s_ret (r_is (r_and (a := true) (b := true) (r_is (r_all (bs := ns.map fun _ => true) (r_cons (r_ls (Run.weak (r_lcN (xs := ns) (Ri := fun x => Dt K (nI x)) (Re := fun _ => Dt K (.bool true)) (i_tupN (f := nI) (r_var rfl h1)) (by omega) (fun _ => rfl) fun x u F1 e hx hu => ?_) fun v F1 e hv => ?_)) r_nil)) ?_) fun _ => ?_) rfl))
  · have h2' := dp_up e h2
    have q := bt_nat (N.lt x hx) (Nat.le_trans hn (by decide))
    exact r_is (r_call (nI x, 0, (n : Int) - 1) True.intro (r_cons (by walk_at "rr") (r_cons r_int (r_cons (r_I0i (r_var rfl h2') r_int) r_nil)))) (congrArg PyData.bool q)
  · rw [List.map_map]; exact hv
  · refine congrArg PyData.bool ?_
    simp
  · refine r_is (r_eqN (i := n) (j := n) (r_is (r_lenS (ns := cI ns) (os := cI ns) (r_cons (r_set (ns := cI ns) (R := Dt K (dRow ns)) (r_cons (r_var rfl h1) r_nil) (fun v F1 h => seqI_row h) (by rw [List.length_map]; omega)) r_nil) (List.pairwise_map.mpr (N.nd.imp fun h z => h (Int.ofNat_inj.mp z))) fun _ => Iff.rfl) (by rw [List.length_map, hln])) (r_var rfl h2)) (by simp)
end
end Wb

/-! Me: webs that are often used. -/
namespace Ma
open PySem Rs L2
def unionL (n : Nat) (a b : List Nat) : List Nat := (List.range n).filter fun x => decide (x ∈ a ++ b)
def joinR (rs qs : Rows) : Rows := (rs.zip qs).map fun p => unionL rs.length p.1 p.2
def interL (a b : List Nat) : List Nat := a.filter fun x => decide (x ∈ b)
def shareR (rs qs : Rows) : Rows := (rs.zip qs).map fun p => interL p.1 p.2
theorem mem_union {n x : Nat} {a b : List Nat} (ha : ∀ y ∈ a, y < n) (hb : ∀ y ∈ b, y < n) : x ∈ unionL n a b ↔ x ∈ a ++ b := by
  unfold unionL
  rw [List.mem_filter, List.mem_range, decide_eq_true_eq]
  refine ⟨fun z => z.2, fun z => ⟨?_, z⟩⟩
  rcases List.mem_append.mp z with z | z
  · exact ha x z
  · exact hb x z
theorem zip_row {rs qs : Rows} {i : Nat} {p : List Nat × List Nat} (h : (rs.zip qs)[i]? = some p) : rs[i]? = some p.1 ∧ qs[i]? = some p.2 := List.getElem?_zip_eq_some.mp h
theorem join_ok {rs qs : Rows} (o : Ok rs) (oq : Ok qs) (hl : qs.length = rs.length) : Ok (joinR rs qs) := by
  have e : (joinR rs qs).length = rs.length := by unfold joinR; rw [List.length_map, List.length_zip]; omega
  refine ⟨by rw [e]; exact o.pos, by rw [e]; exact o.le, fun r hr => ?_, fun r hr x hx => ?_, fun i r hr hi => ?_⟩
  · obtain ⟨p, _, rfl⟩ := List.mem_map.mp hr
    exact (asc_range _).filter _
  · obtain ⟨p, _, rfl⟩ := List.mem_map.mp hr
    rw [e]
    exact List.mem_range.mp (List.mem_filter.mp hx).1
  · unfold joinR at hr
    rw [List.getElem?_map] at hr
    cases hz : (rs.zip qs)[i]? with
    | none => rw [hz] at hr; cases hr
    | some p =>
      rw [hz] at hr
      cases hr
      obtain ⟨h1, h2⟩ := zip_row hz
      have h3 := of_decide_eq_true (List.mem_filter.mp hi).2
      rcases List.mem_append.mp h3 with z | z
      · exact o.ne i _ h1 z
      · exact oq.ne i _ h2 z
theorem share_ok {rs qs : Rows} (o : Ok rs) (hl : qs.length = rs.length) : Ok (shareR rs qs) := by
  have e : (shareR rs qs).length = rs.length := by unfold shareR; rw [List.length_map, List.length_zip]; omega
  have sub : ∀ {i : Nat} {r : List Nat}, (shareR rs qs)[i]? = some r → ∃ p, rs[i]? = some p ∧ ∃ f : Nat → Bool, r = p.filter f := by
    intro i r hr
    unfold shareR at hr
    rw [List.getElem?_map] at hr
    cases hz : (rs.zip qs)[i]? with
    | none => rw [hz] at hr; cases hr
    | some p =>
      rw [hz] at hr
      cases hr
      exact ⟨p.1, (zip_row hz).1, _, rfl⟩
  refine ⟨by rw [e]; exact o.pos, by rw [e]; exact o.le, fun r hr => ?_, fun r hr x hx => ?_, fun i r hr hi => ?_⟩
  · obtain ⟨i, hi⟩ := List.mem_iff_getElem?.mp hr
    obtain ⟨p, hp, f, rfl⟩ := sub hi
    exact (o.asc p (List.mem_of_getElem? hp)).filter _
  · obtain ⟨i, hi⟩ := List.mem_iff_getElem?.mp hr
    obtain ⟨p, hp, f, rfl⟩ := sub hi
    rw [e]
    exact o.lt p (List.mem_of_getElem? hp) x (List.mem_filter.mp hx).1
  · obtain ⟨p, hp, f, rfl⟩ := sub hr
    exact o.ne i p hp (List.mem_filter.mp hi).1
def fullRow (n h : Nat) : List Nat := (List.range n).filter fun x => !decide (x = h)
def fullR (n : Nat) : Rows := (List.range n).map (fullRow n)
def starRow (c h : Nat) : List Nat := if h = c then [] else [c]
def starR (n c : Nat) : Rows := (List.range n).map (starRow c)
def chainRow (n f h : Nat) : List Nat := if h = f then [] else [(h + n - 1) % n]
def chainR (n f : Nat) : Rows := (List.range n).map (chainRow n f)
/-- rows made house by house -/
theorem made_ok {n : Nat} {g : Nat → List Nat} (h1 : 1 ≤ n) (h2 : n ≤ 5) (ha : ∀ h, h < n → Asc (g h)) (hb : ∀ h, h < n → ∀ x ∈ g h, x < n ∧ x ≠ h) : Ok ((List.range n).map g) := by
  have e : ((List.range n).map g).length = n := by rw [List.length_map, List.length_range]
  refine ⟨by rw [e]; exact h1, by rw [e]; exact h2, fun r hr => ?_, fun r hr x hx => ?_, fun i r hr hi => ?_⟩
  · obtain ⟨h, hh, rfl⟩ := List.mem_map.mp hr
    exact ha h (List.mem_range.mp hh)
  · obtain ⟨h, hh, rfl⟩ := List.mem_map.mp hr
    rw [e]
    exact (hb h (List.mem_range.mp hh) x hx).1
  · rw [List.getElem?_map] at hr
    by_cases hl : i < n
    · rw [List.getElem?_range hl] at hr
      cases hr
      exact (hb i hl i hi).2 rfl
    · rw [List.getElem?_eq_none (by rw [List.length_range]; omega)] at hr
      cases hr
theorem full_ok {n : Nat} (h1 : 1 ≤ n) (h2 : n ≤ 5) : Ok (fullR n) := made_ok h1 h2 (fun h _ => (asc_range n).filter _) fun h _ x hx => by
  obtain ⟨a, b⟩ := List.mem_filter.mp hx
  exact ⟨List.mem_range.mp a, by simpa using b⟩
theorem star_ok {n c : Nat} (h1 : 1 ≤ n) (h2 : n ≤ 5) (hc : c < n) : Ok (starR n c) := made_ok h1 h2 (fun h _ => by unfold starRow; split <;> simp) fun h _ x hx => by
  unfold starRow at hx
  split at hx
  · cases hx
  · rename_i hne
    rw [List.mem_singleton] at hx
    subst hx
    exact ⟨hc, fun z => hne z.symm⟩
theorem chain_ok {n f : Nat} (h1 : 1 ≤ n) (h2 : n ≤ 5) (hf : f < n) : Ok (chainR n f) := made_ok h1 h2 (fun h _ => by unfold chainRow; split <;> simp) fun h hh x hx => by
  unfold chainRow at hx
  split at hx
  · cases hx
  · rename_i hne
    rw [List.mem_singleton] at hx
    subst hx
    refine ⟨Nat.mod_lt _ (by omega), ?_⟩
    by_cases h0 : h = 0
    · subst h0
      rw [Nat.zero_add, Nat.mod_eq_of_lt (by omega)]
      omega
    · rw [show h + n - 1 = (h - 1) + n from by omega, Nat.add_mod_right, Nat.mod_eq_of_lt (by omega)]
      omega
end Ma

/-! Mf: those who hear somebody's word, round by round. -/
namespace Ma
open PySem Rs L2
def stepL (rs : Rows) (fs : List Nat) : List Nat := (List.range rs.length).filter fun y => decide (y ∈ fs) || !decide ((row rs y).filter (fun x => decide (x ∈ fs)) = [])
def fromL (rs : Rows) (h : Nat) : Nat → List Nat
  | 0 => [h]
  | k + 1 => stepL rs (fromL rs h k)
section
variable {rs : Rows} {h : Nat} {fs : List Nat} {y k j : Nat}
theorem mem_step : y ∈ stepL rs fs ↔ y < rs.length ∧ (y ∈ fs ∨ ∃ x, x ∈ row rs y ∧ x ∈ fs) := by
  unfold stepL
  rw [List.mem_filter, List.mem_range, Bool.or_eq_true, decide_eq_true_eq, Bool.not_eq_true', decide_eq_false_iff_not, List.filter_eq_nil_iff]
  refine and_congr_right fun _ => or_congr_right ⟨fun z => ?_, fun ⟨x, h1, h2⟩ z => z x h1 (decide_eq_true h2)⟩
  apply Classical.byContradiction
  intro q
  exact z fun x hx hd => q ⟨x, hx, of_decide_eq_true hd⟩
theorem from_lt (hh : h < rs.length) : ∀ {k y : Nat}, y ∈ fromL rs h k → y < rs.length ∧ Reach rs h y
  | 0, y, z => by
    rw [List.mem_singleton.mp z]
    exact ⟨hh, .refl⟩
  | k + 1, y, z => by
    obtain ⟨h1, h2⟩ := mem_step.mp z
    refine ⟨h1, ?_⟩
    rcases h2 with h2 | ⟨x, h2, h3⟩
    · exact (from_lt hh h2).2
    · exact .step (from_lt hh h3).2 h1 h2
theorem from_up (hh : h < rs.length) (z : y ∈ fromL rs h k) : y ∈ fromL rs h (k + 1) := mem_step.mpr ⟨(from_lt hh z).1, .inl z⟩
theorem from_le (hh : h < rs.length) (hk : k ≤ j) (z : y ∈ fromL rs h k) : y ∈ fromL rs h j := by
  obtain ⟨d, rfl⟩ : ∃ d, j = k + d := ⟨j - k, by omega⟩
  induction d with
  | zero => exact z
  | succ d ih => exact from_up hh (ih (by omega))
theorem from_nodup : ∀ {k : Nat}, (fromL rs h k).Nodup
  | 0 => by unfold fromL; simp
  | k + 1 => asc_nodup ((asc_range _).filter _)
theorem sub_len {a b : List Nat} (ha : a.Nodup) (hb : b.Nodup) (hs : ∀ x ∈ a, x ∈ b) : a.length ≤ b.length := by
  have p : (b.filter fun x => decide (x ∈ a)).Perm a := (List.perm_ext_iff_of_nodup (hb.filter _) ha).mpr fun x => by
    rw [List.mem_filter, decide_eq_true_eq]
    exact ⟨fun z => z.2, fun z => ⟨hs x z, z⟩⟩
  rw [← p.length_eq]
  exact List.length_filter_le _ _
theorem from_grow (hh : h < rs.length) : ∀ k, (∃ j, j < k ∧ ∀ y, y ∈ fromL rs h (j + 1) → y ∈ fromL rs h j) ∨ k + 1 ≤ (fromL rs h k).length
  | 0 => .inr (by unfold fromL; simp)
  | k + 1 => by
    rcases from_grow hh k with ⟨j, h1, h2⟩ | h1
    · exact .inl ⟨j, by omega, h2⟩
    · by_cases q : ∀ y, y ∈ fromL rs h (k + 1) → y ∈ fromL rs h k
      · exact .inl ⟨k, by omega, q⟩
      · right
        obtain ⟨y, q⟩ := Classical.not_forall.mp q
        obtain ⟨q1, q2⟩ := Classical.not_imp.mp q
        have := sub_len (a := y :: fromL rs h k) (b := fromL rs h (k + 1)) (List.nodup_cons.mpr ⟨q2, from_nodup⟩) from_nodup fun x hx => by
          rcases List.mem_cons.mp hx with z | z
          · rw [z]; exact q1
          · exact from_up hh z
        rw [List.length_cons] at this
        omega
theorem from_all (hh : h < rs.length) (q : ∀ y, y ∈ fromL rs h (j + 1) → y ∈ fromL rs h j) (r : Reach rs h y) : y ∈ fromL rs h j := by
  induction r with
  | refl => exact from_le (k := 0) hh (by omega) (by unfold fromL; simp)
  | step r1 h1 h2 ih => exact q _ (mem_step.mpr ⟨h1, .inr ⟨_, h2, ih⟩⟩)
theorem from_reach (hh : h < rs.length) : fromL rs h rs.length = reachL rs h := by
  obtain ⟨m, hm⟩ : ∃ m, rs.length = m + 1 := ⟨rs.length - 1, by omega⟩
  refine asc_one (by rw [hm]; exact (asc_range _).filter _) asc_reachL fun y => ?_
  rw [mem_reachL]
  refine ⟨from_lt hh, fun ⟨_, r⟩ => ?_⟩
  rcases from_grow hh rs.length with ⟨j, h1, h2⟩ | h1
  · exact from_le hh (Nat.le_of_lt h1) (from_all hh h2 r)
  · have := nodup_len _ _ (from_nodup (rs := rs) (h := h) (k := rs.length)) fun x hx => (from_lt hh hx).1
    omega
end
end Ma

/-! Mg: laws of joins, shares and often used webs. -/
namespace Ma
open PySem Rs L2
section
variable {rs : Rows} {n c h : Nat}
theorem len_full : (fullR n).length = n := by unfold fullR; rw [List.length_map, List.length_range]
theorem len_star : (starR n c).length = n := by unfold starR; rw [List.length_map, List.length_range]
theorem len_chain : (chainR n c).length = n := by unfold chainR; rw [List.length_map, List.length_range]
theorem row_made {g : Nat → List Nat} (hh : h < n) : row ((List.range n).map g) h = g h := row_get (by rw [List.getElem?_map, List.getElem?_range hh]; rfl)
/-- joined with a web where nobody hears -/
theorem join_silent (o : Ok rs) : joinR rs (silentR rs.length) = rs := by
  unfold joinR
  apply List.ext_getElem?
  intro i
  rw [List.getElem?_map]
  by_cases hi : i < rs.length
  · have h1 : (rs.zip (silentR rs.length))[i]? = some (row rs i, []) := List.getElem?_zip_eq_some.mpr ⟨get_row hi, by unfold silentR; rw [List.getElem?_replicate, if_pos hi]⟩
    rw [h1, get_row hi]
    refine congrArg some ?_
    refine asc_one ((asc_range _).filter _) (o.row_asc i) fun k => ?_
    rw [mem_union (fun y hy => o.row_lt hy) (fun y hy => by cases hy), List.append_nil]
  · rw [List.getElem?_eq_none (by rw [List.length_zip]; omega), List.getElem?_eq_none (by omega)]
    rfl
/-- what all hear too -/
theorem share_full (o : Ok rs) : shareR rs (fullR rs.length) = rs := by
  unfold shareR
  apply List.ext_getElem?
  intro i
  rw [List.getElem?_map]
  by_cases hi : i < rs.length
  · have h1 : (rs.zip (fullR rs.length))[i]? = some (row rs i, fullRow rs.length i) := List.getElem?_zip_eq_some.mpr ⟨get_row hi, by unfold fullR; rw [List.getElem?_map, List.getElem?_range hi]; rfl⟩
    rw [h1, get_row hi]
    refine congrArg some ?_
    unfold interL
    rw [List.filter_eq_self]
    intro x hx
    have hx : x ∈ row rs i := hx
    refine decide_eq_true ?_
    unfold fullRow
    rw [List.mem_filter, List.mem_range]
    refine ⟨o.row_lt hx, ?_⟩
    have : x ≠ i := fun z => o.row_ne (z ▸ hx)
    simpa using this
  · rw [List.getElem?_eq_none (by rw [List.length_zip]; omega), List.getElem?_eq_none (by omega)]
    rfl
end
end Ma

/-! Mh: roots of often used webs. -/
namespace Ma
open PySem Rs L2
section
variable {rs : Rows} {n c h y : Nat}
theorem roots_one (hc : c < rs.length) (h1 : ∀ y, y < rs.length → Reach rs c y) (h2 : ∀ h, h < rs.length → Reach rs h c → h = c) : rootsN rs = [c] := by
  refine asc_one asc_roots (by simp) fun k => ?_
  rw [mem_roots, List.mem_singleton]
  exact ⟨fun ⟨a, b⟩ => h2 k a (b c hc), fun e => e ▸ ⟨hc, h1⟩⟩
theorem reach_dead (hd : row rs c = []) (r : Reach rs h c) : h = c := by
  cases r with
  | refl => rfl
  | step r1 h1 h2 => rw [hd] at h2; cases h2
theorem roots_star (hc : c < n) : rootsN (starR n c) = [c] := by
  have e : ∀ {y : Nat}, y < n → row (starR n c) y = starRow c y := fun hy => row_made hy
  refine roots_one (by rw [len_star]; exact hc) (fun y hy => ?_) fun h hh r => reach_dead (by rw [e hc, starRow, if_pos rfl]) r
  rw [len_star] at hy
  by_cases q : y = c
  · rw [q]; exact .refl
  · exact .step .refl (by rw [len_star]; exact hy) (by rw [e hy, starRow, if_neg q]; simp)
theorem chain_far (hc : c < n) : ∀ d, d < n → Reach (chainR n c) c ((c + d) % n)
  | 0, _ => by rw [Nat.add_zero, Nat.mod_eq_of_lt hc]; exact .refl
  | d + 1, hd => by
    have ih := chain_far hc d (by omega)
    have hlt : (c + (d + 1)) % n < n := Nat.mod_lt _ (by omega)
    refine .step ih (by rw [len_chain]; exact hlt) ?_
    rw [show row (chainR n c) ((c + (d + 1)) % n) = chainRow n c ((c + (d + 1)) % n) from row_made hlt]
    have hne : (c + (d + 1)) % n ≠ c := by
      intro z
      by_cases q : c + (d + 1) < n
      · rw [Nat.mod_eq_of_lt q] at z; omega
      · rw [show c + (d + 1) = (c + (d + 1) - n) + n from by omega, Nat.add_mod_right, Nat.mod_eq_of_lt (by omega)] at z
        omega
    rw [chainRow, if_neg hne, List.mem_singleton]
    by_cases q : c + (d + 1) < n
    · rw [Nat.mod_eq_of_lt q, show c + (d + 1) + n - 1 = (c + d) + n from by omega, Nat.add_mod_right]
    · rw [show c + (d + 1) = (c + (d + 1) - n) + n from by omega, Nat.add_mod_right, Nat.mod_eq_of_lt (show c + (d + 1) - n < n by omega), show c + (d + 1) - n + n - 1 = c + d from by omega]
theorem roots_chain (hc : c < n) : rootsN (chainR n c) = [c] := by
  refine roots_one (by rw [len_chain]; exact hc) (fun y hy => ?_) fun h hh r => reach_dead (by rw [show row (chainR n c) c = chainRow n c c from row_made hc, chainRow, if_pos rfl]) r
  rw [len_chain] at hy
  by_cases q : c ≤ y
  · have := chain_far hc (y - c) (by omega)
    rwa [show c + (y - c) = y from by omega, Nat.mod_eq_of_lt hy] at this
  · have := chain_far hc (y + n - c) (by omega)
    rwa [show c + (y + n - c) = y + n from by omega, Nat.add_mod_right, Nat.mod_eq_of_lt hy] at this
theorem roots_full : rootsN (fullR n) = List.range n := by
  refine asc_one asc_roots (asc_range _) fun k => ?_
  rw [mem_roots, len_full, List.mem_range]
  refine ⟨fun z => z.1, fun z => ⟨z, fun y hy => ?_⟩⟩
  by_cases q : y = k
  · rw [q]; exact .refl
  · refine .step .refl (by rw [len_full]; exact hy) ?_
    rw [show row (fullR n) y = fullRow n y from row_made hy, fullRow, List.mem_filter, List.mem_range]
    exact ⟨z, by simpa using fun e => q e.symm⟩
end
end Ma

/-! Mi: rounds with a full web. -/
namespace Ma
open PySem Rs L2
section
variable {rs qs : Rows} {n c h y : Nat}
theorem hb_full (hh : h < n) (hy : y < n) : y ∈ hbL (fullR n) h := by
  unfold hbL
  rw [List.mem_filter, len_full, List.mem_range, decide_eq_true_eq]
  refine ⟨hy, ?_⟩
  by_cases q : y = h
  · exact .inr q
  · left
    rw [show row (fullR n) h = fullRow n h from row_made hh, fullRow, List.mem_filter, List.mem_range]
    exact ⟨hy, by simpa using q⟩
theorem hb_me (hh : h < rs.length) : h ∈ hbL rs h := by
  unfold hbL
  rw [List.mem_filter, List.mem_range, decide_eq_true_eq]
  exact ⟨hh, .inr rfl⟩
theorem then_all (hl : qs.length = rs.length) (ht : ∀ h, h < rs.length → ∀ y, y < rs.length → y ∈ toldL rs qs h) : thenR rs qs = fullR rs.length := by
  unfold thenR fullR
  refine List.map_congr_left fun h hh => ?_
  have hh := List.mem_range.mp hh
  unfold thenRow fullRow
  rw [show allL rs qs h = List.range rs.length from asc_one asc_all (asc_range _) fun k => by
    rw [mem_all, List.mem_range]
    exact ⟨fun z => (mem_told.mp z).elim fun _ q => hb_lt q.2, fun z => ht h hh k z⟩]
theorem then_full (hl : rs.length = n) : thenR rs (fullR n) = fullR n := by
  subst hl
  exact then_all len_full fun h hh y hy => mem_told.mpr ⟨y, hb_full hh hy, hb_me hy⟩
theorem full_then (hl : rs.length = n) : thenR (fullR n) rs = fullR n := by
  have := then_all (rs := fullR n) (qs := rs) (by rw [len_full, hl]) fun h hh y hy => mem_told.mpr ⟨h, hb_me (by rw [len_full] at hh; omega), by rw [len_full] at hh hy; exact hb_full hh hy⟩
  rwa [len_full] at this
theorem roots_silent (hn : 1 < n) : rootsN (silentR n) = [] := by
  apply List.eq_nil_iff_forall_not_mem.mpr
  intro k hk
  have e : (silentR n).length = n := by unfold silentR; rw [List.length_replicate]
  have hr : ∀ {y : Nat}, row (silentR n) y = [] := by
    intro y
    unfold row silentR
    rw [List.getD_eq_getElem?_getD, List.getElem?_replicate]
    split <;> rfl
  obtain ⟨h1, h2⟩ := mem_roots.mp hk
  rw [e] at h1 h2
  have a := reach_dead hr (h2 0 (by omega))
  have b := reach_dead hr (h2 1 hn)
  omega
end
end Ma

/-! Mj: a ring of two chains. -/
namespace Ma
open PySem Rs L2
def ringR (n : Nat) : Rows := (List.range n).map fun i => [(i + n - 1) % n]
theorem ring_eq : ∀ n, n < 6 → 2 ≤ n → ∀ h, h < n → joinR (chainR n h) (chainR n ((h + 1) % n)) = ringR n := by decide +kernel
section
variable {n c : Nat}
theorem len_ring : (ringR n).length = n := by unfold ringR; rw [List.length_map, List.length_range]
theorem ring_far (hc : c < n) : ∀ d, d < n → Reach (ringR n) c ((c + d) % n)
  | 0, _ => by rw [Nat.add_zero, Nat.mod_eq_of_lt hc]; exact .refl
  | d + 1, hd => by
    have ih := ring_far hc d (by omega)
    have hlt : (c + (d + 1)) % n < n := Nat.mod_lt _ (by omega)
    refine .step ih (by rw [len_ring]; exact hlt) ?_
    rw [show row (ringR n) ((c + (d + 1)) % n) = [((c + (d + 1)) % n + n - 1) % n] from row_made hlt, List.mem_singleton]
    by_cases q : c + (d + 1) < n
    · rw [Nat.mod_eq_of_lt q, show c + (d + 1) + n - 1 = (c + d) + n from by omega, Nat.add_mod_right]
    · rw [show c + (d + 1) = (c + (d + 1) - n) + n from by omega, Nat.add_mod_right, Nat.mod_eq_of_lt (show c + (d + 1) - n < n by omega), show c + (d + 1) - n + n - 1 = c + d from by omega]
theorem roots_ring : rootsN (ringR n) = List.range n := by
  refine asc_one asc_roots (asc_range _) fun k => ?_
  rw [mem_roots, len_ring, List.mem_range]
  refine ⟨fun z => z.1, fun z => ⟨z, fun y hy => ?_⟩⟩
  by_cases q : k ≤ y
  · have := ring_far z (y - k) (by omega)
    rwa [show k + (y - k) = y from by omega, Nat.mod_eq_of_lt hy] at this
  · have := ring_far z (y + n - k) (by omega)
    rwa [show k + (y + n - k) = y + n from by omega, Nat.add_mod_right, Nat.mod_eq_of_lt hy] at this
end
end Ma

/-! Mk: new numbers. The row of a house goes to its new number, each in it renumbered, sorted. -/
namespace Ma
open PySem Rs L2
/-- whom the house of the new number y hears -/
def renumRow (rs : Rows) (ns : List Nat) (y : Nat) : List Nat := (List.range rs.length).filter fun z => decide (∃ h, h < rs.length ∧ ns.getD h 0 = y ∧ ∃ x ∈ row rs h, ns.getD x 0 = z)
def renumR (rs : Rows) (ns : List Nat) : Rows := (List.range rs.length).map (renumRow rs ns)
section
variable {rs : Rows} {ns : List Nat} {n y z : Nat}
theorem mem_renumRow : z ∈ renumRow rs ns y ↔ z < rs.length ∧ ∃ h, h < rs.length ∧ ns.getD h 0 = y ∧ ∃ x ∈ row rs h, ns.getD x 0 = z := by
  unfold renumRow
  rw [List.mem_filter, List.mem_range, decide_eq_true_eq]
theorem renum_ok (o : Ok rs) (hn : ∀ a b, a < rs.length → b < rs.length → ns.getD a 0 = ns.getD b 0 → a = b) : Ok (renumR rs ns) :=
  made_ok o.pos o.le (fun h _ => (asc_range _).filter _) fun h _ x hx => by
    obtain ⟨h1, g, hg, e1, w, hw, e2⟩ := mem_renumRow.mp hx
    refine ⟨h1, fun q => ?_⟩
    have := hn w g (o.row_lt hw) hg (by rw [e2, e1, q])
    rw [this] at hw
    exact o.row_ne hw
end
end Ma

namespace Wb
open PySem PySem.Spec PyProof.Rows L2 SlX StX Rs Ma Tw
section
variable {P : Program} {w : World} {K : PySem.W.Frag} {mg : Str → Option Value} {base : Heap} {C_Web : Addr}
theorem is_web : ∀ (a : Rows) v F, webP C_Web K a v F → IsOb C_Web v F := fun _ _ _ h => webP.is h
theorem ok_web : ∀ (a : Rows) v F, webP C_Web K a v F → Ok a := fun _ _ _ h => h.1
theorem fl_web_own_heard (W : WebK K C_Web) : Fld K (webP C_Web K) "own_heard" (fun rs => rs) (fD K (dT (dT dN))) := ⟨fun a v F L h => r_heard W (r_c h)⟩
theorem fl_web_own_size (W : WebK K C_Web) : Fld K (webP C_Web K) "own_size" (fun rs => rs.length) (fD K dN) := ⟨fun a v F L h => r_size W (r_c h)⟩
theorem fl_web_own_reached (W : WebK K C_Web) : Fld K (webP C_Web K) "own_reached" (fun rs => reachs rs) (fD K (dT (dT dN))) := ⟨fun a v F L h => r_reached W (r_c h)⟩
theorem fl_web_own_roots (W : WebK K C_Web) : Fld K (webP C_Web K) "own_roots" (fun rs => rootsN rs) (fD K (dT dN)) := ⟨fun a v F L h => r_roots W (r_c h)⟩
theorem fl_web_own_pairs (W : WebK K C_Web) : Fld K (webP C_Web K) "own_pairs" (fun rs => pairsN rs) (fD K (dT (dP dN dN))) := ⟨fun a v F L h => r_pairs W (r_c h)⟩

theorem isnum_inj {ns : List Nat} {n : Nat} (N : IsNum ns n) {a b : Nat} (ha : a < n) (hb : b < n) (h : ns.getD a 0 = ns.getD b 0) : a = b := by
  have hl := N.len
  rw [List.getD_eq_getElem?_getD, List.getD_eq_getElem?_getD, List.getElem?_eq_getElem (by omega), List.getElem?_eq_getElem (by omega)] at h
  exact (List.getElem_inj N.nd).mp h
theorem isnum_lt {ns : List Nat} {n : Nat} (N : IsNum ns n) {a : Nat} (ha : a < n) : ns.getD a 0 < n := by
  have hl := N.len
  rw [List.getD_eq_getElem?_getD, List.getElem?_eq_getElem (by omega)]
  exact N.lt _ (List.getElem_mem _)
theorem isnum_sur {ns : List Nat} {n : Nat} (N : IsNum ns n) {y : Nat} (hy : y < n) : ∃ h, h < n ∧ ns.getD h 0 = y := by
  have hl := N.len
  have hm : y ∈ ns := by
    by_cases q : y ∈ ns
    · exact q
    · have := nodup_len n (y :: ns) (List.nodup_cons.mpr ⟨q, N.nd⟩) fun z hz => (List.mem_cons.mp hz).elim (fun e => e ▸ hy) (N.lt z)
      rw [List.length_cons] at this
      omega
  obtain ⟨h, hh, e⟩ := List.getElem_of_mem hm
  exact ⟨h, by omega, by rw [List.getD_eq_getElem?_getD, List.getElem?_eq_getElem hh]; exact e⟩
def renumStep (rs : Rows) (ns : List Nat) : Nat → Rows
  | 0 => rs
  | i + 1 => (renumStep rs ns i).set (ns.getD i 0) (sortN ((row rs i).map fun x => ns.getD x 0))
theorem renumStep_len {rs : Rows} {ns : List Nat} : ∀ i, (renumStep rs ns i).length = rs.length
  | 0 => rfl
  | i + 1 => by rw [renumStep, List.length_set, renumStep_len i]
theorem renumStep_at {rs : Rows} {ns : List Nat} (N : IsNum ns rs.length) : ∀ i, i ≤ rs.length → ∀ h, h < i → (renumStep rs ns i)[ns.getD h 0]? = some (sortN ((row rs h).map fun x => ns.getD x 0))
  | 0, _, h, hh => by omega
  | i + 1, hi, h, hh => by
    rw [renumStep]
    by_cases e : h = i
    · subst e
      rw [List.getElem?_set_self (by rw [renumStep_len]; exact isnum_lt N hi)]
    · rw [List.getElem?_set_ne (fun z => e (isnum_inj N (by omega) (by omega) z.symm))]
      exact renumStep_at N i (by omega) h (by omega)
theorem renum_sort {rs : Rows} {ns : List Nat} (ok : Ok rs) (N : IsNum ns rs.length) {h : Nat} (hh : h < rs.length) : sortN ((row rs h).map fun x => ns.getD x 0) = renumRow rs ns (ns.getD h 0) := by
  have a1 : Asc (renumRow rs ns (ns.getD h 0)) := (asc_range _).filter _
  refine sortN_eq (a1.imp fun z => Nat.le_of_lt z) ?_
  refine (List.perm_ext_iff_of_nodup (asc_nodup a1) ?_).mpr fun z => ?_
  · exact List.pairwise_map.mpr ((asc_nodup (ok.row_asc h)).imp_of_mem fun hx hy ne e => ne (isnum_inj N (ok.row_lt hx) (ok.row_lt hy) e))
  · rw [mem_renumRow, List.mem_map]
    constructor
    · rintro ⟨h1, g, hg, e1, x, hx, e2⟩
      have := isnum_inj N hg hh e1
      subst this
      exact ⟨x, hx, e2⟩
    · rintro ⟨x, hx, e⟩
      exact ⟨by rw [← e]; exact isnum_lt N (ok.row_lt hx), h, hh, rfl, x, hx, e⟩
theorem renumStep_all {rs : Rows} {ns : List Nat} (ok : Ok rs) (N : IsNum ns rs.length) : renumStep rs ns rs.length = renumR rs ns := by
  apply List.ext_getElem?
  intro y
  by_cases hy : y < rs.length
  · obtain ⟨h, hh, e⟩ := isnum_sur N hy
    rw [← e, renumStep_at N _ (Nat.le_refl _) h hh, renum_sort ok N hh, renumR, List.getElem?_map, List.getElem?_range (isnum_lt N hh)]
    rfl
  · rw [List.getElem?_eq_none (by rw [renumStep_len]; omega), List.getElem?_eq_none (by rw [renumR, List.length_map, List.length_range]; omega)]
theorem enum_at {α : Type} {xs : List α} {i : Nat} {p : Nat × α} (h : (enumL xs)[i]? = some p) : p.1 = i ∧ xs[i]? = some p.2 := by
  unfold enumL at h
  rw [List.getElem?_map, List.getElem?_zipIdx] at h
  cases e : xs[i]? with
  | none => rw [e] at h; cases h
  | some x => rw [e] at h; cases h; exact ⟨by simp, rfl⟩
theorem enum_len {α : Type} {xs : List α} : (enumL xs).length = xs.length := by unfold enumL; rw [List.length_map, List.length_zipIdx]
abbrev s_Web_renumbered : Stmt := inClass (topS 18) 14
abbrev N_Web_renumbered : List Str := ["self", "numbers", "rows", "house", "row", "other"]
theorem sc_Web_renumbered : FnScope N_Web_renumbered ["self", "numbers"] (defScope s_Web_renumbered) := ⟨rfl, rfl, rfl, by decide +kernel, rfl, by decide +kernel, by decide +kernel⟩
theorem ok_Web_renumbered {f : Addr} {fd : FuncData} (B : Bf mg) (c_is_numbering : Gf P w K mg base 3 "is_numbering" (SpN (fun g : (List Nat) × Nat => [(fD K (dT dN)) g.1, (fD K dN) g.2]) (fun (g : List Nat × Nat) (Q : Bool → Prop) => IsNum g.1 g.2 ∧ Q true) (fD K dB))) (W_web : WebK K C_Web) (c_Web : MkF P w K mg base 6 "Web" C_Web (spWebInit C_Web K)) (F : Fun K "renumbered" "Web.renumbered" s_Web_renumbered f fd) : FnOk P w K mg base CX0 8 f fd ["self", "numbers"] (SpN (fun g : Rows × (List Nat) => [(webP C_Web K) g.1, (fD K (dT dN)) g.2]) (fun (g : Rows × List Nat) (Q : Rows → Prop) => IsNum g.2 g.1.length ∧ Q (renumR g.1 g.2)) (webP C_Web K)) := by
  refine gw_met F sc_Web_renumbered (fun _ => rfl) (fun _ => inferInstance) fun cdv A outer s H E g hr => ?_
  obtain ⟨v_self, v_numbers⟩ := g
  refine ⟨_, (pss_cons (ps_if (pt_not (pt_val (p_call c_is_numbering hr (by decide) (pa_cons (pv 1) (pa_cons (pe_sl (pv 0)) pa_nil)))))
      (pss_one ps_never)
      pss_nil)
    (pss_cons (ps_set (i := 2) sc_Web_renumbered.nd rfl (by first | exact Or.inl rfl | exact Or.inr rfl) (p_list B (pa_cons (pe_sl (pv 0)) pa_nil)))
    (pss_cons (ps_for PassesOwn.never rfl (pi_enumT (by rfl) B.enumerate (pa_cons (pe_sl (pv 0)) pa_nil)) (pg_tup rfl (pgs_cons (pg_name (i := 3) sc_Web_renumbered.nd rfl (by first | exact Or.inl rfl | exact Or.inr rfl)) (pgs_cons (pg_name (i := 4) sc_Web_renumbered.nd rfl (by first | exact Or.inl rfl | exact Or.inr rfl)) pgs_nil)))
      (pss_one (ps_asg (p_tuple B (pa_cons (p_sortedL B (pa_cons (pe_lc (own := [("other", 5)]) (g := gName 5) (tt := tYes) rfl sc_Web_renumbered.nd (pi_tup (pv 4)) (blkOk_by (N := N_Web_renumbered) (sc := defScope s_Web_renumbered) (by decide +kernel)) (fun _ _ _ _ _ => (pg_name (i := 5) sc_Web_renumbered.nd rfl (by first | exact Or.inl rfl | exact Or.inr rfl))) (fun _ _ _ _ _ => pts_nil) (fun _ _ _ _ _ => by exact (pe_ix (ix_tupK K) (pv 1) (pv 5) (fun _ _ => rfl)))) pa_nil)) pa_nil)) (pg_sub (pv 2) (pe_ix ix_tup (pv 1) (pv 3) (fun _ _ => rfl)) set_list))))
    (pss_one (ps_ret (p_mk c_Web hr (by decide) (pa_cons (p_tuple B (pa_cons (pv 2) pa_nil)) pa_nil))))))), _,
    (ts_ifq (tt_not (tt_B (tr_call (ta_cons (tr_var (R := (fD K (dT dN))) (a := v_numbers) rfl) (ta_one (tr_fld (fl_web_own_size W_web) (tr_var (R := (webP C_Web K)) (a := v_self) rfl)))))))
      ts_neverq
      (ts_nextq (ts_newC 2 (tn_listT (R := (fD K (dT dN))) (tr_dTp (tr_fld (fl_web_own_heard W_web) (tr_var (R := (webP C_Web K)) (a := v_self) rfl)))) rfl rfl (fun l1 => (ts_for (S1 := (List (List Nat))) (ρ1 := fun s2 => [some ((webP C_Web K) v_self), some ((fD K (dT dN)) v_numbers), none, none, none, none]) (κ1s := fun s2 => [(2, ownL ((s2).map (fD K (dT dN))))]) l1 (leV_some (leV_some (leV_none (leV_none (leV_none (leV_none leV_nil)))))) (fun _ _ _ h => h) (ti_enumT (R := (fD K (dT dN))) (tr_dTp (tr_fld (fl_web_own_heard W_web) (tr_var (R := (webP C_Web K)) (a := v_self) rfl)))) (tg_pair (tg_name (R := (fD K dN)) 3) (tg_name (R := (fD K (dT dN))) 4)) (fun _ => rfl)
      (fun s2 x3 => (ts_one (ts_putC (R := (fD K (dT dN))) (xs := s2) (tr_cb c_tupDL (ta_one (tr_cb c_sorted (ta_one (tr_lnD (tr_lc (vs := [5]) (Rd := (fD K dN)) (ti_tupD (tr_var (R := (fD K (dT dN))) (a := x3.2) rfl)) (tg_name (R := (fD K dN)) 5) rfl rfl rfl (fun _ => rfl) (fun x4 => tt_yes) (fun x4 => (tr_op o_ixT (tr_var (R := (fD K (dT dN))) (a := v_numbers) rfl) (tr_var (R := (fD K dN)) (a := x4) rfl))))))))) (tr_op o_ixT (tr_var (R := (fD K (dT dN))) (a := v_numbers) rfl) (tr_var (R := (fD K dN)) (a := x3.1) rfl)) (fun y5 n6 => (ts_next (s2.set n6 y5) (leV_some (leV_some (leV_none (leV_none (leV_none (leV_none leV_nil)))))) (fun _ _ _ h => h))))))
      (fun s2 => (ts_ret (tr_fact (p := Ok) ok_web (tr_mk (ta_one (tr_tpD (tr_tupC (R := (fD K (dT dN))) (xs := s2))))))))))))), ?_⟩
  rintro Q ⟨vs0, F0, hv⟩ hs
  try delta pur
  try dsimp only at hs hv ⊢
  obtain ⟨N, hs⟩ := hs
  obtain ⟨v, _, rfl, ⟨ok, _⟩, _⟩ := each2 hv
  have hl := N.len
  refine ⟨N, ?_⟩
  simp only [Bool.not_true, Bool.false_eq_true, if_false]
  refine forW_at (f := renumStep v_self v_numbers) (fun i p hp P hP => ?_) ?_
  · obtain ⟨h1, h2⟩ := enum_at hp
    obtain ⟨j, r⟩ := p
    obtain rfl : j = i := h1
    have hi : j < v_self.length := (List.getElem?_eq_some_iff.mp h2).1
    have hr : row v_self j = r := row_get h2
    have hrl : r.length ≤ 5 := by
      rw [← hr]
      exact Nat.le_trans (nodup_len _ _ (asc_nodup (ok.row_asc j)) fun z hz => ok.row_lt hz) ok.le
    dsimp only
    refine ⟨by omega, lcW_map (h := fun x => v_numbers.getD x 0) (fun x hx Q q => ⟨_, ?_, q⟩) ⟨by rw [List.length_map]; omega, v_numbers.getD j 0, ?_, by rw [renumStep_len]; exact isnum_lt N hi, ?_⟩⟩
    · have : x < v_self.length := ok.row_lt (show x ∈ row v_self j by rw [hr]; exact hx)
      rw [List.getD_eq_getElem?_getD, List.getElem?_eq_getElem (by omega)]; rfl
    · rw [List.getD_eq_getElem?_getD, List.getElem?_eq_getElem (by omega)]; rfl
    · rw [renumStep, hr] at hP; exact hP
  · rw [enum_len, renumStep_all ok N]
    exact ⟨renum_ok ok fun a b ha hb => isnum_inj N ha hb, fun _ => hs⟩
end
end Wb

/-! Tx1: isinstance of tuples of objects, of objects. -/
namespace Tw
open PySem PySem.Spec PyProof.Rows L2 SlX StX Rs Ma Sn
section
variable {ε α : Type} {Z : Wsh ε} {ρ : List (Option VP)} {κ : List Ow} {K : PySem.W.Frag} {C : Addr} {R Ra : α → VP} {F H : Hp}
theorem ty_sqT {a : Addr} {xs : List V} (h : SqT K H a xs) : TyX K H (.ref a) (.type "tuple") := by
  rcases h with (h | ⟨o, h⟩) | ⟨o, its, n, h, hc, _⟩
  · exact .base (.tup h)
  · exact .fTuple h
  · exact .kTuple h hc
theorem c_isiTp [∀ a, Mono (R a)] : Cb ε (rIsi K) (fun p : List α × Unit => [fTp K R p.1, Eqv (.ty "tuple")]) (fun _ => pur true) (fD K dB) := .of fun g vs F L hv Q X q1 => by
  obtain ⟨v, u, rfl, h1, h2⟩ := each2 hv
  exact ⟨true, q1, r_isi (σ := []) (t := tCons (tC v) (tCons (tC u) tNil)) (K := K) (ty := .type "tuple") (b := true) (r_cons (r_c (R := fTp K R g.1) h1) (r_cons (r_c h2) r_nil)) (fun v F1 F2 H hv e1 e2 => by
    obtain ⟨a, xs, rfl, hs, _⟩ := hv
    exact ty_sqT (sqT_up (e1.trans e2) hs)) (kit_ty (by decide +kernel))⟩
theorem c_isiOwn [∀ a, Mono (Ra a)] (sc : SCls K C) (si : SIsi K C) (kit : PySem.W.kitOne K (.ref C) (.ref C) = some true) (hS : ∀ a v F, Ra a v F → IsOb C v F) :
    Cb ε (fun xs H Q => rIsi K xs H Q ∨ rIsiSl K (.ref C) xs H Q) (fun p : α × Unit => [Ra p.1, Eqv (.ref C)]) (fun _ => pur true) (fD K dB) := .of fun g vs F L hv Q X q1 => by
  obtain ⟨v, u, rfl, h1, h2⟩ := each2 hv
  cases h2
  obtain ⟨a, dx, vs, rfl, p1, p2⟩ := hS _ _ _ h1
  exact ⟨true, q1, fun F2 N H e2 A Qk qk => .inr ⟨a, C, dx, vs, .ref C, true, rfl, rfl, fun w hw => hw, at_slt A (e2 _ _ p1) (e2 _ _ p2), sc, si, kit, qk _ F2 H (Same.refl _) A (.bl true)⟩⟩
theorem tr_clsV : TrE Z ρ κ (tC (.ref C)) (pur ()) fun _ : Unit => Eqv (.ref C) := ⟨fun _ => inferInstance, fun σ F L s c Q X q => .of (run_ret fun F1 e => ⟨(), q, rfl⟩)⟩
end
/-! ### defs that fall off their end -/
section
variable {P : Program} {w : World} {K : PySem.W.Frag} {mg : Str → Option Value} {base : Heap} {γ : Type}
theorem gw_metN {x qual : Str} {stt : Stmt} {f : Addr} {fd : FuncData} {N ps : List Str} {k : Nat} {Rs : γ → List VP} {spec : γ → (Unit → Prop) → Prop} (F : Fun K x qual stt f fd) (Sc : FnScope N ps (defScope stt)) (len : ∀ g, (Rs g).length = ps.length) (hm : ∀ g, MonoAll (Rs g))
    (body : ∀ (cdv : Value) (A : Around) (outer : List Env) (s : Shared) (H : Hp) (E : XK) (g : γ), Room k (A.deeper (envOfC qual (defScope stt) s.heap.objs.size f cdv)) →
      ∃ t, PSs (cxOf CX0 P w K mg base N qual (defScope stt) f cdv A outer s H E).nox (defBody stt) t ∧ ∃ m : Ws Empty Unit Unit, TrS Z0 (ofArgs (Rs g) N.length) [] t m (fun _ => List.replicate N.length none) (fun _ => []) (fD K dU) ∧ ∀ Q, (∃ vs F, Each (Rs g) vs F) → spec g Q → m (fun _ => Q ()) Q X0) :
    FnOk P w K mg base CX0 (k + 1) f fd ps (SpN Rs spec (fD K dU)) := gw_ok (fun Q _ => Q ()) F Sc len hm _ _ (fun _ _ h => ⟨(), h, fun _ => .non⟩) body
theorem gw_mkN {x : Str} {stt : Stmt} {f : Addr} {fd : FuncData} {N ps : List Str} {k : Nat} {Rs : γ → List VP} {spec : γ → (Unit → Prop) → Prop} (F : Fun K x x stt f fd) (hmg : mg x = some (.ref f)) (b : Binds K fd ps []) (Sc : FnScope N ps (defScope stt)) (len : ∀ g, (Rs g).length = ps.length) (hm : ∀ g, MonoAll (Rs g))
    (body : ∀ (cdv : Value) (A : Around) (outer : List Env) (s : Shared) (H : Hp) (E : XK) (g : γ), Room k (A.deeper (envOfC x (defScope stt) s.heap.objs.size f cdv)) →
      ∃ t, PSs (cxOf CX0 P w K mg base N x (defScope stt) f cdv A outer s H E).nox (defBody stt) t ∧ ∃ m : Ws Empty Unit Unit, TrS Z0 (ofArgs (Rs g) N.length) [] t m (fun _ => List.replicate N.length none) (fun _ => []) (fD K dU) ∧ ∀ Q, (∃ vs F, Each (Rs g) vs F) → spec g Q → m (fun _ => Q ()) Q X0) :
    Gf P w K mg base (k + 1) x (SpN Rs spec (fD K dU)) := ⟨f, fd, ps, gw_metN F Sc len hm body, hmg, F.kp, b⟩
end
theorem forW_inv2 {ε S β δ : Type} {mbd : S → β → Ws ε S δ} {Nx : S → Prop} {Rt : δ → Prop} {X : ε → Prop} : ∀ {xs : List β} {s : S} (J : Nat → S → Prop), J 0 s → (∀ i x s (P : S → Prop), xs[i]? = some x → J i s → (∀ s', J (i + 1) s' → P s') → mbd s x P Rt X) → (∀ s, J xs.length s → Nx s) → forW mbd xs s Nx Rt X
  | [], s, J, h0, _, hn => hn s h0
  | x :: xs, s, J, h0, hb, hn => hb 0 x s _ rfl h0 fun s' h1 => forW_inv2 (fun i => J (i + 1)) h1 (fun i y s P hy => hb (i + 1) y s P hy) hn
theorem fn_in {K : PySem.W.Frag} {x qual : Str} {stt : Stmt} {f : Addr} {fd : FuncData} (F : Fun K x qual stt f fd) : PySem.W.fnIn K f = true := by
  obtain ⟨oc, od, kV, doc, pm, an, cdv, ct, osl, rfl, lk, hcd⟩ := F.ex
  unfold PySem.W.fnIn
  rw [lk]
end Tw

/-! Tp0: what a pool is. -/
namespace Wb
open PySem PySem.Spec PyProof.Rows L2 SlX StX Rs Ma Sn Tw
def psize (rss : List Rows) : Nat := (rss.headD []).length
/-- different webs on the same houses -/
structure POk (rss : List Rows) : Prop where
  pos : 1 ≤ rss.length
  le : rss.length ≤ 8
  nd : rss.Nodup
  ok : ∀ rs ∈ rss, Ok rs
  sz : ∀ rs ∈ rss, rs.length = psize rss
def placesL (rss : List Rows) : List (Rows × Nat) := (enumL rss).map fun x => (x.2, x.1)
noncomputable def poolVs (CW : Addr) (K : PySem.W.Frag) (P : Program) (w : World) (rss : List Rows) : List VP := [fTp K (webP CW K) rss, fD K dN (psize rss), fDK K P w (dT (dT dN)) (fD K dN) (placesL rss)]
instance {CW : Addr} {K : PySem.W.Frag} {P : Program} {w : World} {rss : List Rows} : MonoL (poolVs CW K P w rss) := by unfold poolVs; infer_instance
noncomputable def poolP (C CW : Addr) (K : PySem.W.Frag) (P : Program) (w : World) (rss : List Rows) : VP := fun v F => POk rss ∧ Ob C [2, 1, 0] (poolVs CW K P w rss) v F
instance {C CW : Addr} {K : PySem.W.Frag} {P : Program} {w : World} {rss : List Rows} : Mono (poolP C CW K P w rss) := ⟨fun _ _ _ e h => ⟨h.1, Mono.go h.2 e⟩⟩
structure PoolK (K : PySem.W.Frag) (C : Addr) : Prop where
  sc : SCls K C
  si : SIsi K C
  kit : PySem.W.kitOne K (.ref C) (.ref C) = some true
  webs : SlF K C "own_webs" 2
  size : SlF K C "own_size" 1
  places : SlF K C "own_places" 0
noncomputable abbrev spPoolInit (C CW : Addr) (K : PySem.W.Frag) (P : Program) (w : World) : Sp := SpI C (γ := List Rows) POk (fun rss => [fTp K (webP CW K) rss]) (fun rss => poolP C CW K P w rss)
section
variable {P : Program} {w : World} {K : PySem.W.Frag} {C_Pool C_Web : Addr}
theorem is_pool : ∀ (a : List Rows) v F, poolP C_Pool C_Web K P w a v F → IsOb C_Pool v F := fun _ _ _ h => h.2.is
theorem ok_pool : ∀ (a : List Rows) v F, poolP C_Pool C_Web K P w a v F → POk a := fun _ _ _ h => h.1
theorem fl_pool_own_webs (W : PoolK K C_Pool) : Fld K (poolP C_Pool C_Web K P w) "own_webs" (fun rss => rss) (fTp K (webP C_Web K)) := ⟨fun a v F L h => r_fld (k := 0) (is := [2, 1, 0]) (Rs := poolVs C_Web K P w a) W.webs (r_c (R := Ob C_Pool [2, 1, 0] (poolVs C_Web K P w a)) h.2) rfl rfl⟩
theorem fl_pool_own_size (W : PoolK K C_Pool) : Fld K (poolP C_Pool C_Web K P w) "own_size" (fun rss => psize rss) (fD K dN) := ⟨fun a v F L h => r_fld (k := 1) (is := [2, 1, 0]) (Rs := poolVs C_Web K P w a) W.size (r_c (R := Ob C_Pool [2, 1, 0] (poolVs C_Web K P w a)) h.2) rfl rfl⟩
theorem fl_pool_own_places (W : PoolK K C_Pool) : Fld K (poolP C_Pool C_Web K P w) "own_places" (fun rss => placesL rss) (fDK K P w (dT (dT dN)) (fD K dN)) := ⟨fun a v F L h => r_fld (k := 2) (is := [2, 1, 0]) (Rs := poolVs C_Web K P w a) W.places (r_c (R := Ob C_Pool [2, 1, 0] (poolVs C_Web K P w a)) h.2) rfl rfl⟩
theorem it_pool : ∀ (rss : List Rows) v F, poolP C_Pool C_Web K P w rss v F → SlT K C_Pool 2 (rss.map (webP C_Web K)) v F := fun rss v F h => by
  obtain ⟨a, dx, vs, xs, rfl, h1, h2, g, r⟩ := h.2
  match xs, r with
  | x :: xs, r =>
    obtain ⟨l, zs, el, hs, hr⟩ := r.1
    refine ⟨a, dx, vs, l, rfl, h1, h2, ?_, l, zs, rfl, hs, hr⟩
    have := g.2 0 2 x rfl rfl
    rw [this, el]
/-- what the constructor leaves -/
theorem pool_of {rss : List Rows} {F : Hp} {a dx : Addr} {vs : List (Option V)} {v1 v2 v3 : V} (ok : POk rss) (h1 : F a = some (SlO a C_Pool dx vs)) (h2 : F dx = some (.xd [])) (g : Got [2, 1, 0] [v1, v2, v3] vs) (r1 : fTp K (webP C_Web K) rss v1 F) (r2 : fD K dN (psize rss) v2 F) (r3 : fDK K P w (dT (dT dN)) (fD K dN) (placesL rss) v3 F) :
    poolP C_Pool C_Web K P w rss (.ref a) F := ⟨ok, a, dx, vs, [v1, v2, v3], rfl, h1, h2, g, r1, r2, r3, True.intro⟩
end
theorem enumL_map {α : Type} {xs : List α} : (enumL xs).map (·.2) = xs := by
  unfold enumL
  rw [List.map_map]
  show List.map (fun p : α × Nat => p.1) xs.zipIdx = xs
  rw [List.zipIdx_map_fst]
theorem places_nodup {rss : List Rows} (h : rss.Nodup) : ((placesL rss).map (·.1)).Nodup := by
  unfold placesL
  rw [List.map_map]
  show ((enumL rss).map (·.2)).Nodup
  rw [enumL_map]; exact h
theorem psize_head {rss : List Rows} {rs : Rows} (h : rss[0]? = some rs) : psize rss = rs.length := by
  cases rss with
  | nil => cases h
  | cons a b => cases h; rfl
/-- the houses that are roots of all webs -/
noncomputable def alwaysN (rss : List Rows) : List Nat := (List.range (psize rss)).filter fun h => (rss.map fun rs => decide (h ∈ rootsN rs)).all id
end Wb

/-! pools: made, walked -/
namespace Wb
open PySem PySem.Spec PyProof.Rows L2 SlX StX Rs Ma Sn Tw
section
variable {P : Program} {w : World} {K : PySem.W.Frag} {mg : Str → Option Value} {base : Heap} {C_Web C_Pool : Addr}
abbrev s_are_webs : Stmt := topS 26
abbrev N_are_webs : List Str := ["value", "web", "rows"]
theorem sc_are_webs : FnScope N_are_webs ["value"] (defScope s_are_webs) := ⟨rfl, rfl, rfl, by decide +kernel, rfl, by decide +kernel, by decide +kernel⟩
theorem ok_are_webs {f : Addr} {fd : FuncData} (B : Bf mg) (g_MAX_WEBS : GInt mg "MAX_WEBS" 8) (m_Web : mg "Web" = some (.ref C_Web)) (W_web : WebK K C_Web) (F : Fun K "are_webs" "are_webs" s_are_webs f fd) (hm : mg "are_webs" = some (.ref f)) (b : Binds K fd ["value"] []) : Gf P w K mg base 1 "are_webs" (SpN (fun g : (List Rows) => [(fTp K (webP C_Web K)) g]) (fun (g : List Rows) (Q : Bool → Prop) => POk g ∧ Q true) (fD K dB)) := by
  refine gw_mk F hm b sc_are_webs (fun _ => rfl) (fun _ => inferInstance) fun cdv A outer s H E g hr => ?_
  obtain ⟨v_value, hgen⟩ : ∃ x, x = g := ⟨g, rfl⟩
  subst hgen
  refine ⟨_, (pss_cons (ps_if (PW.pt (pw_or (pt_not (pt_val (p_isi B (pa_cons (pv 0) (pa_cons (p_ty (by rfl) B.tuple boot_tuple) pa_nil))))) (pw_or1 (pt_not (pt_chain op_le op_le pe_int (p_len B (pa_cons (pv 0) pa_nil)) (p_gint g_MAX_WEBS))))))
      (pss_one (ps_ret pe_bl))
      pss_nil)
    (pss_cons (ps_if (pt_not (pt_val (p_all rfl B (pa_cons (pe_lc (own := [("web", 1)]) (g := gName 1) (tt := tYes) rfl sc_are_webs.nd (pi_tup (pv 0)) (blkOk_by (N := N_are_webs) (sc := defScope s_are_webs) (by decide +kernel)) (fun _ _ _ _ _ => (pg_name (i := 1) sc_are_webs.nd rfl (by first | exact Or.inl rfl | exact Or.inr rfl))) (fun _ _ _ _ _ => pts_nil) (fun _ _ _ _ _ => by exact (p_isiSK K (.ref C_Web) B (pa_cons (pv 1) (pa_cons (p_cls (by rfl) m_Web) pa_nil))))) pa_nil))))
      (pss_one (ps_ret pe_bl))
      pss_nil)
    (pss_cons (ps_set (i := 2) sc_are_webs.nd rfl (by first | exact Or.inl rfl | exact Or.inr rfl) (p_setNK K P w rfl hr.units B (pa_cons (pe_lc (own := [("web", 1)]) (g := gName 1) (tt := tYes) rfl sc_are_webs.nd (pi_tup (pv 0)) (blkOk_by (N := N_are_webs) (sc := defScope s_are_webs) (by decide +kernel)) (fun _ _ _ _ _ => (pg_name (i := 1) sc_are_webs.nd rfl (by first | exact Or.inl rfl | exact Or.inr rfl))) (fun _ _ _ _ _ => pts_nil) (fun _ _ _ _ _ => by exact (pe_slK K (pv 1)))) pa_nil)))
    (pss_one (ps_ret (pe_and (pe_cmpR op_eq (p_lenNK P w B (pa_cons (pv 2) pa_nil)) (p_len B (pa_cons (pv 0) pa_nil)) (nomark _)) (pe_one (p_all rfl B (pa_cons (pe_lc (own := [("web", 1)]) (g := gName 1) (tt := tYes) rfl sc_are_webs.nd (pi_tup (pv 0)) (blkOk_by (N := N_are_webs) (sc := defScope s_are_webs) (by decide +kernel)) (fun _ _ _ _ _ => (pg_name (i := 1) sc_are_webs.nd rfl (by first | exact Or.inl rfl | exact Or.inr rfl))) (fun _ _ _ _ _ => pts_nil) (fun _ _ _ _ _ => by exact (pe_cmpR op_eq (pe_slK K (pv 1)) (pe_slK K (pe_ix (ix_tupK K) (pv 0) pe_int (fun _ _ => rfl))) (nomark _)))) pa_nil))))))))), _,
    (ts_ifq (tt_or (tt_not (tt_B (tr_cb c_isiTp (ta_cons (tr_var (R := (fTp K (webP C_Web K))) (a := v_value) rfl) (ta_one tr_ty))))) (tt_not (tt_test (tr_chain (tr_int (K := K)) (tr_ni (tr_cb c_lenT (ta_one (tr_var (R := (fTp K (webP C_Web K))) (a := v_value) rfl)))) (tr_ni (tr_nat (K := K) 8))))))
      (ts_retq (tr_bl (K := K)))
      (ts_nextq (ts_ifq (tt_not (tt_B (tr_cb c_all (ta_one (tr_lc (vs := [1]) (Rd := (fD K dB)) (ti_tup (tr_var (R := (fTp K (webP C_Web K))) (a := v_value) rfl)) (tg_name (R := (webP C_Web K)) 1) rfl rfl rfl (fun _ => rfl) (fun x1 => tt_yes) (fun x1 => (tr_cb (c_isiOwn W_web.sc W_web.si W_web.kit is_web) (ta_cons (tr_var (R := (webP C_Web K)) (a := x1) rfl) (ta_one tr_clsV)))))))))
      (ts_retq (tr_bl (K := K)))
      (ts_nextq (ts_set (R := (fSK P w (dT (dT dN)))) 2 (tr_cb c_setK (ta_one (tr_lnD (tr_lc (vs := [1]) (Rd := (fD K (dT (dT dN)))) (ti_tup (tr_var (R := (fTp K (webP C_Web K))) (a := v_value) rfl)) (tg_name (R := (webP C_Web K)) 1) rfl rfl rfl (fun _ => rfl) (fun x2 => tt_yes) (fun x2 => (tr_fld (fl_web_own_heard W_web) (tr_var (R := (webP C_Web K)) (a := x2) rfl))))))) rfl (fun v_rows_3 => (ts_ret (tr_and (tr_op o_eqN (tr_cb c_lenK (ta_one (tr_var (R := (fSK P w (dT (dT dN)))) (a := v_rows_3) rfl))) (tr_cb c_lenT (ta_one (tr_var (R := (fTp K (webP C_Web K))) (a := v_value) rfl)))) (tr_cb c_all (ta_one (tr_lc (vs := [1]) (Rd := (fD K dB)) (ti_tup (tr_var (R := (fTp K (webP C_Web K))) (a := v_value) rfl)) (tg_name (R := (webP C_Web K)) 1) rfl rfl rfl (fun _ => rfl) (fun x4 => tt_yes) (fun x4 => (tr_op o_eqN (tr_fld (fl_web_own_size W_web) (tr_var (R := (webP C_Web K)) (a := x4) rfl)) (tr_fld (fl_web_own_size W_web) (tr_op o_ixTp (tr_var (R := (fTp K (webP C_Web K))) (a := v_value) rfl) (tr_nat (K := K) 0)))))))))))))))), ?_⟩
  rintro Q ⟨vs0, F0, hv⟩ hs
  try delta pur
  try dsimp only at hs hv ⊢
  obtain ⟨ok, q⟩ := hs
  have h1 := ok.pos
  have h8 := ok.le
  have e1 : decide ((1 : Int) ≤ (v_value.length : Int)) = true := decide_eq_true (by omega)
  have e2 : decide ((v_value.length : Int) ≤ ((8 : Nat) : Int)) = true := decide_eq_true (by omega)
  refine orW_of false false (fun P hP => hP) (fun _ P hP => ?_) ?_
  · rw [chW_p (g1 := fun i j => decide (i ≤ j)) (g2 := fun i j => decide (i ≤ j)), e1, e2]; exact hP
  rw [Bool.or_false, if_neg Bool.false_ne_true]
  refine ⟨by omega, lcW_map (h := fun _ => true) (fun _ _ Q hQ => hQ) ?_⟩
  have all1 : ∀ xs : List Rows, (xs.map fun _ => true).all id = true := fun xs => by rw [List.all_map]; exact List.all_eq_true.mpr fun _ _ => rfl
  rw [all1, Bool.not_true, if_neg Bool.false_ne_true]
  refine ⟨by omega, lcW_map (h := fun x => x) (fun _ _ Q hQ => hQ) ?_⟩
  rw [List.map_id']
  refine ⟨by omega, andW_of true true (fun P hP => ?_) (fun _ P hP => ?_) q⟩
  · rw [decide_eq_true (dd_len.mpr ok.nd)]; exact hP
  · refine ⟨by omega, lcW_map (h := fun _ => true) (fun x hx Q hQ => ?_) (by rw [all1]; exact hP)⟩
    have h0 : v_value[0]? = some v_value[0] := List.getElem?_eq_getElem (by omega)
    refine ⟨_, h0, ?_⟩
    rw [decide_eq_true (by rw [← psize_head h0]; exact ok.sz x hx)]
    exact hQ
-- Pool.__init__: 0:self 1:webs 2:index 3:web
abbrev s_Poolu__initu_ : Stmt := inClass (topS 27) 1
abbrev N_Poolu__initu_ : List Str := ["self", "webs", "index", "web"]
theorem sc_Poolu__initu_ : FnScope N_Poolu__initu_ ["self", "webs"] (defScope s_Poolu__initu_) := ⟨rfl, rfl, rfl, by decide +kernel, rfl, by decide +kernel, by decide +kernel⟩
theorem ok_pool_init {f : Addr} {fd : FuncData} (B : Bf mg) (W_web : WebK K C_Web) (W_pool : PoolK K C_Pool) (c_are_webs : Gf P w K mg base 1 "are_webs" (SpN (fun g : (List Rows) => [(fTp K (webP C_Web K)) g]) (fun (g : List Rows) (Q : Bool → Prop) => POk g ∧ Q true) (fD K dB))) (F : Fun K "__init__" "Pool.__init__" s_Poolu__initu_ f fd) :
    FnOk P w K mg base CX0 9 f fd ["self", "webs"] (spPoolInit C_Pool C_Web K P w) := by
  refine init_ok F sc_Poolu__initu_ (fun _ => rfl) fun cdv A outer s H E v_webs a dx vs F0 hr ok hv => ?_
  obtain ⟨v, rfl, h1⟩ := each1 hv
  refine ⟨_, (pss_cons (ps_if (pt_not (pt_val (p_call c_are_webs hr (by decide) (pa_cons (pv 1) pa_nil))))
        (pss_one ps_never)
        pss_nil)
      (pss_cons (ps_sl (pv 0) (pv 1))
      (pss_cons (ps_sl (pv 0) (pe_sl (pe_ix ix_tup (pv 1) pe_int (fun _ _ => rfl))))
      (pss_one (ps_sl (pv 0) (pe_dcK (own := [("index", 2), ("web", 3)]) (g := gTup K 2 (gCons (gName 2) (gCons (gName 3) gNil))) (tt := tYes) rfl hr.units sc_Poolu__initu_.nd (pi_enumT (by rfl) B.enumerate (pa_cons (pv 1) pa_nil)) (blkOk_by (N := N_Poolu__initu_) (sc := defScope s_Poolu__initu_) (by decide +kernel)) (fun _ _ _ _ _ => (pg_tup rfl (pgs_cons (pg_name (i := 2) sc_Poolu__initu_.nd rfl (by first | exact Or.inl rfl | exact Or.inr rfl)) (pgs_cons (pg_name (i := 3) sc_Poolu__initu_.nd rfl (by first | exact Or.inl rfl | exact Or.inr rfl)) pgs_nil)))) (fun _ _ _ _ _ => pts_nil) (fun _ _ _ _ _ => by exact (pe_slK K (pv 3))) (fun _ _ _ _ _ => by exact (pv 2)))))))), ?_⟩
  have sv : SatV [none, some (fTp K (webP C_Web K) v_webs), none, none] (start N_Poolu__initu_ [.ref a, v]) F0 := ⟨⟨v, rfl, h1, inferInstance⟩, True.intro⟩
  refine q_if (b := false) (Run.weak (run0 (((tt_not (tt_B (tr_call (ta_one (tr_var (R := (fTp K (webP C_Web K))) (a := v_webs) rfl))))) : TrT Z0 _ [] _ _).run _ F0 _ sv True.intro (fun b => b = false) X0 ?_)) fun b F1 e h => h) (fun z => nomatch z) fun _ => q_next ?_
  · exact ⟨ok, rfl⟩
  refine q_slW (R := fTp K (webP C_Web K)) W_pool.webs .new rfl (tr_var (R := (fTp K (webP C_Web K))) (a := v_webs) rfl) sv (Q := fun x => x = v_webs) rfl fun x1 w1 F1 e1 hx1 g1 => ?_
  refine q_slW (R := fD K dN) W_pool.size (.old _) rfl (tr_fld (fl_web_own_size W_web) (tr_op o_ixTp (tr_var (R := (fTp K (webP C_Web K))) (a := v_webs) rfl) (tr_nat (K := K) 0))) (satV_up e1 sv) (Q := fun x => x = psize v_webs) ?_ fun x2 w2 F2 e2 hx2 g2 => ?_
  · have hp := ok.pos
    have h0 : v_webs[0]? = some (v_webs[0]'(by omega)) := List.getElem?_eq_getElem (by omega)
    exact ⟨_, h0, (psize_head h0).symm⟩
  refine s_slW (R := fDK K P w (dT (dT dN)) (fD K dN)) W_pool.places (.old _) rfl (tr_dc (d := (dT dN)) (vs := [2, 3]) (Rb := (fD K dN)) (by decide) (ti_enumT (R := (webP C_Web K)) (tr_var (R := (fTp K (webP C_Web K))) (a := v_webs) rfl)) (tg_pair (tg_name (R := (fD K dN)) 2) (tg_name (R := (webP C_Web K)) 3)) rfl rfl rfl (fun _ => rfl) (fun x1 => tt_yes) (fun x1 => (tr_fld (fl_web_own_heard W_web) (tr_var (R := (webP C_Web K)) (a := x1.2) rfl))) (fun x1 => (tr_var (R := (fD K dN)) (a := x1.1) rfl))) (satV_up (e1.trans e2) sv) (Q := fun x => x = placesL v_webs) ?_ fun x3 w3 F3 e3 hx3 g3 => ?_
  · refine ⟨by rw [enum_len]; exact Nat.le_trans ok.le (by decide), lcW_map (h := fun x => (x.2, x.1)) (fun _ _ Q hQ => hQ) ?_⟩
    exact putsA_new (kvs := []) (by rw [List.nil_append]; exact places_nodup ok.nd)
  subst hx1 hx2 hx3
  refine ⟨_, _, rfl, fun G e o1 o2 => pool_of ok o1 o2 (((got_nil.put (by decide)).put (by decide)).put (by decide)) (Mono.go g1 ((e2.trans e3).trans e)) (Mono.go g2 (e3.trans e)) (Mono.go g3 e)⟩
-- Pool.__iter__: 0:self
abbrev s_Poolu__iteru_ : Stmt := inClass (topS 27) 15
abbrev N_Poolu__iteru_ : List Str := ["self"]
theorem sc_Poolu__iteru_ : FnScope N_Poolu__iteru_ ["self"] (defScope s_Poolu__iteru_) := ⟨rfl, rfl, rfl, by decide +kernel, rfl, by decide +kernel, by decide +kernel⟩
theorem ok_pool_iter {f : Addr} {fd : FuncData} (Bi : mg "iter" = none) (W_pool : PoolK K C_Pool) (hi : PySem.W.findIn K (.ref C_Pool) "__iter__" = some (some (.ref f))) (hf : PySem.W.isFn K (.ref f) = true) (F : Fun K "__iter__" "Pool.__iter__" s_Poolu__iteru_ f fd) (b : Binds K fd ["self"] []) : ItS P w K mg base 1 C_Pool 2 := by
  refine ⟨f, hi, hf, fun A outer s H a dx vs l zs Q E hr e0 hs hl hq q => fn_at F b sc_Poolu__iteru_ hr e0 (vs := [.ref a]) (.cons rfl .nil) rfl fun cdv _ => ⟨_, (pss_one (ps_ret (p_iterT Bi (pa_cons (pe_sl (pv 0)) pa_nil)))), ?_⟩⟩
  obtain ⟨sc, p, sl⟩ := W_pool.webs
  exact ⟨.ref a, rfl, a, C_Pool, dx, p, vs, 2, .ref l, rfl, hs, sc, sl, hl, l, zs, rfl, hq, fun it h1 h2 => q it h1 h2⟩
end
end Wb

/-! Mn: roots of whatever webs are heard by all in time; other numbers of houses and roots. -/
namespace Ma
open Rs
section
variable {n x : Nat} {l : List Rows} {r rs qs : Rows} {ns : List Nat}
/-- who hears x behind the rounds l -/
def hears (n : Nat) (l : List Rows) (x : Nat) : List Nat := (List.range n).filter fun o => decide (x ∈ hbL (wholeR l n) o)
theorem mem_hears {o : Nat} : o ∈ hears n l x ↔ o < n ∧ x ∈ hbL (wholeR l n) o := by
  unfold hears
  rw [List.mem_filter, List.mem_range, decide_eq_true_eq]
theorem hears_nodup : (hears n l x).Nodup := List.nodup_range.filter _
/-- a way out of a set crosses its border -/
theorem crosses {S : Nat → Prop} (o : Ok r) {y : Nat} (h : Reach r x y) (hx : S x) (hy : ¬ S y) : ∃ m z, m ∈ row r z ∧ S m ∧ ¬ S z ∧ z < r.length := by
  induction h with
  | refl => exact absurd hx hy
  | @step u v h1 h2 h3 ih =>
    by_cases hu : S u
    · exact ⟨u, v, h3, hu, hy, h2⟩
    · exact ih hu
theorem hears_grows (h1 : 1 ≤ n) (h5 : n ≤ 5) (hx : x < n) (or_ : Ok r) (hr : r.length = n) (hroot : x ∈ rootsN r) : (∀ o ∈ hears n l x, o ∈ hears n (l ++ [r]) x) ∧ ((hears n l x).length < n → (hears n l x).length < (hears n (l ++ [r]) x).length) := by
  have wl : (wholeR l n).length = n := whole_len
  have wo : Ok (wholeR l n) := whole_ok h1 h5
  have step : ∀ o m, o < n → m ∈ hbL r o → x ∈ hbL (wholeR l n) m → o ∈ hears n (l ++ [r]) x := fun o m ho hm hxm =>
    mem_hears.mpr ⟨ho, by rw [whole_snoc]; exact (hb_then wo or_ (by rw [hr, wl]) (by rw [wl]; exact ho)).mpr ⟨m, hm, hxm⟩⟩
  have up : ∀ o ∈ hears n l x, o ∈ hears n (l ++ [r]) x := fun o ho => by
    obtain ⟨h2, h3⟩ := mem_hears.mp ho
    exact step o o h2 (hb_self or_ (by rw [hr]; exact h2)) h3
  refine ⟨up, fun hlt => ?_⟩
  have self : x ∈ hears n l x := mem_hears.mpr ⟨hx, hb_self wo (by rw [wl]; exact hx)⟩
  obtain ⟨y, hy, hn⟩ : ∃ y, y < n ∧ y ∉ hears n l x := by
    by_cases c : ∃ y, y < n ∧ y ∉ hears n l x
    · exact c
    · exfalso
      have : (List.range n).length ≤ (hears n l x).length := len_le List.nodup_range fun y hy => by
        by_cases d : y ∈ hears n l x
        · exact d
        · exact absurd ⟨y, List.mem_range.mp hy, d⟩ c
      rw [List.length_range] at this
      omega
  have rch := (mem_roots.mp hroot).2 y (by rw [hr]; exact hy)
  obtain ⟨m, z, hm, h2, h3, hz⟩ := crosses (S := fun o => o ∈ hears n l x) or_ rch self hn
  rw [hr] at hz
  exact len_lt' hears_nodup up (step z m hz ((mem_hb or_ (by rw [hr]; exact hz)).mpr (.inl hm)) (mem_hears.mp h2).2) h3
theorem hears_count (h1 : 1 ≤ n) (h5 : n ≤ 5) (hx : x < n) {l : List Rows} (hl : ∀ r ∈ l, (Ok r ∧ r.length = n) ∧ x ∈ rootsN r) : ∀ k, k ≤ l.length → n ≤ (hears n (l.take k) x).length ∨ k + 1 ≤ (hears n (l.take k) x).length
  | 0, _ => .inr (List.length_pos_of_mem (mem_hears.mpr ⟨hx, hb_self (whole_ok h1 h5) (by rw [whole_len]; exact hx)⟩))
  | k + 1, hk => by
    have hr := hl l[k] (List.getElem_mem _)
    obtain ⟨g1, g2⟩ := hears_grows (l := l.take k) h1 h5 hx hr.1.1 hr.1.2 hr.2
    have e : l.take (k + 1) = l.take k ++ [l[k]] := by rw [List.take_succ, List.getElem?_eq_getElem hk]; rfl
    have up := len_le hears_nodup g1
    rw [e]
    rcases hears_count h1 h5 hx hl k (by omega) with h | h
    · exact .inl (by omega)
    · by_cases hlt : (hears n (l.take k) x).length < n
      · have := g2 hlt
        exact .inr (by omega)
      · exact .inl (by omega)
/-- a house that is a root of all webs of some rounds is heard by all behind n - 1 of them -/
theorem roots_word (h1 : 1 ≤ n) (h5 : n ≤ 5) (hx : x < n) (hl : ∀ r ∈ l, (Ok r ∧ r.length = n) ∧ x ∈ rootsN r) (hn : n - 1 ≤ l.length) : x ∈ heraldsL (wholeR l n) := by
  refine mem_heralds.mpr ⟨by rw [whole_len]; exact hx, fun o ho => ?_⟩
  rw [whole_len] at ho
  have hc := hears_count h1 h5 hx hl l.length (Nat.le_refl _)
  rw [List.take_length] at hc
  have big : n ≤ (hears n l x).length := by rcases hc with h | h <;> omega
  by_cases c : o ∈ hears n l x
  · exact (mem_hears.mp c).2
  · exfalso
    have := len_lt' (a := hears n l x) (b := List.range n) hears_nodup (fun z hz => List.mem_range.mpr (mem_hears.mp hz).1) (List.mem_range.mpr ho) c
    rw [List.length_range] at this
    omega
/-! other numbers -/
abbrev pi (ns : List Nat) (x : Nat) : Nat := ns.getD x 0
theorem renum_len : (renumR rs ns).length = rs.length := by unfold renumR; rw [List.length_map, List.length_range]
theorem renum_row {y : Nat} (hy : y < rs.length) : row (renumR rs ns) y = renumRow rs ns y := row_get (by unfold renumR; rw [List.getElem?_map, List.getElem?_range hy]; rfl)
section
variable (inj : ∀ a b, a < rs.length → b < rs.length → pi ns a = pi ns b → a = b) (lt : ∀ a, a < rs.length → pi ns a < rs.length)
include inj lt
theorem renum_mem (o : Ok rs) {a b : Nat} (ha : a < rs.length) (hb : b < rs.length) : pi ns a ∈ row (renumR rs ns) (pi ns b) ↔ a ∈ row rs b := by
  rw [renum_row (lt b hb), mem_renumRow]
  constructor
  · rintro ⟨_, h, hh, e1, y, hy, e2⟩
    have e3 := inj _ _ hh hb e1
    subst e3
    rw [← inj _ _ (o.row_lt hy) ha e2]
    exact hy
  · exact fun h => ⟨lt a ha, b, hb, rfl, a, h, rfl⟩
theorem reach_renum (o : Ok rs) {a b : Nat} (ha : a < rs.length) (h : Reach rs a b) : b < rs.length → Reach (renumR rs ns) (pi ns a) (pi ns b) := by
  induction h with
  | refl => intro _; exact .refl
  | @step u v h1 h2 h3 ih =>
    intro _
    have hu := o.row_lt h3
    exact .step (ih hu) (by rw [renum_len]; exact lt v h2) ((renum_mem inj lt o hu h2).mpr h3)
theorem renum_reach (o : Ok rs) {a z : Nat} (ha : a < rs.length) (h : Reach (renumR rs ns) (pi ns a) z) : ∃ b, b < rs.length ∧ pi ns b = z ∧ Reach rs a b := by
  induction h with
  | refl => exact ⟨a, ha, rfl, .refl⟩
  | @step u v h1 h2 h3 ih =>
    obtain ⟨b, hb, e, hr⟩ := ih
    subst e
    rw [renum_len] at h2
    rw [renum_row h2, mem_renumRow] at h3
    obtain ⟨_, c, hc, e1, y, hy, e2⟩ := h3
    have e3 := inj _ _ (o.row_lt hy) hb e2
    subst e3
    exact ⟨c, hc, e1, .step hr hc hy⟩
theorem mem_roots_renum (o : Ok rs) (sur : ∀ z, z < rs.length → ∃ a, a < rs.length ∧ pi ns a = z) {z : Nat} : z ∈ rootsN (renumR rs ns) ↔ ∃ a ∈ rootsN rs, pi ns a = z := by
  rw [mem_roots, renum_len]
  constructor
  · rintro ⟨hz, hall⟩
    obtain ⟨a, ha, rfl⟩ := sur z hz
    refine ⟨a, mem_roots.mpr ⟨ha, fun y hy => ?_⟩, rfl⟩
    obtain ⟨b, hb, e, hr⟩ := renum_reach inj lt o ha (hall _ (lt y hy))
    rw [← inj _ _ hb hy e]
    exact hr
  · rintro ⟨a, ha, rfl⟩
    obtain ⟨h1, h2⟩ := mem_roots.mp ha
    refine ⟨lt a h1, fun y hy => ?_⟩
    obtain ⟨b, hb, rfl⟩ := sur y hy
    exact reach_renum inj lt o h1 (h2 b hb) hb
theorem renum_one (o : Ok rs) (o2 : Ok qs) (hl : qs.length = rs.length) (h : renumR rs ns = renumR qs ns) : rs = qs := by
  have inj2 : ∀ a b, a < qs.length → b < qs.length → pi ns a = pi ns b → a = b := fun a b ha hb => inj a b (by omega) (by omega)
  have lt2 : ∀ a, a < qs.length → pi ns a < qs.length := fun a ha => by
    rw [hl]; exact lt a (by omega)
  apply List.ext_getElem?
  intro y
  by_cases hy : y < rs.length
  · rw [get_row hy, get_row (rs := qs) (by omega)]
    refine congrArg some (asc_one (o.row_asc y) (o2.row_asc y) fun k => ?_)
    constructor
    · intro hk
      have hk2 := o.row_lt hk
      have := (renum_mem inj lt o hk2 hy).mpr hk
      rw [h] at this
      exact (renum_mem inj2 lt2 o2 (by omega) (by omega)).mp this
    · intro hk
      have hk2 := o2.row_lt hk
      have := (renum_mem inj2 lt2 o2 hk2 (by omega)).mpr hk
      rw [← h] at this
      exact (renum_mem inj lt o (by omega) hy).mp this
  · rw [List.getElem?_eq_none (by omega), List.getElem?_eq_none (by omega)]
end
end
end Ma

/-! pools: what they tell -/
namespace Wb
open PySem PySem.Spec PyProof.Rows L2 SlX StX Rs Ma Sn Tw
section
variable {P : Program} {w : World} {K : PySem.W.Frag} {mg : Str → Option Value} {base : Heap} {C_Web C_Pool : Addr}
theorem bt_lt {i n : Nat} (h : i < n) (hn : n ≤ 1000) : isBt (dN i) 0 ((n : Int) - 1) = true := by
  have hb : (1000 : Int) < 10 ^ 60 := by decide
  show isBt (nI i) 0 ((n : Int) - 1) = true
  rw [isBt, isInt]
  simp only [Bool.and_eq_true, decide_eq_true_eq]
  omega
abbrev s_require_index : Stmt := topS 28
abbrev N_require_index : List Str := ["pool", "index"]
theorem sc_require_index : FnScope N_require_index ["pool", "index"] (defScope s_require_index) := ⟨rfl, rfl, rfl, by decide +kernel, rfl, by decide +kernel, by decide +kernel⟩
theorem ok_require_index {f : Addr} {fd : FuncData} (B : Bf mg) (c_require_number : Gf P w K mg base 3 "require_number" (SpN (fun g : PyData × Int × Int => [(fD K dA) g.1, (fD K dInt) g.2.1, (fD K dInt) g.2.2]) (fun (g : PyData × Int × Int) (Q : Unit → Prop) => isBt g.1 g.2.1 g.2.2 = true ∧ Q ()) (fD K dU))) (W_pool : PoolK K C_Pool) (F : Fun K "require_index" "require_index" s_require_index f fd) (hm : mg "require_index" = some (.ref f)) (b : Binds K fd ["pool", "index"] []) : Gf P w K mg base 4 "require_index" (SpN (fun g : (List Rows) × Nat => [(poolP C_Pool C_Web K P w) g.1, (fD K dN) g.2]) (fun (g : List Rows × Nat) (Q : Unit → Prop) => g.2 < g.1.length ∧ Q ()) (fD K dU)) := by
  refine gw_mkN F hm b sc_require_index (fun _ => rfl) (fun _ => inferInstance) fun cdv A outer s H E g hr => ?_
  obtain ⟨v_pool, v_index⟩ := g
  refine ⟨_, (pss_one (ps_expr (p_call c_require_number hr (by decide) (pa_cons (pv 1) (pa_cons pe_int (pa_cons (pe_op op_sub (p_len B (pa_cons (pe_sl (pv 0)) pa_nil)) pe_int) pa_nil)))))), _,
    (ts_one (ts_drop (tr_call (ta_cons (tr_any (tr_var (R := (fD K dN)) (a := v_index) rfl)) (ta_cons (tr_int (K := K)) (ta_one (tr_op o_i0i (tr_ni (tr_cb c_lenT (ta_one (tr_fld (fl_pool_own_webs W_pool) (tr_var (R := (poolP C_Pool C_Web K P w)) (a := v_pool) rfl))))) (tr_int (K := K))))))) (ts_next () (leV_none (leV_none leV_nil)) (fun _ _ _ h => h)))), ?_⟩
  rintro Q ⟨vs0, F0, hv⟩ hs
  try delta pur
  try dsimp only at hs hv ⊢
  obtain ⟨h, q⟩ := hs
  obtain ⟨v, v1, rfl, ⟨ok, _⟩, _⟩ := each2 hv
  exact ⟨bt_lt h (Nat.le_trans ok.le (by decide)), q⟩
abbrev s_Pool_roots : Stmt := inClass (topS 27) 4
abbrev N_Pool_roots : List Str := ["self", "web"]
theorem sc_Pool_roots : FnScope N_Pool_roots ["self"] (defScope s_Pool_roots) := ⟨rfl, rfl, rfl, by decide +kernel, rfl, by decide +kernel, by decide +kernel⟩
theorem ok_Pool_roots {f : Addr} {fd : FuncData} (B : Bf mg) (W_pool : PoolK K C_Pool) (W_web : WebK K C_Web) (F : Fun K "roots" "Pool.roots" s_Pool_roots f fd) : FnOk P w K mg base CX0 1 f fd ["self"] (SpN (fun g : (List Rows) => [(poolP C_Pool C_Web K P w) g]) (fun (g : List Rows) (Q : Rows → Prop) => Q (g.map rootsN)) (fD K (dT (dT dN)))) := by
  refine gw_met F sc_Pool_roots (fun _ => rfl) (fun _ => inferInstance) fun cdv A outer s H E g hr => ?_
  obtain ⟨v_self, hgen⟩ : ∃ x, x = g := ⟨g, rfl⟩
  subst hgen
  refine ⟨_, (pss_one (ps_ret (p_tuple B (pa_cons (pe_lc (own := [("web", 1)]) (g := gName 1) (tt := tYes) rfl sc_Pool_roots.nd (pi_tup (pe_sl (pv 0))) (blkOk_by (N := N_Pool_roots) (sc := defScope s_Pool_roots) (by decide +kernel)) (fun _ _ _ _ _ => (pg_name (i := 1) sc_Pool_roots.nd rfl (by first | exact Or.inl rfl | exact Or.inr rfl))) (fun _ _ _ _ _ => pts_nil) (fun _ _ _ _ _ => by exact (pe_slK K (pv 1)))) pa_nil)))), _,
    (ts_ret (tr_cb c_tupDL (ta_one (tr_lnD (tr_lc (vs := [1]) (Rd := (fD K (dT dN))) (ti_tup (tr_fld (fl_pool_own_webs W_pool) (tr_var (R := (poolP C_Pool C_Web K P w)) (a := v_self) rfl))) (tg_name (R := (webP C_Web K)) 1) rfl rfl rfl (fun _ => rfl) (fun x1 => tt_yes) (fun x1 => (tr_fld (fl_web_own_roots W_web) (tr_var (R := (webP C_Web K)) (a := x1) rfl)))))))), ?_⟩
  rintro Q ⟨vs0, F0, hv⟩ hs
  try delta pur
  try dsimp only at hs hv ⊢
  obtain ⟨v, rfl, ok, _⟩ := each1 hv
  exact ⟨Nat.le_trans ok.le (by decide), lcW_map (h := rootsN) (fun _ _ Q hQ => hQ) hs⟩
theorem psize_le {rss : List Rows} (ok : POk rss) : 1 ≤ psize rss ∧ psize rss ≤ 5 := by
  have hp := ok.pos
  have h0 : rss[0]? = some (rss[0]'(by omega)) := List.getElem?_eq_getElem (by omega)
  have o := ok.ok _ (List.mem_of_getElem? h0)
  rw [psize_head h0]
  exact ⟨o.pos, o.le⟩
abbrev s_Pool_always : Stmt := inClass (topS 27) 5
abbrev N_Pool_always : List Str := ["self", "houses", "house", "web"]
theorem sc_Pool_always : FnScope N_Pool_always ["self"] (defScope s_Pool_always) := ⟨rfl, rfl, rfl, by decide +kernel, rfl, by decide +kernel, by decide +kernel⟩
theorem ok_Pool_always {f : Addr} {fd : FuncData} (B : Bf mg) (W_pool : PoolK K C_Pool) (W_web : WebK K C_Web) (F : Fun K "always" "Pool.always" s_Pool_always f fd) : FnOk P w K mg base CX0 1 f fd ["self"] (SpN (fun g : (List Rows) => [(poolP C_Pool C_Web K P w) g]) (fun (g : List Rows) (Q : List Nat → Prop) => Q (alwaysN g)) (fD K (dT dN))) := by
  refine gw_met F sc_Pool_always (fun _ => rfl) (fun _ => inferInstance) fun cdv A outer s H E g hr => ?_
  obtain ⟨v_self, hgen⟩ : ∃ x, x = g := ⟨g, rfl⟩
  subst hgen
  refine ⟨_, (pss_cons (ps_set (i := 1) sc_Pool_always.nd rfl (by first | exact Or.inl rfl | exact Or.inr rfl) (p_listRg rfl B (pe_sl (pv 0))))
    (pss_one (ps_ret (p_tuple B (pa_cons (pe_lc (own := [("house", 2)]) (g := gName 2) rfl sc_Pool_always.nd (pi_list (pv 1)) (blkOk_by (N := N_Pool_always) (sc := defScope s_Pool_always) (by decide +kernel)) (fun _ _ _ _ _ => (pg_name (i := 2) sc_Pool_always.nd rfl (by first | exact Or.inl rfl | exact Or.inr rfl))) (fun _ _ _ _ _ => (pts_one (pt_val (p_allK K rfl B (pa_cons (pe_lc (own := [("web", 3)]) (g := gName 3) (tt := tYes) rfl sc_Pool_always.nd (pi_tupK K (pe_slK K (pv 0))) (blkOk_by (N := N_Pool_always) (by first | decide +kernel | (dsimp only [Cx.blk, compEnvC]; decide +kernel) | exact rfl)) (fun _ _ _ _ _ => (pg_name (i := 3) sc_Pool_always.nd rfl (by first | exact Or.inl rfl | exact Or.inr rfl))) (fun _ _ _ _ _ => pts_nil) (fun _ _ _ _ _ => by exact (pe_cmpR (op_in_seqK K) (pv 2) (pe_slK K (pv 3)) rfl))) pa_nil))))) (fun _ _ _ _ _ => by exact (pv 2))) pa_nil))))), _,
    (ts_set (R := (fLn (fD K dN))) 1 (tn_listRg (tr_fld (fl_pool_own_size W_pool) (tr_var (R := (poolP C_Pool C_Web K P w)) (a := v_self) rfl))).e rfl (fun v_houses_1 => (ts_ret (tr_cb c_tupDL (ta_one (tr_lnD (tr_lc (vs := [2]) (Rd := (fD K dN)) (ti_lst (tr_var (R := (fLn (fD K dN))) (a := v_houses_1) rfl)) (tg_name (R := (fD K dN)) 2) rfl rfl rfl (fun _ => rfl) (fun x2 => (tt_B (tr_cb c_all (ta_one (tr_lc (vs := [3]) (Rd := (fD K dB)) (ti_tup (tr_fld (fl_pool_own_webs W_pool) (tr_var (R := (poolP C_Pool C_Web K P w)) (a := v_self) rfl))) (tg_name (R := (webP C_Web K)) 3) rfl rfl rfl (fun _ => rfl) (fun x3 => tt_yes) (fun x3 => (tr_op o_inT (tr_var (R := (fD K dN)) (a := x2) rfl) (tr_fld (fl_web_own_roots W_web) (tr_var (R := (webP C_Web K)) (a := x3) rfl))))))))) (fun x2 => (tr_var (R := (fD K dN)) (a := x2) rfl))))))))), ?_⟩
  rintro Q ⟨vs0, F0, hv⟩ hs
  try delta pur
  try dsimp only at hs hv ⊢
  obtain ⟨v, rfl, ok, _⟩ := each1 hv
  have := psize_le ok
  refine ⟨by omega, by rw [List.length_range]; omega, lcW_of (f := fun h => (v_self.map fun rs => decide (h ∈ rootsN rs)).all id) (h := fun h => h) (fun x hx Q hQ => ⟨Nat.le_trans ok.le (by decide), lcW_map (h := fun rs => decide (x ∈ rootsN rs)) (fun _ _ Q hQ => hQ) hQ⟩) (fun x _ _ Q hQ => hQ) ?_⟩
  rw [List.map_id']; exact hs
abbrev s_Pool_size : Stmt := inClass (topS 27) 3
abbrev N_Pool_size : List Str := ["self"]
theorem sc_Pool_size : FnScope N_Pool_size ["self"] (defScope s_Pool_size) := ⟨rfl, rfl, rfl, by decide +kernel, rfl, by decide +kernel, by decide +kernel⟩
theorem ok_Pool_size {f : Addr} {fd : FuncData} (B : Bf mg) (W_pool : PoolK K C_Pool) (F : Fun K "size" "Pool.size" s_Pool_size f fd) : FnOk P w K mg base CX0 1 f fd ["self"] (SpN (fun g : (List Rows) => [(poolP C_Pool C_Web K P w) g]) (fun (g : List Rows) (Q : Nat → Prop) => Q (psize g)) (fD K dN)) := by
  refine gw_met F sc_Pool_size (fun _ => rfl) (fun _ => inferInstance) fun cdv A outer s H E g hr => ?_
  obtain ⟨v_self, hgen⟩ : ∃ x, x = g := ⟨g, rfl⟩
  subst hgen
  refine ⟨_, (pss_one (ps_ret (pe_sl (pv 0)))), _,
    (ts_ret (tr_fld (fl_pool_own_size W_pool) (tr_var (R := (poolP C_Pool C_Web K P w)) (a := v_self) rfl))), ?_⟩
  rintro Q ⟨vs0, F0, hv⟩ hs
  try delta pur
  try dsimp only at hs hv ⊢
  exact hs
abbrev s_Poolu__lenu_ : Stmt := inClass (topS 27) 16
abbrev N_Poolu__lenu_ : List Str := ["self"]
theorem sc_Poolu__lenu_ : FnScope N_Poolu__lenu_ ["self"] (defScope s_Poolu__lenu_) := ⟨rfl, rfl, rfl, by decide +kernel, rfl, by decide +kernel, by decide +kernel⟩
theorem ok_Poolu__lenu_ {f : Addr} {fd : FuncData} (B : Bf mg) (W_pool : PoolK K C_Pool) (F : Fun K "__len__" "Pool.__len__" s_Poolu__lenu_ f fd) : FnOk P w K mg base CX0 1 f fd ["self"] (SpN (fun g : (List Rows) => [(poolP C_Pool C_Web K P w) g]) (fun (g : List Rows) (Q : Nat → Prop) => Q g.length) (fD K dN)) := by
  refine gw_met F sc_Poolu__lenu_ (fun _ => rfl) (fun _ => inferInstance) fun cdv A outer s H E g hr => ?_
  obtain ⟨v_self, hgen⟩ : ∃ x, x = g := ⟨g, rfl⟩
  subst hgen
  refine ⟨_, (pss_one (ps_ret (p_len B (pa_cons (pe_sl (pv 0)) pa_nil)))), _,
    (ts_ret (tr_cb c_lenT (ta_one (tr_fld (fl_pool_own_webs W_pool) (tr_var (R := (poolP C_Pool C_Web K P w)) (a := v_self) rfl))))), ?_⟩
  rintro Q ⟨vs0, F0, hv⟩ hs
  try delta pur
  try dsimp only at hs hv ⊢
  exact hs
abbrev s_Poolu__getitemu_ : Stmt := inClass (topS 27) 13
abbrev N_Poolu__getitemu_ : List Str := ["self", "index"]
theorem sc_Poolu__getitemu_ : FnScope N_Poolu__getitemu_ ["self", "index"] (defScope s_Poolu__getitemu_) := ⟨rfl, rfl, rfl, by decide +kernel, rfl, by decide +kernel, by decide +kernel⟩
theorem ok_Poolu__getitemu_ {f : Addr} {fd : FuncData} (B : Bf mg) (c_require_index : Gf P w K mg base 4 "require_index" (SpN (fun g : (List Rows) × Nat => [(poolP C_Pool C_Web K P w) g.1, (fD K dN) g.2]) (fun (g : List Rows × Nat) (Q : Unit → Prop) => g.2 < g.1.length ∧ Q ()) (fD K dU))) (W_pool : PoolK K C_Pool) (F : Fun K "__getitem__" "Pool.__getitem__" s_Poolu__getitemu_ f fd) : FnOk P w K mg base CX0 5 f fd ["self", "index"] (SpN (fun g : (List Rows) × Nat => [(poolP C_Pool C_Web K P w) g.1, (fD K dN) g.2]) (fun (g : List Rows × Nat) (Q : Rows → Prop) => ∃ rs, g.1[g.2]? = some rs ∧ Q rs) (webP C_Web K)) := by
  refine gw_met F sc_Poolu__getitemu_ (fun _ => rfl) (fun _ => inferInstance) fun cdv A outer s H E g hr => ?_
  obtain ⟨v_self, v_index⟩ := g
  refine ⟨_, (pss_cons (ps_expr (p_call c_require_index hr (by decide) (pa_cons (pv 0) (pa_cons (pv 1) pa_nil))))
    (pss_one (ps_ret (pe_ix ix_tup (pe_sl (pv 0)) (pv 1) (fun _ _ => rfl))))), _,
    (ts_drop (tr_call (ta_cons (tr_var (R := (poolP C_Pool C_Web K P w)) (a := v_self) rfl) (ta_one (tr_var (R := (fD K dN)) (a := v_index) rfl)))) (ts_ret (tr_op o_ixTp (tr_fld (fl_pool_own_webs W_pool) (tr_var (R := (poolP C_Pool C_Web K P w)) (a := v_self) rfl)) (tr_var (R := (fD K dN)) (a := v_index) rfl)))), ?_⟩
  rintro Q ⟨vs0, F0, hv⟩ hs
  try delta pur
  try dsimp only at hs hv ⊢
  obtain ⟨rs, h, q⟩ := hs
  exact ⟨(List.getElem?_eq_some_iff.mp h).1, rs, h, q⟩
theorem getD_at {α : Type} {xs : List α} {i : Nat} {d : α} (h : i < xs.length) : xs[i]? = some (xs.getD i d) := by
  rw [List.getD_eq_getElem?_getD, List.getElem?_eq_getElem h]; rfl
theorem reord_ok {rss : List Rows} {is : List Nat} (ok : POk rss) (N : IsNum is rss.length) : POk (is.map fun i => rss.getD i []) ∧ psize (is.map fun i => rss.getD i []) = psize rss := by
  have mem : ∀ i ∈ is, rss.getD i [] ∈ rss := fun i hi => List.mem_of_getElem? (getD_at (N.lt i hi))
  have hl := N.len
  have hp := ok.pos
  have sz : psize (is.map fun i => rss.getD i []) = psize rss := by
    have h0 : (is.map fun i => rss.getD i [])[0]? = some (rss.getD (is[0]'(by omega)) []) := by
      rw [List.getElem?_map, List.getElem?_eq_getElem (by omega)]; rfl
    rw [psize_head h0]
    exact ok.sz _ (mem _ (List.getElem_mem _))
  refine ⟨⟨by rw [List.length_map]; omega, by rw [List.length_map, hl]; exact ok.le, ?_, fun rs h => ?_, fun rs h => ?_⟩, sz⟩
  · refine List.pairwise_map.mpr (N.nd.imp_of_mem fun {a b} ha hb ne e => ne ?_)
    have e1 := getD_at (d := []) (N.lt a ha)
    have e2 := getD_at (d := []) (N.lt b hb)
    rw [e, ← e2] at e1
    exact (List.getElem?_inj (N.lt a ha) ok.nd).mp e1
  · obtain ⟨i, hi, rfl⟩ := List.mem_map.mp h
    exact ok.ok _ (mem i hi)
  · obtain ⟨i, hi, rfl⟩ := List.mem_map.mp h
    rw [sz]
    exact ok.sz _ (mem i hi)
abbrev s_Pool_reordered : Stmt := inClass (topS 27) 11
abbrev N_Pool_reordered : List Str := ["self", "indices", "index"]
theorem sc_Pool_reordered : FnScope N_Pool_reordered ["self", "indices"] (defScope s_Pool_reordered) := ⟨rfl, rfl, rfl, by decide +kernel, rfl, by decide +kernel, by decide +kernel⟩
theorem ok_Pool_reordered {f : Addr} {fd : FuncData} (B : Bf mg) (c_is_numbering : Gf P w K mg base 3 "is_numbering" (SpN (fun g : (List Nat) × Nat => [(fD K (dT dN)) g.1, (fD K dN) g.2]) (fun (g : List Nat × Nat) (Q : Bool → Prop) => IsNum g.1 g.2 ∧ Q true) (fD K dB))) (W_pool : PoolK K C_Pool) (c_Pool : MkF P w K mg base 9 "Pool" C_Pool (spPoolInit C_Pool C_Web K P w)) (F : Fun K "reordered" "Pool.reordered" s_Pool_reordered f fd) : FnOk P w K mg base CX0 11 f fd ["self", "indices"] (SpN (fun g : (List Rows) × (List Nat) => [(poolP C_Pool C_Web K P w) g.1, (fD K (dT dN)) g.2]) (fun (g : List Rows × List Nat) (Q : List Rows → Prop) => IsNum g.2 g.1.length ∧ Q (g.2.map fun i => g.1.getD i [])) (poolP C_Pool C_Web K P w)) := by
  refine gw_met F sc_Pool_reordered (fun _ => rfl) (fun _ => inferInstance) fun cdv A outer s H E g hr => ?_
  obtain ⟨v_self, v_indices⟩ := g
  refine ⟨_, (pss_cons (ps_if (pt_not (pt_val (p_call c_is_numbering hr (by decide) (pa_cons (pv 1) (pa_cons (p_len B (pa_cons (pe_sl (pv 0)) pa_nil)) pa_nil)))))
      (pss_one ps_never)
      pss_nil)
    (pss_one (ps_ret (p_mk c_Pool hr (by decide) (pa_cons (p_tuple B (pa_cons (pe_lc (own := [("index", 2)]) (g := gName 2) (tt := tYes) rfl sc_Pool_reordered.nd (pi_tup (pv 1)) (blkOk_by (N := N_Pool_reordered) (sc := defScope s_Pool_reordered) (by decide +kernel)) (fun _ _ _ _ _ => (pg_name (i := 2) sc_Pool_reordered.nd rfl (by first | exact Or.inl rfl | exact Or.inr rfl))) (fun _ _ _ _ _ => pts_nil) (fun _ _ _ _ _ => by exact (pe_ix (ix_tupK K) (pe_slK K (pv 0)) (pv 2) (fun _ _ => rfl)))) pa_nil)) pa_nil))))), _,
    (ts_ifq (tt_not (tt_B (tr_call (ta_cons (tr_var (R := (fD K (dT dN))) (a := v_indices) rfl) (ta_one (tr_cb c_lenT (ta_one (tr_fld (fl_pool_own_webs W_pool) (tr_var (R := (poolP C_Pool C_Web K P w)) (a := v_self) rfl)))))))))
      ts_neverq
      (ts_nextq (ts_ret (tr_fact (p := POk) ok_pool (tr_mk (ta_one (tr_cb c_tupL (ta_one (tr_lc (vs := [2]) (Rd := (webP C_Web K)) (ti_tupD (tr_var (R := (fD K (dT dN))) (a := v_indices) rfl)) (tg_name (R := (fD K dN)) 2) rfl rfl rfl (fun _ => rfl) (fun x1 => tt_yes) (fun x1 => (tr_op o_ixTp (tr_fld (fl_pool_own_webs W_pool) (tr_var (R := (poolP C_Pool C_Web K P w)) (a := v_self) rfl)) (tr_var (R := (fD K dN)) (a := x1) rfl)))))))))))), ?_⟩
  rintro Q ⟨vs0, F0, hv⟩ hs
  try delta pur
  try dsimp only at hs hv ⊢
  obtain ⟨N, q⟩ := hs
  obtain ⟨v, v1, rfl, ⟨ok, _⟩, _⟩ := each2 hv
  have hl := N.len
  have h8 := ok.le
  obtain ⟨ok2, _⟩ := reord_ok ok N
  refine ⟨N, ?_⟩
  rw [Bool.not_true, if_neg Bool.false_ne_true]
  exact ⟨by omega, lcW_map (h := fun i => v_self.getD i []) (fun i hi Q hQ => ⟨_, getD_at (N.lt i hi), hQ⟩) ⟨ok2, fun _ => q⟩⟩
theorem renum_inj {rs qs : Rows} {ns : List Nat} (o1 : Ok rs) (o2 : Ok qs) (N : IsNum ns rs.length) (hl : rs.length = qs.length) (h : renumR rs ns = renumR qs ns) : rs = qs :=
  renum_one (fun a b ha hb e => isnum_inj N ha hb e) (fun a ha => isnum_lt N ha) o1 o2 hl.symm h
theorem renums_ok {rss : List Rows} {ns : List Nat} (ok : POk rss) (N : IsNum ns (psize rss)) : POk (rss.map fun rs => renumR rs ns) ∧ psize (rss.map fun rs => renumR rs ns) = psize rss := by
  have sz1 : ∀ rs ∈ rss, (renumR rs ns).length = psize rss := fun rs h => by
    rw [renumR, List.length_map, List.length_range]; exact ok.sz rs h
  have hp := ok.pos
  have sz : psize (rss.map fun rs => renumR rs ns) = psize rss := by
    have h0 : (rss.map fun rs => renumR rs ns)[0]? = some (renumR (rss[0]'(by omega)) ns) := by
      rw [List.getElem?_map, List.getElem?_eq_getElem (by omega)]; rfl
    rw [psize_head h0]
    exact sz1 _ (List.getElem_mem _)
  refine ⟨⟨by rw [List.length_map]; exact ok.pos, by rw [List.length_map]; exact ok.le, ?_, fun rs h => ?_, fun rs h => ?_⟩, sz⟩
  · refine List.pairwise_map.mpr (ok.nd.imp_of_mem fun {a b} ha hb ne e => ne ?_)
    exact renum_inj (ok.ok a ha) (ok.ok b hb) (by rw [ok.sz a ha]; exact N) (by rw [ok.sz a ha, ok.sz b hb]) e
  · obtain ⟨qs, hq, rfl⟩ := List.mem_map.mp h
    have N' : IsNum ns qs.length := by rw [ok.sz qs hq]; exact N
    exact renum_ok (ok.ok qs hq) fun a b ha hb => isnum_inj N' ha hb
  · obtain ⟨qs, hq, rfl⟩ := List.mem_map.mp h
    rw [sz]; exact sz1 qs hq
abbrev s_Pool_renumbered : Stmt := inClass (topS 27) 12
abbrev N_Pool_renumbered : List Str := ["self", "numbers", "web"]
theorem sc_Pool_renumbered : FnScope N_Pool_renumbered ["self", "numbers"] (defScope s_Pool_renumbered) := ⟨rfl, rfl, rfl, by decide +kernel, rfl, by decide +kernel, by decide +kernel⟩
theorem ok_Pool_renumbered {f : Addr} {fd : FuncData} (B : Bf mg) (c_is_numbering : Gf P w K mg base 3 "is_numbering" (SpN (fun g : (List Nat) × Nat => [(fD K (dT dN)) g.1, (fD K dN) g.2]) (fun (g : List Nat × Nat) (Q : Bool → Prop) => IsNum g.1 g.2 ∧ Q true) (fD K dB))) (W_pool : PoolK K C_Pool) (c_Pool : MkF P w K mg base 9 "Pool" C_Pool (spPoolInit C_Pool C_Web K P w)) (c_web_renumbered : MetS P w K mg base 8 C_Web "renumbered" (SpN (fun g : Rows × (List Nat) => [(webP C_Web K) g.1, (fD K (dT dN)) g.2]) (fun (g : Rows × List Nat) (Q : Rows → Prop) => IsNum g.2 g.1.length ∧ Q (renumR g.1 g.2)) (webP C_Web K))) (F : Fun K "renumbered" "Pool.renumbered" s_Pool_renumbered f fd) : FnOk P w K mg base CX0 11 f fd ["self", "numbers"] (SpN (fun g : (List Rows) × (List Nat) => [(poolP C_Pool C_Web K P w) g.1, (fD K (dT dN)) g.2]) (fun (g : List Rows × List Nat) (Q : List Rows → Prop) => IsNum g.2 (psize g.1) ∧ Q (g.1.map fun rs => renumR rs g.2)) (poolP C_Pool C_Web K P w)) := by
  refine gw_met F sc_Pool_renumbered (fun _ => rfl) (fun _ => inferInstance) fun cdv A outer s H E g hr => ?_
  obtain ⟨v_self, v_numbers⟩ := g
  refine ⟨_, (pss_cons (ps_if (pt_not (pt_val (p_call c_is_numbering hr (by decide) (pa_cons (pv 1) (pa_cons (pe_sl (pv 0)) pa_nil)))))
      (pss_one ps_never)
      pss_nil)
    (pss_one (ps_ret (p_mk c_Pool hr (by decide) (pa_cons (p_tuple B (pa_cons (pe_lc (own := [("web", 2)]) (g := gName 2) (tt := tYes) rfl sc_Pool_renumbered.nd (pi_tup (pe_sl (pv 0))) (blkOk_by (N := N_Pool_renumbered) (sc := defScope s_Pool_renumbered) (by decide +kernel)) (fun _ _ _ _ _ => (pg_name (i := 2) sc_Pool_renumbered.nd rfl (by first | exact Or.inl rfl | exact Or.inr rfl))) (fun _ _ _ _ _ => pts_nil) (fun _ _ _ _ _ => by exact (p_met c_web_renumbered hr (by decide) (pv 2) (pa_cons (pv 1) pa_nil)))) pa_nil)) pa_nil))))), _,
    (ts_ifq (tt_not (tt_B (tr_call (ta_cons (tr_var (R := (fD K (dT dN))) (a := v_numbers) rfl) (ta_one (tr_fld (fl_pool_own_size W_pool) (tr_var (R := (poolP C_Pool C_Web K P w)) (a := v_self) rfl)))))))
      ts_neverq
      (ts_nextq (ts_ret (tr_fact (p := POk) ok_pool (tr_mk (ta_one (tr_cb c_tupL (ta_one (tr_lc (vs := [2]) (Rd := (webP C_Web K)) (ti_tup (tr_fld (fl_pool_own_webs W_pool) (tr_var (R := (poolP C_Pool C_Web K P w)) (a := v_self) rfl))) (tg_name (R := (webP C_Web K)) 2) rfl rfl rfl (fun _ => rfl) (fun x1 => tt_yes) (fun x1 => (tr_fact (p := Ok) ok_web (tr_met (tr_var (R := (webP C_Web K)) (a := x1) rfl) is_web (ta_one (tr_var (R := (fD K (dT dN))) (a := v_numbers) rfl)))))))))))))), ?_⟩
  rintro Q ⟨vs0, F0, hv⟩ hs
  try delta pur
  try dsimp only at hs hv ⊢
  obtain ⟨N, q⟩ := hs
  obtain ⟨v, v1, rfl, ⟨ok, _⟩, _⟩ := each2 hv
  have h8 := ok.le
  obtain ⟨ok2, _⟩ := renums_ok ok N
  refine ⟨N, ?_⟩
  rw [Bool.not_true, if_neg Bool.false_ne_true]
  exact ⟨by omega, lcW_map (h := fun rs => renumR rs v_numbers) (fun rs h Q hQ => ⟨by rw [ok.sz rs h]; exact N, fun _ => hQ⟩) ⟨ok2, fun _ => q⟩⟩
end
end Wb

/-! law k07 -/
namespace Wb
open PySem PySem.Spec PyProof.Rows L2 SlX StX Rs Ma Sn Tw
section
variable {P : Program} {w : World} {K : PySem.W.Frag} {mg : Str → Option Value} {base : Heap} {C_Web C_Pool : Addr}
abbrev s__law_pool_of : Stmt := topS 32
abbrev N__law_pool_of : List Str := ["_law_rows_here", "_law_row"]
theorem sc__law_pool_of : FnScope N__law_pool_of ["_law_rows_here"] (defScope s__law_pool_of) := ⟨rfl, rfl, rfl, by decide +kernel, rfl, by decide +kernel, by decide +kernel⟩
theorem ok__law_pool_of {f : Addr} {fd : FuncData} (B : Bf mg) (c_Pool : MkF P w K mg base 9 "Pool" C_Pool (spPoolInit C_Pool C_Web K P w)) (c_Web : MkF P w K mg base 6 "Web" C_Web (spWebInit C_Web K)) (F : Fun K "_law_pool_of" "_law_pool_of" s__law_pool_of f fd) (hm : mg "_law_pool_of" = some (.ref f)) (b : Binds K fd ["_law_rows_here"] []) : Gf P w K mg base 11 "_law_pool_of" (SpN (fun g : (List (List (List Nat))) => [(fLn (fD K (dT (dT dN)))) g]) (fun (g : List Rows) (Q : List Rows → Prop) => POk g ∧ Q g) (poolP C_Pool C_Web K P w)) := by
  refine gw_mk F hm b sc__law_pool_of (fun _ => rfl) (fun _ => inferInstance) fun cdv A outer s H E g hr => ?_
  obtain ⟨v__law_rows_here, hgen⟩ : ∃ x, x = g := ⟨g, rfl⟩
  subst hgen
  refine ⟨_, (pss_one (ps_ret (p_mk c_Pool hr (by decide) (pa_cons (p_tuple B (pa_cons (pe_lc (own := [("_law_row", 1)]) (g := gName 1) (tt := tYes) rfl sc__law_pool_of.nd (pi_list (pv 0)) (blkOk_by (N := N__law_pool_of) (sc := defScope s__law_pool_of) (by decide +kernel)) (fun _ _ _ _ _ => (pg_name (i := 1) sc__law_pool_of.nd rfl (by first | exact Or.inl rfl | exact Or.inr rfl))) (fun _ _ _ _ _ => pts_nil) (fun _ _ _ _ _ => by exact (p_mk c_Web hr (by decide) (pa_cons (pv 1) pa_nil)))) pa_nil)) pa_nil)))), _,
    (ts_ret (tr_fact (p := POk) ok_pool (tr_mk (ta_one (tr_cb c_tupL (ta_one (tr_lc (vs := [1]) (Rd := (webP C_Web K)) (ti_lst (tr_var (R := (fLn (fD K (dT (dT dN))))) (a := v__law_rows_here) rfl)) (tg_name (R := (fD K (dT (dT dN)))) 1) rfl rfl rfl (fun _ => rfl) (fun x1 => tt_yes) (fun x1 => (tr_fact (p := Ok) ok_web (tr_mk (ta_one (tr_var (R := (fD K (dT (dT dN)))) (a := x1) rfl)))))))))))), ?_⟩
  rintro Q ⟨vs0, F0, hv⟩ hs
  try delta pur
  try dsimp only at hs hv ⊢
  obtain ⟨ok, q⟩ := hs
  exact ⟨Nat.le_trans ok.le (by decide), lcW_map (h := fun x => x) (fun x hx Q hQ => ⟨ok.ok x hx, fun _ => hQ⟩) (by rw [List.map_id']; exact ⟨ok, fun _ => q⟩)⟩
theorem pok_snoc {rss : List Rows} {rs : Rows} {n : Nat} (h : rss = [] ∨ (POk rss ∧ psize rss = n)) (h8 : rss.length < 8) (o : Ok rs) (hl : rs.length = n) (hn : rs ∉ rss) : POk (rss ++ [rs]) ∧ psize (rss ++ [rs]) = n := by
  rcases h with rfl | ⟨ok, sz⟩
  · have e : psize ([] ++ [rs]) = n := hl
    refine ⟨⟨Nat.le_refl _, by show 1 ≤ 8; decide, List.nodup_cons.mpr ⟨fun z => (nomatch z), List.nodup_nil⟩, fun q hq => ?_, fun q hq => ?_⟩, e⟩
    · rw [List.mem_singleton.mp hq]; exact o
    · rw [List.mem_singleton.mp hq, e]; exact hl
  · have hp := ok.pos
    have e : psize (rss ++ [rs]) = n := by
      have h0 : (rss ++ [rs])[0]? = some (rss[0]'(by omega)) := by
        rw [List.getElem?_append_left (by omega), List.getElem?_eq_getElem (by omega)]
      rw [psize_head h0, ← sz]
      exact ok.sz _ (List.getElem_mem _)
    refine ⟨⟨by rw [List.length_append, List.length_singleton]; omega, by rw [List.length_append, List.length_singleton]; omega, ?_, fun q hq => ?_, fun q hq => ?_⟩, e⟩
    · exact List.nodup_append.mpr ⟨ok.nd, List.nodup_cons.mpr ⟨fun z => (nomatch z), List.nodup_nil⟩, fun a ha b hb e => hn (by rw [← List.mem_singleton.mp hb, ← e]; exact ha)⟩
    · rcases List.mem_append.mp hq with hq | hq
      · exact ok.ok q hq
      · rw [List.mem_singleton.mp hq]; exact o
    · rw [e]
      rcases List.mem_append.mp hq with hq | hq
      · rw [ok.sz q hq]; exact sz
      · rw [List.mem_singleton.mp hq]; exact hl
theorem star_list {n c : Nat} : (List.range n).map (fun x => if decide (x = c) = true then [] else [c]) = starR n c := by
  unfold starR
  refine List.map_congr_left fun x _ => ?_
  unfold starRow
  by_cases e : x = c
  · rw [if_pos e, if_pos (by simp [e])]
  · rw [if_neg e, if_neg (by simp [e])]
theorem chain_list {n c : Nat} (hc : c < n) : (List.range n).map (fun x => if decide (x = c) = true then [] else [(((x : Int) + (n : Int) - 1) % (n : Int)).toNat]) = chainR n c := by
  unfold chainR
  refine List.map_congr_left fun x _ => ?_
  unfold chainRow
  by_cases e : x = c
  · rw [if_pos e, if_pos (by simp [e])]
  · rw [if_neg e, if_neg (by simp [e])]
    have : ((x : Int) + (n : Int) - 1) = ((x + n - 1 : Nat) : Int) := by omega
    rw [this, ← Int.natCast_emod, Int.toNat_natCast]
theorem full_list {n : Nat} : (List.range n).map (fun x => (List.range n).filter fun y => !decide (y = x)) = fullR n := rfl
abbrev s__law_pool_rows : Stmt := topS 36
abbrev N__law_pool_rows : List Str := ["_law_cask_here", "_law_size", "_law_most", "_law_found", "_law_turn", "_law_rows_here", "_law_house", "_law_star", "_law_one", "_law_chain", "_law_full", "_law_far"]
theorem sc__law_pool_rows : FnScope N__law_pool_rows ["_law_cask_here", "_law_size", "_law_most"] (defScope s__law_pool_rows) := ⟨rfl, rfl, rfl, by decide +kernel, rfl, by decide +kernel, by decide +kernel⟩
theorem ok__law_pool_rows {f : Addr} {fd : FuncData} (B : Bf mg) (c_law_scoop : Gf P w K mg base 1 "_law_scoop" (SpN (fun g : Unit × Nat => [(fCk 3) g.1, (fD K dN) g.2]) (fun (g : Unit × Nat) (Q : Nat → Prop) => (1 ≤ g.2 ∧ g.2 ≤ 1000) ∧ ∀ n, n < g.2 → Q n) (fD K dN))) (c_law_rows : Gf P w K mg base 3 "_law_rows" (SpN (fun g : Unit × Nat => [(fCk 3) g.1, (fD K dN) g.2]) (fun (g : Unit × Nat) (Q : Rows → Prop) => (1 ≤ g.2 ∧ g.2 ≤ 5) ∧ ∀ rs : Rows, Ok rs → rs.length = g.2 → Q rs) (fD K (dT (dT dN))))) (c_law_any_of_1 : Gf P w K mg base 2 "_law_any_of" (SpN (fun g : Unit × (List (List (List Nat))) => [(fCk 3) g.1, (fLn (fD K (dT (dT dN)))) g.2]) spAny (fD K (dT (dT dN))))) (F : Fun K "_law_pool_rows" "_law_pool_rows" s__law_pool_rows f fd) (hm : mg "_law_pool_rows" = some (.ref f)) (b : Binds K fd ["_law_cask_here", "_law_size", "_law_most"] []) : Gf P w K mg base 4 "_law_pool_rows" (SpN (fun g : Unit × Nat × Nat => [(fCk 3) g.1, (fD K dN) g.2.1, (fD K dN) g.2.2]) (fun (g : Unit × Nat × Nat) (Q : List Rows → Prop) => ((1 ≤ g.2.1 ∧ g.2.1 ≤ 5) ∧ 1 ≤ g.2.2 ∧ g.2.2 ≤ 8) ∧ ∀ rss : List Rows, POk rss → psize rss = g.2.1 → Q rss) (fLn (fD K (dT (dT dN))))) := by
  refine gw_mk F hm b sc__law_pool_rows (fun _ => rfl) (fun _ => inferInstance) fun cdv A outer s H E g hr => ?_
  obtain ⟨v__law_cask_here, v__law_size, v__law_most⟩ := g
  refine ⟨_, (pss_cons (ps_set (i := 3) sc__law_pool_rows.nd rfl (by first | exact Or.inl rfl | exact Or.inr rfl) (pe_lst pa_nil))
    (pss_cons (ps_for PassesOwn.never rfl (pi_range1 (by rfl) B.range (pa_cons (pe_op op_add pe_int (p_call c_law_scoop hr (by decide) (pa_cons (pv 0) (pa_cons (pv 2) pa_nil)))) pa_nil)) (pg_name (i := 4) sc__law_pool_rows.nd rfl (by first | exact Or.inl rfl | exact Or.inr rfl))
      (pss_cons (ps_set (i := 5) sc__law_pool_rows.nd rfl (by first | exact Or.inl rfl | exact Or.inr rfl) (p_call c_law_rows hr (by decide) (pa_cons (pv 0) (pa_cons (pv 1) pa_nil))))
      (pss_cons (ps_if (pt_cmpR op_eq (p_call c_law_scoop hr (by decide) (pa_cons (pv 0) (pa_cons pe_int pa_nil))) pe_int (nomark _))
        (pss_cons (ps_set (i := 6) sc__law_pool_rows.nd rfl (by first | exact Or.inl rfl | exact Or.inr rfl) (p_call c_law_scoop hr (by decide) (pa_cons (pv 0) (pa_cons (pv 1) pa_nil))))
        (pss_cons (ps_set (i := 7) sc__law_pool_rows.nd rfl (by first | exact Or.inl rfl | exact Or.inr rfl) (p_tuple B (pa_cons (pe_lc (own := [("_law_one", 8)]) (g := gName 8) (tt := tYes) rfl sc__law_pool_rows.nd (pi_range1 (by rfl) B.range (pa_cons (pv 1) pa_nil)) (blkOk_by (N := N__law_pool_rows) (sc := defScope s__law_pool_rows) (by decide +kernel)) (fun _ _ _ _ _ => (pg_name (i := 8) sc__law_pool_rows.nd rfl (by first | exact Or.inl rfl | exact Or.inr rfl))) (fun _ _ _ _ _ => pts_nil) (fun _ _ _ _ _ => by exact (pe_ifExp (pt_cmpR op_eq (pv 8) (pv 6) (nomark _)) (pe_tup pa_nil) (pe_tup (pa_cons (pv 6) pa_nil))))) pa_nil)))
        (pss_cons (ps_set (i := 9) sc__law_pool_rows.nd rfl (by first | exact Or.inl rfl | exact Or.inr rfl) (p_tuple B (pa_cons (pe_lc (own := [("_law_one", 8)]) (g := gName 8) (tt := tYes) rfl sc__law_pool_rows.nd (pi_range1 (by rfl) B.range (pa_cons (pv 1) pa_nil)) (blkOk_by (N := N__law_pool_rows) (sc := defScope s__law_pool_rows) (by decide +kernel)) (fun _ _ _ _ _ => (pg_name (i := 8) sc__law_pool_rows.nd rfl (by first | exact Or.inl rfl | exact Or.inr rfl))) (fun _ _ _ _ _ => pts_nil) (fun _ _ _ _ _ => by exact (pe_ifExp (pt_cmpR op_eq (pv 8) (pv 6) (nomark _)) (pe_tup pa_nil) (pe_tup (pa_cons (pe_op op_mod (pe_op op_sub (pe_op op_add (pv 8) (pv 1)) pe_int) (pv 1)) pa_nil))))) pa_nil)))
        (pss_cons (ps_set (i := 10) sc__law_pool_rows.nd rfl (by first | exact Or.inl rfl | exact Or.inr rfl) (p_tuple B (pa_cons (pe_lc (own := [("_law_one", 8)]) (g := gName 8) (tt := tYes) rfl sc__law_pool_rows.nd (pi_range1 (by rfl) B.range (pa_cons (pv 1) pa_nil)) (blkOk_by (N := N__law_pool_rows) (sc := defScope s__law_pool_rows) (by decide +kernel)) (fun _ _ _ _ _ => (pg_name (i := 8) sc__law_pool_rows.nd rfl (by first | exact Or.inl rfl | exact Or.inr rfl))) (fun _ _ _ _ _ => pts_nil) (fun _ _ _ _ _ => by exact (p_tupleK K B (pa_cons (pe_lc (own := [("_law_far", 11)]) (g := gName 11) rfl sc__law_pool_rows.nd (pi_range1 (by rfl) B.range (pa_cons (pv 1) pa_nil)) (blkOk_by (N := N__law_pool_rows) (by first | decide +kernel | (dsimp only [Cx.blk, compEnvC]; decide +kernel) | exact rfl)) (fun _ _ _ _ _ => (pg_name (i := 11) sc__law_pool_rows.nd rfl (by first | exact Or.inl rfl | exact Or.inr rfl))) (fun _ _ _ _ _ => (pts_one (pt_cmpR op_ne (pv 11) (pv 8) (nomark _)))) (fun _ _ _ _ _ => by exact (pv 11))) pa_nil)))) pa_nil)))
        (pss_one (ps_set (i := 5) sc__law_pool_rows.nd rfl (by first | exact Or.inl rfl | exact Or.inr rfl) (p_call c_law_any_of_1 hr (by decide) (pa_cons (pv 0) (pa_cons (pe_lst (pa_cons (pv 7) (pa_cons (pv 9) (pa_cons (pv 10) pa_nil)))) pa_nil)))))))))
        pss_nil)
      (pss_one (ps_if (pt_cmpR (op_notInD (room65 hr)) (pv 5) (pv 3) rfl)
        (pss_one (ps_expr (pe_bm PySem.F.plainAttrs_list PySem.F.slot_list_append PySem.F.type_list_append mt_append (pv 3) (pa_cons (pv 5) pa_nil))))
        pss_nil)))))
    (pss_one (ps_ret (pv 3))))), _,
    (ts_newC 3 (tn_lst (R := (fD K (dT (dT dN)))) (ta_lnil (R := (fD K (dT (dT dN)))))) rfl rfl (fun l1 => (ts_for (S1 := (List (List (List Nat)))) (ρ1 := fun s2 => [some ((fCk 3) v__law_cask_here), some ((fD K dN) v__law_size), some ((fD K dN) v__law_most), none, none, none, none, none, none, none, none, none]) (κ1s := fun s2 => [(3, ownL ((s2).map (fD K (dT (dT dN)))))]) l1 (leV_some (leV_some (leV_some (leV_none (leV_none (leV_none (leV_none (leV_none (leV_none (leV_none (leV_none (leV_none leV_nil)))))))))))) (fun _ _ _ h => h) (ti_rangeN (tr_op o_addN (tr_nat (K := K) 1) (tr_call (ta_cons (tr_var (R := (fCk 3)) (a := v__law_cask_here) rfl) (ta_one (tr_var (R := (fD K dN)) (a := v__law_most) rfl)))))) (tg_name (R := (fD K dN)) 4) (fun _ => rfl)
      (fun s2 x3 => (ts_set (R := (fD K (dT (dT dN)))) 5 (tr_call (ta_cons (tr_var (R := (fCk 3)) (a := v__law_cask_here) rfl) (ta_one (tr_var (R := (fD K dN)) (a := v__law_size) rfl)))) rfl (fun v_law_rows_here_4 => (ts_seq (S1 := (List (List Nat))) (ρ1 := fun s14 => [some ((fCk 3) v__law_cask_here), some ((fD K dN) v__law_size), some ((fD K dN) v__law_most), none, some ((fD K dN) x3), some ((fD K (dT (dT dN))) s14), none, none, none, none, none, none]) (κ1s := fun s14 => [(3, ownL ((s2).map (fD K (dT (dT dN)))))]) (ts_if (tt_test (tr_op o_eqN (tr_call (ta_cons (tr_var (R := (fCk 3)) (a := v__law_cask_here) rfl) (ta_one (tr_nat (K := K) 3)))) (tr_nat (K := K) 0)))
      (ts_set (R := (fD K dN)) 6 (tr_call (ta_cons (tr_var (R := (fCk 3)) (a := v__law_cask_here) rfl) (ta_one (tr_var (R := (fD K dN)) (a := v__law_size) rfl)))) rfl (fun v_law_house_24 => (ts_set (R := (fD K (dT (dT dN)))) 7 (tr_cb c_tupDL (ta_one (tr_lnD (tr_lc (vs := [8]) (Rd := (fD K (dT dN))) (ti_rangeN (tr_var (R := (fD K dN)) (a := v__law_size) rfl)) (tg_name (R := (fD K dN)) 8) rfl rfl rfl (fun _ => rfl) (fun x25 => tt_yes) (fun x25 => (tr_if (tt_test (tr_op o_eqN (tr_var (R := (fD K dN)) (a := x25) rfl) (tr_var (R := (fD K dN)) (a := v_law_house_24) rfl))) (tr_tpD (tr_tup (R := (fD K dN)) (ta_lnil (R := (fD K dN))))) (tr_tpD (tr_tup (R := (fD K dN)) (ta_lcons (R := (fD K dN)) (tr_var (R := (fD K dN)) (a := v_law_house_24) rfl) (ta_lnil (R := (fD K dN)))))))))))) rfl (fun v_law_star_26 => (ts_set (R := (fD K (dT (dT dN)))) 9 (tr_cb c_tupDL (ta_one (tr_lnD (tr_lc (vs := [8]) (Rd := (fD K (dT dN))) (ti_rangeN (tr_var (R := (fD K dN)) (a := v__law_size) rfl)) (tg_name (R := (fD K dN)) 8) rfl rfl rfl (fun _ => rfl) (fun x27 => tt_yes) (fun x27 => (tr_if (tt_test (tr_op o_eqN (tr_var (R := (fD K dN)) (a := x27) rfl) (tr_var (R := (fD K dN)) (a := v_law_house_24) rfl))) (tr_tpD (tr_tup (R := (fD K dN)) (ta_lnil (R := (fD K dN))))) (tr_tpD (tr_tup (R := (fD K dN)) (ta_lcons (R := (fD K dN)) (tr_in (tr_op o_ii (tr_op o_i0i (tr_op o_i0i (tr_ni (tr_var (R := (fD K dN)) (a := x27) rfl)) (tr_ni (tr_var (R := (fD K dN)) (a := v__law_size) rfl))) (tr_int (K := K))) (tr_ni (tr_var (R := (fD K dN)) (a := v__law_size) rfl)))) (ta_lnil (R := (fD K dN)))))))))))) rfl (fun v_law_chain_28 => (ts_set (R := (fD K (dT (dT dN)))) 10 (tr_cb c_tupDL (ta_one (tr_lnD (tr_lc (vs := [8]) (Rd := (fD K (dT dN))) (ti_rangeN (tr_var (R := (fD K dN)) (a := v__law_size) rfl)) (tg_name (R := (fD K dN)) 8) rfl rfl rfl (fun _ => rfl) (fun x29 => tt_yes) (fun x29 => (tr_cb c_tupDL (ta_one (tr_lnD (tr_lc (vs := [11]) (Rd := (fD K dN)) (ti_rangeN (tr_var (R := (fD K dN)) (a := v__law_size) rfl)) (tg_name (R := (fD K dN)) 11) rfl rfl rfl (fun _ => rfl) (fun x30 => (tt_test (tr_op o_neN (tr_var (R := (fD K dN)) (a := x30) rfl) (tr_var (R := (fD K dN)) (a := x29) rfl)))) (fun x30 => (tr_var (R := (fD K dN)) (a := x30) rfl))))))))))) rfl (fun v_law_full_31 => (ts_one (ts_set (R := (fD K (dT (dT dN)))) 5 (tr_call (ta_cons (tr_var (R := (fCk 3)) (a := v__law_cask_here) rfl) (ta_one (tr_lst (R := (fD K (dT (dT dN)))) (ta_lcons (R := (fD K (dT (dT dN)))) (tr_var (R := (fD K (dT (dT dN)))) (a := v_law_star_26) rfl) (ta_lcons (R := (fD K (dT (dT dN)))) (tr_var (R := (fD K (dT (dT dN)))) (a := v_law_chain_28) rfl) (ta_lcons (R := (fD K (dT (dT dN)))) (tr_var (R := (fD K (dT (dT dN)))) (a := v_law_full_31) rfl) (ta_lnil (R := (fD K (dT (dT dN)))))))))))) rfl (fun v_law_rows_here_32 => (ts_next v_law_rows_here_32 (leV_some (leV_some (leV_some (leV_none (leV_some (leV_some (leV_none (leV_none (leV_none (leV_none (leV_none (leV_none leV_nil)))))))))))) (fun _ _ _ h => h)))))))))))))
      (ts_next v_law_rows_here_4 (leV_some (leV_some (leV_some (leV_none (leV_some (leV_some (leV_none (leV_none (leV_none (leV_none (leV_none (leV_none leV_nil)))))))))))) (fun _ _ _ h => h)))
      (fun s14 => (ts_one (ts_seq (S1 := (List (List (List Nat)))) (ρ1 := fun s34 => [some ((fCk 3) v__law_cask_here), some ((fD K dN) v__law_size), some ((fD K dN) v__law_most), none, some ((fD K dN) x3), some ((fD K (dT (dT dN))) s14), none, none, none, none, none, none]) (κ1s := fun s34 => [(3, ownL ((s34).map (fD K (dT (dT dN)))))]) (ts_if (tt_test (tr_bor (i := 3) (xs := s2) (R := (fD K (dT (dT dN)))) (tr_op (o_notInDL (d := (dT (dT dN)))) (tr_var (R := (fD K (dT (dT dN)))) (a := s14) rfl) (tr_lnD (tr_var (R := (fLn (fD K (dT (dT dN))))) (a := s2) rfl))) rfl rfl (fun _ _ h => h)))
      (ts_one (ts_app (R := (fD K (dT (dT dN)))) (xs := s2) (tr_var (R := (fD K (dT (dT dN)))) (a := s14) rfl) (fun y36 => (ts_next (s2 ++ [y36]) (leV_some (leV_some (leV_some (leV_none (leV_some (leV_some (leV_none (leV_none (leV_none (leV_none (leV_none (leV_none leV_nil)))))))))))) (fun _ _ _ h => h)))))
      (ts_next s2 (leV_some (leV_some (leV_some (leV_none (leV_some (leV_some (leV_none (leV_none (leV_none (leV_none (leV_none (leV_none leV_nil)))))))))))) (fun _ _ _ h => h)))
      (fun s34 => (ts_next s34 (leV_some (leV_some (leV_some (leV_none (leV_none (leV_none (leV_none (leV_none (leV_none (leV_none (leV_none (leV_none leV_nil)))))))))))) (fun _ _ _ h => h))))))))))
      (fun s2 => (ts_retC (R := (fD K (dT (dT dN)))) (xs := s2)))))), ?_⟩
  rintro Q ⟨vs0, F0, hv⟩ hs
  try delta pur
  try dsimp only [spAny] at hs hv ⊢
  obtain ⟨⟨⟨h1, h5⟩, m1, m8⟩, q⟩ := hs
  refine ⟨by decide, ⟨m1, by omega⟩, fun n hn => ⟨by omega, ?_⟩⟩
  refine forW_inv2 (fun i s => s.length ≤ i ∧ (s = [] → i = 0) ∧ (s = [] ∨ (POk s ∧ psize s = v__law_size))) ⟨Nat.le_refl _, fun _ => rfl, .inl rfl⟩ (fun i x s P hx hg hP => ?_) (fun s hg => ?_)
  · obtain ⟨g1, g2, g3⟩ := hg
    have hi := (List.getElem?_eq_some_iff.mp hx).1
    rw [List.length_range] at hi
    have put : ∀ (rs : Rows) (inst : Decidable (rs ∈ s)), Ok rs → rs.length = v__law_size → if (!@decide (rs ∈ s) inst) = true then s.length < 100000 ∧ P (s ++ [rs]) else P s := fun rs inst o hl => by
      by_cases c : rs ∈ s
      · rw [if_neg (by simp [c])]
        exact hP _ ⟨by omega, fun e => (by rw [e] at c; cases c), g3⟩
      · rw [if_pos (by simp [c])]
        refine ⟨by omega, hP _ ⟨by rw [List.length_append, List.length_singleton]; omega, fun e => ?_, .inr (pok_snoc g3 (by omega) o hl c)⟩⟩
        have := congrArg List.length e
        rw [List.length_append, List.length_singleton] at this
        cases this
    refine ⟨⟨h1, h5⟩, fun rs o hl => ⟨by decide, fun k hk => ?_⟩⟩
    by_cases h0 : k = 0
    · rw [if_pos (by simp [h0])]
      refine ⟨⟨h1, by omega⟩, fun c hc => ⟨by omega, by rw [List.length_range]; omega, ?_⟩⟩
      refine lcW_map (h := fun x => if decide (x = c) = true then [] else [c]) (fun x _ Q hQ => ?_) ⟨by omega, by rw [List.length_range]; omega, ?_⟩
      · by_cases e : x = c
        · simp only [e, decide_true, iteW_t, if_true] at hQ ⊢
          exact ⟨by decide, hQ⟩
        · simp only [e, decide_false, iteW_f, Bool.false_eq_true, if_false] at hQ ⊢
          exact ⟨by show 1 ≤ 100000; decide, hQ⟩
      refine lcW_map (h := fun x => if decide (x = c) = true then [] else [(((x : Int) + (v__law_size : Int) - 1) % (v__law_size : Int)).toNat]) (fun x _ Q hQ => ?_) ⟨by omega, by rw [List.length_range]; omega, ?_⟩
      · by_cases e : x = c
        · simp only [e, decide_true, iteW_t, if_true] at hQ ⊢
          exact ⟨by decide, hQ⟩
        · simp only [e, decide_false, iteW_f, Bool.false_eq_true, if_false] at hQ ⊢
          exact ⟨by omega, Int.emod_nonneg _ (by omega), by show 1 ≤ 100000; decide, hQ⟩
      refine lcW_map (h := fun x => (List.range v__law_size).filter fun y => !decide (y = x)) (fun x _ Q hQ => ⟨by omega, by rw [List.length_range]; omega, ?_⟩) ?_
      · simp only [lcW_p, List.map_id']
        exact hQ
      rw [star_list, chain_list hc, full_list]
      refine ⟨by show 3 ≤ 100000; decide, ⟨fun z => (nomatch z), by show 3 ≤ 1000; decide⟩, fun a ha => ?_⟩
      rcases List.mem_cons.mp ha with rfl | ha
      · exact put _ _ (star_ok h1 h5 hc) len_star
      rcases List.mem_cons.mp ha with rfl | ha
      · exact put _ _ (chain_ok h1 h5 hc) len_chain
      · rw [List.mem_singleton.mp ha]
        exact put _ _ (full_ok h1 h5) (by unfold fullR; rw [List.length_map, List.length_range])
    · rw [if_neg (by simp [h0])]
      exact put rs _ o hl
  · obtain ⟨g1, g2, g3⟩ := hg
    rw [List.length_range] at g1 g2
    rcases g3 with e | ⟨ok, sz⟩
    · have := g2 e
      omega
    · exact q s ok sz
abbrev s__law_heralds : Stmt := topS 37
abbrev N__law_heralds : List Str := ["_law_web", "_law_size", "_law_house", "_law_one"]
theorem sc__law_heralds : FnScope N__law_heralds ["_law_web"] (defScope s__law_heralds) := ⟨rfl, rfl, rfl, by decide +kernel, rfl, by decide +kernel, by decide +kernel⟩
theorem ok__law_heralds {f : Addr} {fd : FuncData} (B : Bf mg) (c_web_size : PrpS P w K mg base 1 C_Web "size" (SpN (fun g : Rows => [(webP C_Web K) g]) (fun (g : Rows) (Q : Nat → Prop) => True ∧ Q g.length) (fD K dN))) (c_web_hears : MetS P w K mg base 5 C_Web "hears" (SpN (fun g : Rows × Nat => [(webP C_Web K) g.1, (fD K dN) g.2]) (fun (g : Rows × Nat) (Q : List Nat → Prop) => g.2 < g.1.length ∧ Q (hbL g.1 g.2)) (fD K (dT dN)))) (F : Fun K "_law_heralds" "_law_heralds" s__law_heralds f fd) (hm : mg "_law_heralds" = some (.ref f)) (b : Binds K fd ["_law_web"] []) : Gf P w K mg base 6 "_law_heralds" (SpN (fun g : Rows => [(webP C_Web K) g]) (fun (g : Rows) (Q : List Nat → Prop) => Q (heraldsL g)) (fLn (fD K dN))) := by
  refine gw_mk F hm b sc__law_heralds (fun _ => rfl) (fun _ => inferInstance) fun cdv A outer s H E g hr => ?_
  obtain ⟨v__law_web, hgen⟩ : ∃ x, x = g := ⟨g, rfl⟩
  subst hgen
  refine ⟨_, (pss_cons (ps_set (i := 1) sc__law_heralds.nd rfl (by first | exact Or.inl rfl | exact Or.inr rfl) (p_prp c_web_size hr (by decide) (pv 0)))
    (pss_one (ps_ret (pe_lc (own := [("_law_house", 2)]) (g := gName 2) rfl sc__law_heralds.nd (pi_range1 (by rfl) B.range (pa_cons (pv 1) pa_nil)) (blkOk_by (N := N__law_heralds) (sc := defScope s__law_heralds) (by decide +kernel)) (fun _ _ _ _ _ => (pg_name (i := 2) sc__law_heralds.nd rfl (by first | exact Or.inl rfl | exact Or.inr rfl))) (fun _ _ _ _ _ => (pts_one (pt_cmpR (op_eqDK K hr.units) (pe_lc (own := [("_law_one", 3)]) (g := gName 3) rfl sc__law_heralds.nd (pi_range1 (by rfl) B.range (pa_cons (pv 1) pa_nil)) (blkOk_by (N := N__law_heralds) (by first | decide +kernel | (dsimp only [Cx.blk, compEnvC]; decide +kernel) | exact rfl)) (fun _ _ _ _ _ => (pg_name (i := 3) sc__law_heralds.nd rfl (by first | exact Or.inl rfl | exact Or.inr rfl))) (fun _ _ _ _ _ => (pts_one (pt_cmpR (op_notIn_seqK K) (pv 2) (p_met c_web_hears hr (by decide) (pv 0) (pa_cons (pv 3) pa_nil)) rfl))) (fun _ _ _ _ _ => by exact (pv 3))) (pe_lst pa_nil) (nomark _)))) (fun _ _ _ _ _ => by exact (pv 2)))))), _,
    (ts_set (R := (fD K dN)) 1 (tr_prp (Ra := (webP C_Web K)) (hS := is_web) (tr_var (R := (webP C_Web K)) (a := v__law_web) rfl)) rfl (fun v_law_size_1 => (ts_ret (tr_lc (vs := [2]) (Rd := (fD K dN)) (ti_rangeN (tr_var (R := (fD K dN)) (a := v_law_size_1) rfl)) (tg_name (R := (fD K dN)) 2) rfl rfl rfl (fun _ => rfl) (fun x2 => (tt_test (tr_op (o_eqD (d := (dL dN))) (tr_lnD (tr_lc (vs := [3]) (Rd := (fD K dN)) (ti_rangeN (tr_var (R := (fD K dN)) (a := v_law_size_1) rfl)) (tg_name (R := (fD K dN)) 3) rfl rfl rfl (fun _ => rfl) (fun x3 => (tt_test (tr_op o_notInT (tr_var (R := (fD K dN)) (a := x2) rfl) (tr_met (tr_var (R := (webP C_Web K)) (a := v__law_web) rfl) is_web (ta_one (tr_var (R := (fD K dN)) (a := x3) rfl)))))) (fun x3 => (tr_var (R := (fD K dN)) (a := x3) rfl)))) (tr_lnD (tr_lst (R := (fD K dN)) (ta_lnil (R := (fD K dN)))))))) (fun x2 => (tr_var (R := (fD K dN)) (a := x2) rfl)))))), ?_⟩
  rintro Q ⟨vs0, F0, hv⟩ hs
  try delta pur
  try dsimp only at hs hv ⊢
  obtain ⟨v, rfl, ok, _⟩ := each1 hv
  have hl := ok.le
  refine ⟨True.intro, by omega, by rw [List.length_range]; omega, ?_⟩
  refine lcW_of (f := fun h => decide (((List.range v__law_web.length).filter fun o => !decide (h ∈ hbL v__law_web o)) = [])) (h := fun x => x) (fun h _ Q hQ => ⟨by omega, by rw [List.length_range]; omega, ?_⟩) (fun _ _ _ Q hQ => hQ) (by rw [List.map_id']; exact hs)
  refine lcW_of (f := fun o => !decide (h ∈ hbL v__law_web o)) (h := fun x => x) (fun o ho Q hQ => ⟨List.mem_range.mp ho, hQ⟩) (fun _ _ _ Q hQ => hQ) ?_
  rw [List.map_id']
  exact ⟨by decide, hQ⟩
abbrev s__law_behind : Stmt := topS 38
abbrev N__law_behind : List Str := ["_law_pool", "_law_word", "_law_found", "_law_index"]
theorem sc__law_behind : FnScope N__law_behind ["_law_pool", "_law_word"] (defScope s__law_behind) := ⟨rfl, rfl, rfl, by decide +kernel, rfl, by decide +kernel, by decide +kernel⟩
theorem ok__law_behind {f : Addr} {fd : FuncData} (B : Bf mg) (c_silent_web : Gf P w K mg base 8 "silent_web" (SpN (fun g : Nat => [(fD K dN) g]) (fun (g : Nat) (Q : Rows → Prop) => (1 ≤ g ∧ g ≤ 5) ∧ Q (silentR g)) (webP C_Web K))) (c_pool_size : PrpS P w K mg base 1 C_Pool "size" (SpN (fun g : (List Rows) => [(poolP C_Pool C_Web K P w) g]) (fun (g : List Rows) (Q : Nat → Prop) => Q (psize g)) (fD K dN))) (c_web_then : MetS P w K mg base 8 C_Web "then" (SpN (fun g : Rows × Rows => [(webP C_Web K) g.1, (webP C_Web K) g.2]) (fun (g : Rows × Rows) (Q : Rows → Prop) => g.2.length = g.1.length ∧ Q (thenR g.1 g.2)) (webP C_Web K))) (c_pool_get : GetS P w K mg base 5 C_Pool (SpN (fun g : (List Rows) × Nat => [(poolP C_Pool C_Web K P w) g.1, (fD K dN) g.2]) (fun (g : List Rows × Nat) (Q : Rows → Prop) => ∃ rs, g.1[g.2]? = some rs ∧ Q rs) (webP C_Web K))) (F : Fun K "_law_behind" "_law_behind" s__law_behind f fd) (hm : mg "_law_behind" = some (.ref f)) (b : Binds K fd ["_law_pool", "_law_word"] []) : Gf P w K mg base 9 "_law_behind" (SpN (fun g : (List Rows) × (List Nat) => [(poolP C_Pool C_Web K P w) g.1, (fLn (fD K dN)) g.2]) (fun (g : List Rows × List Nat) (Q : Rows → Prop) => ((∀ i ∈ g.2, i < g.1.length) ∧ g.2.length ≤ 1000) ∧ Q (wholeR (g.2.map fun i => g.1.getD i []) (psize g.1))) (webP C_Web K)) := by
  refine gw_mk F hm b sc__law_behind (fun _ => rfl) (fun _ => inferInstance) fun cdv A outer s H E g hr => ?_
  obtain ⟨v__law_pool, v__law_word⟩ := g
  refine ⟨_, (pss_cons (ps_set (i := 2) sc__law_behind.nd rfl (by first | exact Or.inl rfl | exact Or.inr rfl) (p_call c_silent_web hr (by decide) (pa_cons (p_prp c_pool_size hr (by decide) (pv 0)) pa_nil)))
    (pss_cons (ps_for PassesOwn.never rfl (pi_list (pv 1)) (pg_name (i := 3) sc__law_behind.nd rfl (by first | exact Or.inl rfl | exact Or.inr rfl))
      (pss_one (ps_set (i := 2) sc__law_behind.nd rfl (by first | exact Or.inl rfl | exact Or.inr rfl) (p_met c_web_then hr (by decide) (pv 2) (pa_cons (p_getO c_pool_get hr (by decide) (pv 0) (pv 3) (fun _ _ => rfl)) pa_nil)))))
    (pss_one (ps_ret (pv 2))))), _,
    (ts_set (R := (webP C_Web K)) 2 (tr_fact (p := Ok) ok_web (tr_call (ta_one (tr_prp (Ra := (poolP C_Pool C_Web K P w)) (hS := is_pool) (tr_var (R := (poolP C_Pool C_Web K P w)) (a := v__law_pool) rfl))))) rfl (fun v_law_found_1 => (ts_for (S1 := Rows) (ρ1 := fun s2 => [some ((poolP C_Pool C_Web K P w) v__law_pool), some ((fLn (fD K dN)) v__law_word), some ((webP C_Web K) s2), none]) (κ1s := fun s2 => []) v_law_found_1 (leV_some (leV_some (leV_some (leV_none leV_nil)))) (fun _ _ _ h => h) (ti_lst (tr_var (R := (fLn (fD K dN))) (a := v__law_word) rfl)) (tg_name (R := (fD K dN)) 3) (fun _ => rfl)
      (fun s2 x3 => (ts_one (ts_set (R := (webP C_Web K)) 2 (tr_fact (p := Ok) ok_web (tr_met (tr_var (R := (webP C_Web K)) (a := s2) rfl) is_web (ta_one (tr_fact (p := Ok) ok_web (tr_op (o_getOwn is_pool) (tr_var (R := (poolP C_Pool C_Web K P w)) (a := v__law_pool) rfl) (tr_var (R := (fD K dN)) (a := x3) rfl)))))) rfl (fun v_law_found_4 => (ts_next v_law_found_4 (leV_some (leV_some (leV_some (leV_none leV_nil)))) (fun _ _ _ h => h))))))
      (fun s2 => (ts_ret (tr_var (R := (webP C_Web K)) (a := s2) rfl)))))), ?_⟩
  rintro Q ⟨vs0, F0, hv⟩ hs
  try delta pur
  try dsimp only at hs hv ⊢
  obtain ⟨⟨hw, _⟩, q⟩ := hs
  obtain ⟨v, v1, rfl, ⟨ok, _⟩, _⟩ := each2 hv
  have hp := psize_le ok
  refine ⟨hp, fun o1 => ?_⟩
  refine forW_inv2 (fun i s => s = wholeR ((v__law_word.take i).map fun i => v__law_pool.getD i []) (psize v__law_pool)) rfl (fun i x s P hx e hP => ?_) (fun s e => ?_)
  · have hx2 := hw x (List.mem_of_getElem? hx)
    have hg := getD_at (d := ([] : Rows)) hx2
    refine ⟨_, hg, fun o2 => ⟨?_, fun _ => hP _ ?_⟩⟩
    · rw [e, whole_len]
      exact ok.sz _ (List.mem_of_getElem? hg)
    · rw [List.take_succ, hx, e]
      show _ = wholeR (List.map _ (v__law_word.take i ++ [x])) _
      rw [List.map_append, List.map_singleton, whole_snoc]
  · rw [List.take_length] at e
    rw [e]; exact q
theorem mem_always {rss : List Rows} {x : Nat} : x ∈ alwaysN rss ↔ x < psize rss ∧ ∀ rs ∈ rss, x ∈ rootsN rs := by
  unfold alwaysN
  rw [List.mem_filter, List.mem_range, List.all_map, List.all_eq_true]
  exact ⟨fun ⟨h1, h2⟩ => ⟨h1, fun rs h => of_decide_eq_true (h2 rs h)⟩, fun ⟨h1, h2⟩ => ⟨h1, fun rs h => decide_eq_true (h2 rs h)⟩⟩
theorem isnum_few {n : Nat} {ys zs : List Nat} (h8 : n ≤ 8) (hp : (ys ++ zs).Perm (List.range n)) (hl : ys.length = min n (List.range n).length) : IsNum ys n := by
  rw [List.length_range, Nat.min_self] at hl
  have h2 := hp.length_eq
  rw [List.length_append, List.length_range] at h2
  have hz : zs = [] := List.length_eq_zero_iff.mp (by omega)
  rw [hz, List.append_nil] at hp
  exact ⟨hl, hp.nodup_iff.mpr List.nodup_range, fun x hx => List.mem_range.mp (hp.mem_iff.mp hx), h8⟩
theorem roots_sort {rs : Rows} {ns : List Nat} (ok : Ok rs) (N : IsNum ns rs.length) : sortN ((rootsN rs).map fun x => ns.getD x 0) = rootsN (renumR rs ns) := by
  refine sortN_eq (asc_roots.imp fun z => Nat.le_of_lt z) ?_
  have inj := fun a b ha hb e => isnum_inj N (a := a) (b := b) ha hb e
  refine (List.perm_ext_iff_of_nodup (asc_nodup asc_roots) ?_).mpr fun z => ?_
  · exact List.pairwise_map.mpr ((asc_nodup asc_roots).imp_of_mem fun hx hy ne e => ne (inj _ _ (mem_roots.mp hx).1 (mem_roots.mp hy).1 e))
  · rw [mem_roots_renum inj (fun a ha => isnum_lt N ha) ok (fun z hz => isnum_sur N hz), List.mem_map]
theorem fill1 {α : Type} : ∀ (n : Nat) (x : α), (List.replicate n [x]).flatten = List.replicate n x
  | 0, _ => rfl
  | n + 1, x => by rw [List.replicate_succ, List.replicate_succ, List.flatten_cons, fill1 n x]; rfl
abbrev s__law_right : Stmt := topS 39
abbrev N__law_right : List Str := ["_law_cask_here", "_law_size", "_law_pool", "_law_turn", "_law_word", "_law_again", "_law_house", "_law_keeps", "_law_at", "_law_indices", "_law_numbers", "_law_turned", "_law_web", "_law_due", "_law_row"]
theorem sc__law_right : FnScope N__law_right ["_law_cask_here"] (defScope s__law_right) := ⟨rfl, rfl, rfl, by decide +kernel, rfl, by decide +kernel, by decide +kernel⟩
theorem ok__law_right {f : Addr} {fd : FuncData} (B : Bf mg) (c_law_scoop : Gf P w K mg base 1 "_law_scoop" (SpN (fun g : Unit × Nat => [(fCk 3) g.1, (fD K dN) g.2]) (fun (g : Unit × Nat) (Q : Nat → Prop) => (1 ≤ g.2 ∧ g.2 ≤ 1000) ∧ ∀ n, n < g.2 → Q n) (fD K dN))) (c_law_pool_of : Gf P w K mg base 11 "_law_pool_of" (SpN (fun g : (List (List (List Nat))) => [(fLn (fD K (dT (dT dN)))) g]) (fun (g : List Rows) (Q : List Rows → Prop) => POk g ∧ Q g) (poolP C_Pool C_Web K P w))) (c_law_pool_rows : Gf P w K mg base 4 "_law_pool_rows" (SpN (fun g : Unit × Nat × Nat => [(fCk 3) g.1, (fD K dN) g.2.1, (fD K dN) g.2.2]) (fun (g : Unit × Nat × Nat) (Q : List Rows → Prop) => ((1 ≤ g.2.1 ∧ g.2.1 ≤ 5) ∧ 1 ≤ g.2.2 ∧ g.2.2 ≤ 8) ∧ ∀ rss : List Rows, POk rss → psize rss = g.2.1 → Q rss) (fLn (fD K (dT (dT dN)))))) (c_pool_len : OwnS P w K mg base "__len__" 1 C_Pool (SpN (fun g : (List Rows) => [(poolP C_Pool C_Web K P w) g]) (fun (g : List Rows) (Q : Nat → Prop) => Q g.length) (fD K dN))) (c_pool_always : PrpS P w K mg base 1 C_Pool "always" (SpN (fun g : (List Rows) => [(poolP C_Pool C_Web K P w) g]) (fun (g : List Rows) (Q : List Nat → Prop) => Q (alwaysN g)) (fD K (dT dN)))) (c_law_heralds : Gf P w K mg base 6 "_law_heralds" (SpN (fun g : Rows => [(webP C_Web K) g]) (fun (g : Rows) (Q : List Nat → Prop) => Q (heraldsL g)) (fLn (fD K dN)))) (c_law_behind : Gf P w K mg base 9 "_law_behind" (SpN (fun g : (List Rows) × (List Nat) => [(poolP C_Pool C_Web K P w) g.1, (fLn (fD K dN)) g.2]) (fun (g : List Rows × List Nat) (Q : Rows → Prop) => ((∀ i ∈ g.2, i < g.1.length) ∧ g.2.length ≤ 1000) ∧ Q (wholeR (g.2.map fun i => g.1.getD i []) (psize g.1))) (webP C_Web K))) (c_pool_roots : PrpS P w K mg base 1 C_Pool "roots" (SpN (fun g : (List Rows) => [(poolP C_Pool C_Web K P w) g]) (fun (g : List Rows) (Q : Rows → Prop) => Q (g.map rootsN)) (fD K (dT (dT dN))))) (c_law_few_of : Gf P w K mg base 2 "_law_few_of" (SpN (fun g : Unit × (List Nat) × Nat => [(fCk 3) g.1, (fLn (fD K dN)) g.2.1, (fD K dN) g.2.2]) spFew (fLn (fD K dN)))) (c_pool_reordered : MetS P w K mg base 11 C_Pool "reordered" (SpN (fun g : (List Rows) × (List Nat) => [(poolP C_Pool C_Web K P w) g.1, (fD K (dT dN)) g.2]) (fun (g : List Rows × List Nat) (Q : List Rows → Prop) => IsNum g.2 g.1.length ∧ Q (g.2.map fun i => g.1.getD i [])) (poolP C_Pool C_Web K P w))) (c_pool_iter : ItS P w K mg base 1 C_Pool 2) (c_web_roots : PrpS P w K mg base 1 C_Web "roots" (SpN (fun g : Rows => [(webP C_Web K) g]) (fun (g : Rows) (Q : List Nat → Prop) => True ∧ Q (rootsN g)) (fD K (dT dN)))) (c_pool_renumbered : MetS P w K mg base 11 C_Pool "renumbered" (SpN (fun g : (List Rows) × (List Nat) => [(poolP C_Pool C_Web K P w) g.1, (fD K (dT dN)) g.2]) (fun (g : List Rows × List Nat) (Q : List Rows → Prop) => IsNum g.2 (psize g.1) ∧ Q (g.1.map fun rs => renumR rs g.2)) (poolP C_Pool C_Web K P w))) (F : Fun K "_law_right" "_law_right" s__law_right f fd) (hm : mg "_law_right" = some (.ref f)) (b : Binds K fd ["_law_cask_here"] []) : Gf P w K mg base 12 "_law_right" (SpN (fun g : Unit => [(fCk 3) g]) (fun (g : Unit) (Q : Bool → Prop) => Q true) (fD K dB)) := by
  refine gw_mk F hm b sc__law_right (fun _ => rfl) (fun _ => inferInstance) fun cdv A outer s H E g hr => ?_
  obtain ⟨v__law_cask_here, hgen⟩ : ∃ x, x = g := ⟨g, rfl⟩
  subst hgen
  refine ⟨_, (pss_cons (ps_set (i := 1) sc__law_right.nd rfl (by first | exact Or.inl rfl | exact Or.inr rfl) (pe_op op_add pe_int (p_call c_law_scoop hr (by decide) (pa_cons (pv 0) (pa_cons pe_int pa_nil)))))
    (pss_cons (ps_set (i := 2) sc__law_right.nd rfl (by first | exact Or.inl rfl | exact Or.inr rfl) (p_call c_law_pool_of hr (by decide) (pa_cons (p_call c_law_pool_rows hr (by decide) (pa_cons (pv 0) (pa_cons (pv 1) (pa_cons pe_int pa_nil)))) pa_nil)))
    (pss_cons (ps_for PassesOwn.never rfl (pi_range1 (by rfl) B.range (pa_cons pe_int pa_nil)) (pg_name (i := 3) sc__law_right.nd rfl (by first | exact Or.inl rfl | exact Or.inr rfl))
      (pss_cons (ps_set (i := 4) sc__law_right.nd rfl (by first | exact Or.inl rfl | exact Or.inr rfl) (pe_lc (own := [("_law_again", 5)]) (g := gName 5) (tt := tYes) rfl sc__law_right.nd (pi_range1 (by rfl) B.range (pa_cons (pe_op op_sub (pv 1) pe_int) pa_nil)) (blkOk_by (N := N__law_right) (sc := defScope s__law_right) (by decide +kernel)) (fun _ _ _ _ _ => (pg_name (i := 5) sc__law_right.nd rfl (by first | exact Or.inl rfl | exact Or.inr rfl))) (fun _ _ _ _ _ => pts_nil) (fun _ _ _ _ _ => by exact (p_call c_law_scoop hr (by decide) (pa_cons (pv 0) (pa_cons (p_lenO B c_pool_len hr (by decide) (pa_cons (pv 2) pa_nil)) pa_nil))))))
      (pss_one (ps_if (pt_cmpR (op_neD hr.units) (pe_lc (own := [("_law_house", 6)]) (g := gName 6) rfl sc__law_right.nd (pi_tup (p_prp c_pool_always hr (by decide) (pv 2))) (blkOk_by (N := N__law_right) (sc := defScope s__law_right) (by decide +kernel)) (fun _ _ _ _ _ => (pg_name (i := 6) sc__law_right.nd rfl (by first | exact Or.inl rfl | exact Or.inr rfl))) (fun _ _ _ _ _ => (pts_one (pt_cmpR (op_notIn_seqK K) (pv 6) (p_call c_law_heralds hr (by decide) (pa_cons (p_call c_law_behind hr (by decide) (pa_cons (pv 2) (pa_cons (pv 4) pa_nil))) pa_nil)) rfl))) (fun _ _ _ _ _ => by exact (pv 6))) (pe_lst pa_nil) (nomark _))
        (pss_one (ps_ret pe_bl))
        pss_nil))))
    (pss_cons (ps_for PassesOwn.never rfl (pi_range1 (by rfl) B.range (pa_cons (pv 1) pa_nil)) (pg_name (i := 6) sc__law_right.nd rfl (by first | exact Or.inl rfl | exact Or.inr rfl))
      (pss_one (ps_if (pt_cmpR op_notIn_seq (pv 6) (p_prp c_pool_always hr (by decide) (pv 2)) rfl)
        (pss_cons (ps_setLc (i := 7) (own := [("_law_at", 8)]) (g := gName 8)  rfl sc__law_right.nd rfl rfl (sw_true rfl rfl rfl (by decide +kernel)) (pi_range1 (by rfl) B.range (pa_cons (p_lenO B c_pool_len hr (by decide) (pa_cons (pv 2) pa_nil)) pa_nil)) (blkOk_by (N := N__law_right) (sc := defScope s__law_right) (by decide +kernel)) (fun _ _ _ _ _ => (pg_name (i := 8) sc__law_right.nd rfl (by first | exact Or.inl rfl | exact Or.inr rfl))) (fun _ _ _ _ _ => (pts_one (pt_cmpR (op_notIn_seqK K) (pv 6) (pe_ix (ix_tupK K) (p_prp c_pool_roots hr (by decide) (pv 2)) (pv 8) (fun _ _ => rfl)) rfl))) (fun _ _ _ _ _ => by exact (pv 8)))
        (pss_one (ps_if (PW.pt (pw_or (pt_cmpR (op_eqD hr.units) (pv 7) (pe_lst pa_nil) (nomark _)) (pw_or1 (pt_cmpR op_in_seq (pv 6) (p_call c_law_heralds hr (by decide) (pa_cons (p_call c_law_behind hr (by decide) (pa_cons (pv 2) (pa_cons (pe_op op_rep (pe_slice sl_list (pv 7) po_none (po_some pe_int)) pe_int) pa_nil))) pa_nil)) rfl))))
          (pss_one (ps_ret pe_bl))
          pss_nil)))
        pss_nil)))
    (pss_cons (ps_set (i := 9) sc__law_right.nd rfl (by first | exact Or.inl rfl | exact Or.inr rfl) (p_tuple B (pa_cons (p_call c_law_few_of hr (by decide) (pa_cons (pv 0) (pa_cons (p_listRg rfl B (p_lenO B c_pool_len hr (by decide) (pa_cons (pv 2) pa_nil))) (pa_cons (p_lenO B c_pool_len hr (by decide) (pa_cons (pv 2) pa_nil)) pa_nil)))) pa_nil)))
    (pss_cons (ps_set (i := 10) sc__law_right.nd rfl (by first | exact Or.inl rfl | exact Or.inr rfl) (p_tuple B (pa_cons (p_call c_law_few_of hr (by decide) (pa_cons (pv 0) (pa_cons (p_listRg rfl B (pv 1)) (pa_cons (pv 1) pa_nil)))) pa_nil)))
    (pss_cons (ps_set (i := 11) sc__law_right.nd rfl (by first | exact Or.inl rfl | exact Or.inr rfl) (p_tuple B (pa_cons (pe_lc (own := [("_law_at", 8)]) (g := gName 8) (tt := tYes) rfl sc__law_right.nd (pi_tup (pv 9)) (blkOk_by (N := N__law_right) (sc := defScope s__law_right) (by decide +kernel)) (fun _ _ _ _ _ => (pg_name (i := 8) sc__law_right.nd rfl (by first | exact Or.inl rfl | exact Or.inr rfl))) (fun _ _ _ _ _ => pts_nil) (fun _ _ _ _ _ => by exact (pe_ix (ix_tupK K) (p_prp c_pool_roots hr (by decide) (pv 2)) (pv 8) (fun _ _ => rfl)))) pa_nil)))
    (pss_cons (ps_if (PW.pt (pw_or (pt_cmpR (op_neD hr.units) (p_prp c_pool_roots hr (by decide) (pv 2)) (p_tuple B (pa_cons (pe_lc (own := [("_law_web", 12)]) (g := gName 12) (tt := tYes) rfl sc__law_right.nd (pi_own c_pool_iter hr (by decide) (pv 2)) (blkOk_by (N := N__law_right) (sc := defScope s__law_right) (by decide +kernel)) (fun _ _ _ _ _ => (pg_name (i := 12) sc__law_right.nd rfl (by first | exact Or.inl rfl | exact Or.inr rfl))) (fun _ _ _ _ _ => pts_nil) (fun _ _ _ _ _ => by exact (p_prp c_web_roots hr (by decide) (pv 12)))) pa_nil)) (nomark _)) (pw_or1 (pt_cmpR (op_neD hr.units) (p_prp c_pool_roots hr (by decide) (p_met c_pool_reordered hr (by decide) (pv 2) (pa_cons (pv 9) pa_nil))) (pv 11) (nomark _)))))
      (pss_one (ps_ret pe_bl))
      pss_nil)
    (pss_cons (ps_setLc (i := 13) (own := [("_law_row", 14)]) (g := gName 14) (tt := tYes)  rfl sc__law_right.nd rfl rfl (sw_true rfl rfl rfl (by decide +kernel)) (pi_tup (p_prp c_pool_roots hr (by decide) (pv 2))) (blkOk_by (N := N__law_right) (sc := defScope s__law_right) (by decide +kernel)) (fun _ _ _ _ _ => (pg_name (i := 14) sc__law_right.nd rfl (by first | exact Or.inl rfl | exact Or.inr rfl))) (fun _ _ _ _ _ => pts_nil) (fun _ _ _ _ _ => by exact (p_tupleK K B (pa_cons (p_sortedLK K B (pa_cons (pe_lc (own := [("_law_house", 6)]) (g := gName 6) (tt := tYes) rfl sc__law_right.nd (pi_tupK K (pv 14)) (blkOk_by (N := N__law_right) (by first | decide +kernel | (dsimp only [Cx.blk, compEnvC]; decide +kernel) | exact rfl)) (fun _ _ _ _ _ => (pg_name (i := 6) sc__law_right.nd rfl (by first | exact Or.inl rfl | exact Or.inr rfl))) (fun _ _ _ _ _ => pts_nil) (fun _ _ _ _ _ => by exact (pe_ix (ix_tupK K) (pv 10) (pv 6) (fun _ _ => rfl)))) pa_nil)) pa_nil))))
    (pss_one (ps_ret (pe_cmpR (op_eqD hr.units) (p_prp c_pool_roots hr (by decide) (p_met c_pool_renumbered hr (by decide) (pv 2) (pa_cons (pv 10) pa_nil))) (p_tuple B (pa_cons (pv 13) pa_nil)) (nomark _))))))))))))), _,
    (ts_set (R := (fD K dN)) 1 (tr_op o_addN (tr_nat (K := K) 1) (tr_call (ta_cons (tr_var (R := (fCk 3)) (a := v__law_cask_here) rfl) (ta_one (tr_nat (K := K) 4))))) rfl (fun v_law_size_1 => (ts_set (R := (poolP C_Pool C_Web K P w)) 2 (tr_fact (p := POk) ok_pool (tr_call (ta_one (tr_call (ta_cons (tr_var (R := (fCk 3)) (a := v__law_cask_here) rfl) (ta_cons (tr_var (R := (fD K dN)) (a := v_law_size_1) rfl) (ta_one (tr_nat (K := K) 5)))))))) rfl (fun v_law_pool_2 => (ts_for (S1 := Unit) (ρ1 := fun s3 => [some ((fCk 3) v__law_cask_here), some ((fD K dN) v_law_size_1), some ((poolP C_Pool C_Web K P w) v_law_pool_2), none, none, none, none, none, none, none, none, none, none, none, none]) (κ1s := fun s3 => []) () (leV_some (leV_some (leV_some (leV_none (leV_none (leV_none (leV_none (leV_none (leV_none (leV_none (leV_none (leV_none (leV_none (leV_none (leV_none leV_nil))))))))))))))) (fun _ _ _ h => h) (ti_rangeN (tr_nat (K := K) 6)) (tg_name (R := (fD K dN)) 3) (fun _ => rfl)
      (fun s3 x4 => (ts_set (R := (fLn (fD K dN))) 4 (tr_lc (vs := [5]) (Rd := (fD K dN)) (ti_rangeI (tr_op o_i0i (tr_ni (tr_var (R := (fD K dN)) (a := v_law_size_1) rfl)) (tr_int (K := K)))) (tg_name (R := (fD K dN)) 5) rfl rfl rfl (fun _ => rfl) (fun x5 => tt_yes) (fun x5 => (tr_call (ta_cons (tr_var (R := (fCk 3)) (a := v__law_cask_here) rfl) (ta_one (tr_cb (c_lenOwn is_pool) (ta_one (tr_var (R := (poolP C_Pool C_Web K P w)) (a := v_law_pool_2) rfl)))))))) rfl (fun v_law_word_6 => (ts_one (ts_ifq (tt_test (tr_op (o_neD (d := (dL dN))) (tr_lnD (tr_lc (vs := [6]) (Rd := (fD K dN)) (ti_tupD (tr_prp (Ra := (poolP C_Pool C_Web K P w)) (hS := is_pool) (tr_var (R := (poolP C_Pool C_Web K P w)) (a := v_law_pool_2) rfl))) (tg_name (R := (fD K dN)) 6) rfl rfl rfl (fun _ => rfl) (fun x7 => (tt_test (tr_op o_notInL (tr_var (R := (fD K dN)) (a := x7) rfl) (tr_lnD (tr_call (ta_one (tr_fact (p := Ok) ok_web (tr_call (ta_cons (tr_var (R := (poolP C_Pool C_Web K P w)) (a := v_law_pool_2) rfl) (ta_one (tr_var (R := (fLn (fD K dN))) (a := v_law_word_6) rfl))))))))))) (fun x7 => (tr_var (R := (fD K dN)) (a := x7) rfl)))) (tr_lnD (tr_lst (R := (fD K dN)) (ta_lnil (R := (fD K dN)))))))
      (ts_retq (tr_bl (K := K)))
      (ts_nextq (ts_next () (leV_some (leV_some (leV_some (leV_none (leV_none (leV_none (leV_none (leV_none (leV_none (leV_none (leV_none (leV_none (leV_none (leV_none (leV_none leV_nil))))))))))))))) (fun _ _ _ h => h))))))))
      (fun s3 => (ts_for (S1 := Unit) (ρ1 := fun s8 => [some ((fCk 3) v__law_cask_here), some ((fD K dN) v_law_size_1), some ((poolP C_Pool C_Web K P w) v_law_pool_2), none, none, none, none, none, none, none, none, none, none, none, none]) (κ1s := fun s8 => []) () (leV_some (leV_some (leV_some (leV_none (leV_none (leV_none (leV_none (leV_none (leV_none (leV_none (leV_none (leV_none (leV_none (leV_none (leV_none leV_nil))))))))))))))) (fun _ _ _ h => h) (ti_rangeN (tr_var (R := (fD K dN)) (a := v_law_size_1) rfl)) (tg_name (R := (fD K dN)) 6) (fun _ => rfl)
      (fun s8 x9 => (ts_one (ts_seq (S1 := Unit) (ρ1 := fun s12 => [some ((fCk 3) v__law_cask_here), some ((fD K dN) v_law_size_1), some ((poolP C_Pool C_Web K P w) v_law_pool_2), none, none, none, some ((fD K dN) x9), none, none, none, none, none, none, none, none]) (κ1s := fun s12 => []) (ts_if (tt_test (tr_op o_notInT (tr_var (R := (fD K dN)) (a := x9) rfl) (tr_prp (Ra := (poolP C_Pool C_Web K P w)) (hS := is_pool) (tr_var (R := (poolP C_Pool C_Web K P w)) (a := v_law_pool_2) rfl))))
      (ts_set (R := (fLn (fD K dN))) 7 (tr_lc (vs := [8]) (Rd := (fD K dN)) (ti_rangeN (tr_cb (c_lenOwn is_pool) (ta_one (tr_var (R := (poolP C_Pool C_Web K P w)) (a := v_law_pool_2) rfl)))) (tg_name (R := (fD K dN)) 8) rfl rfl rfl (fun _ => rfl) (fun x15 => (tt_test (tr_op o_notInT (tr_var (R := (fD K dN)) (a := x9) rfl) (tr_op o_ixT (tr_prp (Ra := (poolP C_Pool C_Web K P w)) (hS := is_pool) (tr_var (R := (poolP C_Pool C_Web K P w)) (a := v_law_pool_2) rfl)) (tr_var (R := (fD K dN)) (a := x15) rfl))))) (fun x15 => (tr_var (R := (fD K dN)) (a := x15) rfl))) rfl (fun v_law_keeps_16 => (ts_one (ts_ifq (tt_or (tt_test (tr_op (o_eqD (d := (dL dN))) (tr_lnD (tr_var (R := (fLn (fD K dN))) (a := v_law_keeps_16) rfl)) (tr_lnD (tr_lst (R := (fD K dN)) (ta_lnil (R := (fD K dN))))))) (tt_test (tr_op o_inL (tr_var (R := (fD K dN)) (a := x9) rfl) (tr_lnD (tr_call (ta_one (tr_fact (p := Ok) ok_web (tr_call (ta_cons (tr_var (R := (poolP C_Pool C_Web K P w)) (a := v_law_pool_2) rfl) (ta_one (tr_op o_repL (tr_slL (tr_var (R := (fLn (fD K dN))) (a := v_law_keeps_16) rfl) to_no (to_some (tr_nat (K := K) 1))) (tr_nat (K := K) 9))))))))))))
      (ts_retq (tr_bl (K := K)))
      (ts_nextq (ts_next () (leV_some (leV_some (leV_some (leV_none (leV_none (leV_none (leV_some (leV_none (leV_none (leV_none (leV_none (leV_none (leV_none (leV_none (leV_none leV_nil))))))))))))))) (fun _ _ _ h => h)))))))
      (ts_next () (leV_some (leV_some (leV_some (leV_none (leV_none (leV_none (leV_some (leV_none (leV_none (leV_none (leV_none (leV_none (leV_none (leV_none (leV_none leV_nil))))))))))))))) (fun _ _ _ h => h)))
      (fun s12 => (ts_next () (leV_some (leV_some (leV_some (leV_none (leV_none (leV_none (leV_none (leV_none (leV_none (leV_none (leV_none (leV_none (leV_none (leV_none (leV_none leV_nil))))))))))))))) (fun _ _ _ h => h))))))
      (fun s8 => (ts_set (R := (fD K (dT dN))) 9 (tr_cb c_tupDL (ta_one (tr_lnD (tr_call (ta_cons (tr_var (R := (fCk 3)) (a := v__law_cask_here) rfl) (ta_cons (tn_listRg (tr_cb (c_lenOwn is_pool) (ta_one (tr_var (R := (poolP C_Pool C_Web K P w)) (a := v_law_pool_2) rfl)))).e (ta_one (tr_cb (c_lenOwn is_pool) (ta_one (tr_var (R := (poolP C_Pool C_Web K P w)) (a := v_law_pool_2) rfl)))))))))) rfl (fun v_law_indices_17 => (ts_set (R := (fD K (dT dN))) 10 (tr_cb c_tupDL (ta_one (tr_lnD (tr_call (ta_cons (tr_var (R := (fCk 3)) (a := v__law_cask_here) rfl) (ta_cons (tn_listRg (tr_var (R := (fD K dN)) (a := v_law_size_1) rfl)).e (ta_one (tr_var (R := (fD K dN)) (a := v_law_size_1) rfl)))))))) rfl (fun v_law_numbers_18 => (ts_set (R := (fD K (dT (dT dN)))) 11 (tr_cb c_tupDL (ta_one (tr_lnD (tr_lc (vs := [8]) (Rd := (fD K (dT dN))) (ti_tupD (tr_var (R := (fD K (dT dN))) (a := v_law_indices_17) rfl)) (tg_name (R := (fD K dN)) 8) rfl rfl rfl (fun _ => rfl) (fun x19 => tt_yes) (fun x19 => (tr_op o_ixT (tr_prp (Ra := (poolP C_Pool C_Web K P w)) (hS := is_pool) (tr_var (R := (poolP C_Pool C_Web K P w)) (a := v_law_pool_2) rfl)) (tr_var (R := (fD K dN)) (a := x19) rfl))))))) rfl (fun v_law_turned_20 => (ts_ifq (tt_or (tt_test (tr_op (o_neD (d := (dT (dT dN)))) (tr_prp (Ra := (poolP C_Pool C_Web K P w)) (hS := is_pool) (tr_var (R := (poolP C_Pool C_Web K P w)) (a := v_law_pool_2) rfl)) (tr_cb c_tupDL (ta_one (tr_lnD (tr_lc (vs := [12]) (Rd := (fD K (dT dN))) (ti_own it_pool (tr_var (R := (poolP C_Pool C_Web K P w)) (a := v_law_pool_2) rfl)) (tg_name (R := (webP C_Web K)) 12) rfl rfl rfl (fun _ => rfl) (fun x21 => tt_yes) (fun x21 => (tr_prp (Ra := (webP C_Web K)) (hS := is_web) (tr_var (R := (webP C_Web K)) (a := x21) rfl))))))))) (tt_test (tr_op (o_neD (d := (dT (dT dN)))) (tr_prp (Ra := (poolP C_Pool C_Web K P w)) (hS := is_pool) (tr_fact (p := POk) ok_pool (tr_met (tr_var (R := (poolP C_Pool C_Web K P w)) (a := v_law_pool_2) rfl) is_pool (ta_one (tr_var (R := (fD K (dT dN))) (a := v_law_indices_17) rfl))))) (tr_var (R := (fD K (dT (dT dN)))) (a := v_law_turned_20) rfl))))
      (ts_retq (tr_bl (K := K)))
      (ts_nextq (ts_set (R := (fLn (fD K (dT dN)))) 13 (tr_lc (vs := [14]) (Rd := (fD K (dT dN))) (ti_tupD (tr_prp (Ra := (poolP C_Pool C_Web K P w)) (hS := is_pool) (tr_var (R := (poolP C_Pool C_Web K P w)) (a := v_law_pool_2) rfl))) (tg_name (R := (fD K (dT dN))) 14) rfl rfl rfl (fun _ => rfl) (fun x22 => tt_yes) (fun x22 => (tr_cb c_tupDL (ta_one (tr_cb c_sorted (ta_one (tr_lnD (tr_lc (vs := [6]) (Rd := (fD K dN)) (ti_tupD (tr_var (R := (fD K (dT dN))) (a := x22) rfl)) (tg_name (R := (fD K dN)) 6) rfl rfl rfl (fun _ => rfl) (fun x23 => tt_yes) (fun x23 => (tr_op o_ixT (tr_var (R := (fD K (dT dN))) (a := v_law_numbers_18) rfl) (tr_var (R := (fD K dN)) (a := x23) rfl))))))))))) rfl (fun v_law_due_24 => (ts_ret (tr_op (o_eqD (d := (dT (dT dN)))) (tr_prp (Ra := (poolP C_Pool C_Web K P w)) (hS := is_pool) (tr_fact (p := POk) ok_pool (tr_met (tr_var (R := (poolP C_Pool C_Web K P w)) (a := v_law_pool_2) rfl) is_pool (ta_one (tr_var (R := (fD K (dT dN))) (a := v_law_numbers_18) rfl))))) (tr_cb c_tupDL (ta_one (tr_lnD (tr_var (R := (fLn (fD K (dT dN)))) (a := v_law_due_24) rfl)))))))))))))))))))))))), ?_⟩
  rintro Q ⟨vs0, F0, hv⟩ hs
  try delta pur
  try dsimp only [spFew] at hs hv ⊢
  refine ⟨⟨by decide, by decide⟩, fun n hn => ⟨⟨⟨by omega, by omega⟩, by decide, by decide⟩, fun rss ok sz => ⟨ok, fun _ => ⟨by decide, ?_⟩⟩⟩⟩
  have hp := ok.pos
  have h8 := ok.le
  have hz := psize_le ok
  have mem : ∀ i, i < rss.length → rss.getD i [] ∈ rss := fun i hi => List.mem_of_getElem? (getD_at hi)
  refine forW_inv2 (fun _ _ => True) True.intro (fun i x s P hx _ hP => ?_) (fun s _ => ?_)
  · refine ⟨⟨by omega, by omega⟩, by rw [List.length_range]; omega, ?_⟩
    refine lcW_all (P := fun _ y => y < rss.length) (fun x hx Q hQ => ⟨by omega, ⟨hp, by omega⟩, fun n hn => hQ n hn⟩) fun a hl ha => ?_
    rw [List.length_range] at hl
    have hw : ∀ i ∈ a, i < rss.length := fun i hi => by
      obtain ⟨k, hk⟩ := List.mem_iff_getElem?.mp hi
      have hk2 := (List.getElem?_eq_some_iff.mp hk).1
      exact ha k _ i (List.getElem?_range (by omega)) hk
    refine ⟨Nat.le_trans (List.length_filter_le _ _) (by rw [List.length_range]; omega), ?_⟩
    refine lcW_of (f := fun x => !decide (x ∈ heraldsL (wholeR (a.map fun i => rss.getD i []) (psize rss)))) (h := fun x => x) (fun x hx Q hQ => ⟨⟨hw, by omega⟩, fun _ => hQ⟩) (fun _ _ _ Q hQ => hQ) ⟨by decide, ?_⟩
    have e : (((alwaysN rss).filter fun x => !decide (x ∈ heraldsL (wholeR (a.map fun i => rss.getD i []) (psize rss)))).map fun x => x) = [] := by
      rw [List.map_id', List.filter_eq_nil_iff]
      intro x hx
      obtain ⟨h1, h2⟩ := mem_always.mp hx
      have : x ∈ heraldsL (wholeR (a.map fun i => rss.getD i []) (psize rss)) := by
        refine roots_word hz.1 hz.2 h1 (fun r hr => ?_) (by rw [List.length_map, hl]; omega)
        obtain ⟨i, hi, rfl⟩ := List.mem_map.mp hr
        have hm := mem i (hw i hi)
        exact ⟨⟨ok.ok _ hm, ok.sz _ hm⟩, h2 _ hm⟩
      show ¬ (!decide (x ∈ heraldsL (wholeR (a.map fun i => rss.getD i []) (psize rss)))) = true
      rw [decide_eq_true this]
      decide
    rw [e, if_neg (by simp)]
    exact hP () True.intro
  refine ⟨by omega, forW_inv2 (fun _ _ => True) True.intro (fun i x s P hx _ hP => ?_) (fun s _ => ?_)⟩
  · have hx2 : x < 1 + n := List.mem_range.mp (List.mem_of_getElem? hx)
    by_cases c : x ∈ alwaysN rss
    · rw [if_neg (by simp [c])]
      exact hP () True.intro
    rw [if_pos (by simp [c])]
    refine ⟨by omega, by omega, by rw [List.length_range]; omega, ?_⟩
    refine lcW_of (f := fun k => !decide (x ∈ rootsN (rss.getD k []))) (h := fun x => x) (fun k hk Q hQ => ⟨_, by rw [List.getElem?_map, getD_at (d := []) (List.mem_range.mp hk)]; rfl, hQ⟩) (fun _ _ _ Q hQ => hQ) ?_
    rw [List.map_id']
    have some1 : ∃ k, k ∈ (List.range rss.length).filter fun k => !decide (x ∈ rootsN (rss.getD k [])) := by
      by_cases d : ∃ rs ∈ rss, x ∉ rootsN rs
      · obtain ⟨rs, h1, h2⟩ := d
        obtain ⟨k, hk⟩ := List.mem_iff_getElem?.mp h1
        have hk2 := (List.getElem?_eq_some_iff.mp hk).1
        refine ⟨k, List.mem_filter.mpr ⟨List.mem_range.mpr hk2, ?_⟩⟩
        rw [List.getD_eq_getElem?_getD, hk]
        simpa using h2
      · refine absurd (mem_always.mpr ⟨by omega, fun rs h => ?_⟩) c
        by_cases q : x ∈ rootsN rs
        · exact q
        · exact absurd ⟨rs, h, q⟩ d
    generalize hk : (List.range rss.length).filter (fun k => !decide (x ∈ rootsN (rss.getD k []))) = keeps at some1 ⊢
    obtain ⟨k, ks, rfl⟩ : ∃ k ks, keeps = k :: ks := by
      cases keeps with
      | nil => obtain ⟨k, hk⟩ := some1; cases hk
      | cons k ks => exact ⟨k, ks, rfl⟩
    have hkm : k < rss.length ∧ x ∉ rootsN (rss.getD k []) := by
      have : k ∈ (List.range rss.length).filter (fun k => !decide (x ∈ rootsN (rss.getD k []))) := by rw [hk]; exact List.mem_cons_self
      rw [List.mem_filter, List.mem_range] at this
      exact ⟨this.1, by simpa using this.2⟩
    have e1 : cutL (k :: ks) none (some 1) = [k] := rfl
    have hm := mem k hkm.1
    refine orW_of false false (fun P hP => ⟨by decide, ?_⟩) (fun _ P hP => ?_) ?_
    · exact hP
    · rw [e1, fill1]
      refine ⟨by show 1 * 9 ≤ 100000; decide, by decide, ⟨fun i hi => ?_, by rw [List.length_replicate]; decide⟩, fun _ => ?_⟩
      · rw [(List.mem_replicate.mp hi).2]; exact hkm.1
      · have e2 : x ∈ heraldsL (wholeR ((List.replicate 9 k).map fun i => rss.getD i []) (psize rss)) ↔ False := by
          rw [List.map_replicate, ← ok.sz _ hm, heralds_pow (ok.ok _ hm) (by have := (ok.ok _ hm).le; omega)]
          exact ⟨hkm.2, False.elim⟩
        simp only [e2, decide_false]
        exact hP
    · rw [Bool.or_false, if_neg Bool.false_ne_true]
      exact hP () True.intro
  refine ⟨by omega, by omega, by omega, by rw [List.length_range]; omega, fun ys zs p1 p2 => ⟨by omega, by rw [List.length_range]; omega, fun us vs p3 p4 => ?_⟩⟩
  have N1 := isnum_few h8 p1 p2
  have N2 : IsNum us (psize rss) := by rw [sz]; exact isnum_few (by omega) p3 p4
  have hl1 := N1.len
  refine ⟨by omega, lcW_map (h := fun k => rootsN (rss.getD k [])) (fun k hk Q hQ => ⟨_, by rw [List.getElem?_map, getD_at (d := []) (N1.lt k hk)]; rfl, hQ⟩) ?_⟩
  refine orW_of false false (fun P hP => ⟨by omega, lcW_map (h := rootsN) (fun _ _ Q hQ => ⟨True.intro, hQ⟩) ?_⟩) (fun _ P hP => ⟨N1, fun _ => ?_⟩) ?_
  · rw [decide_eq_true rfl]; exact hP
  · rw [List.map_map]
    show P !decide (ys.map (fun k => rootsN (rss.getD k [])) = _)
    rw [decide_eq_true rfl]; exact hP
  rw [Bool.or_false, if_neg Bool.false_ne_true]
  refine ⟨by rw [List.length_map]; omega, lcW_map (h := fun row => sortN (row.map fun x => us.getD x 0)) (fun row hr Q hQ => ?_) ⟨N2, fun _ => ?_⟩⟩
  · obtain ⟨rs, hrs, rfl⟩ := List.mem_map.mp hr
    have hlen : (rootsN rs).length ≤ 5 := Nat.le_trans (nodup_len _ _ (asc_nodup asc_roots) fun z hz => (mem_roots.mp hz).1) (ok.ok rs hrs).le
    refine ⟨by omega, lcW_map (h := fun x => us.getD x 0) (fun x hx Q hQ => ⟨_, getD_at ?_, hQ⟩) ⟨by rw [List.length_map]; omega, hQ⟩⟩
    have h1 := (mem_roots.mp hx).1
    rw [ok.sz rs hrs, ← N2.len] at h1
    exact h1
  · have e : (rss.map fun rs => renumR rs us).map rootsN = (rss.map rootsN).map fun row => sortN (row.map fun x => us.getD x 0) := by
      rw [List.map_map, List.map_map]
      refine List.map_congr_left fun rs hrs => ?_
      exact (roots_sort (ok.ok rs hrs) (by rw [ok.sz rs hrs]; exact N2)).symm
    rw [decide_eq_true e]
    exact hs
abbrev s_law : Stmt := topS 40
abbrev N_law : List Str := ["_law_script", "_law_at", "_law_cask_here", "_law_turn"]
theorem sc_law : FnScope N_law ["_law_script"] (defScope s_law) := ⟨rfl, rfl, rfl, by decide +kernel, rfl, by decide +kernel, by decide +kernel⟩
theorem ok_law {f : Addr} {fd : FuncData} (B : Bf mg) (c_law_cask : Gf P w K mg base 1 "_law_cask" (SpN (fun g : (List Int) × Nat => [(fD K (dL dInt)) g.1, (fD K dN) g.2]) (fun (g : List Int × Nat) (Q : Unit → Prop) => g.1.length ≤ 63 ∧ Q ()) (fCk 3))) (c_law_right : Gf P w K mg base 12 "_law_right" (SpN (fun g : Unit => [(fCk 3) g]) (fun (g : Unit) (Q : Bool → Prop) => Q true) (fD K dB))) (F : Fun K "law" "law" s_law f fd) : FnOk P w K mg base CX0 13 f fd ["_law_script"] (SpN (fun g : (List Int) => [(fD K (dL dInt)) g]) (fun (g : List Int) (Q : Bool → Prop) => g.length ≤ 63 ∧ Q true) (fD K dB)) := by
  refine gw_met F sc_law (fun _ => rfl) (fun _ => inferInstance) fun cdv A outer s H E g hr => ?_
  obtain ⟨v__law_script, hgen⟩ : ∃ x, x = g := ⟨g, rfl⟩
  subst hgen
  refine ⟨_, (pss_cons (ps_for PassesOwn.never rfl (pi_range1 (by rfl) B.range (pa_cons (p_max2 rfl B (pa_cons pe_int (pa_cons (p_min2 rfl B (pa_cons pe_int (pa_cons (p_len B (pa_cons (pv 0) pa_nil)) pa_nil))) pa_nil))) pa_nil)) (pg_name (i := 1) sc_law.nd rfl (by first | exact Or.inl rfl | exact Or.inr rfl))
      (pss_cons (ps_set (i := 2) sc_law.nd rfl (by first | exact Or.inl rfl | exact Or.inr rfl) (p_call c_law_cask hr (by decide) (pa_cons (pv 0) (pa_cons (pv 1) pa_nil))))
      (pss_one (ps_for PassesOwn.never rfl (pi_range1 (by rfl) B.range (pa_cons pe_int pa_nil)) (pg_name (i := 3) sc_law.nd rfl (by first | exact Or.inl rfl | exact Or.inr rfl))
        (pss_one (ps_if (pt_not (pt_val (p_call c_law_right hr (by decide) (pa_cons (pv 2) pa_nil))))
          (pss_one (ps_ret pe_bl))
          pss_nil))))))
    (pss_one (ps_ret pe_bl))), _,
    (ts_for (S1 := Unit) (ρ1 := fun s1 => [some ((fD K (dL dInt)) v__law_script), none, none, none]) (κ1s := fun s1 => []) () (leV_some (leV_none (leV_none (leV_none leV_nil)))) (fun _ _ _ h => h) (ti_rangeN (tr_cb c_maxN (ta_cons (tr_nat (K := K) 1) (ta_one (tr_cb c_minN (ta_cons (tr_nat (K := K) 4) (ta_one (tr_cb c_lenDL (ta_one (tr_var (R := (fD K (dL dInt))) (a := v__law_script) rfl)))))))))) (tg_name (R := (fD K dN)) 1) (fun _ => rfl)
      (fun s1 x2 => (ts_set (R := (fCk 3)) 2 (tr_call (ta_cons (tr_var (R := (fD K (dL dInt))) (a := v__law_script) rfl) (ta_one (tr_var (R := (fD K dN)) (a := x2) rfl)))) rfl (fun v_law_cask_here_3 => (ts_one (ts_for (S1 := Unit) (ρ1 := fun s4 => [some ((fD K (dL dInt)) v__law_script), some ((fD K dN) x2), some ((fCk 3) v_law_cask_here_3), none]) (κ1s := fun s4 => []) () (leV_some (leV_some (leV_some (leV_none leV_nil)))) (fun _ _ _ h => h) (ti_rangeN (tr_nat (K := K) 6)) (tg_name (R := (fD K dN)) 3) (fun _ => rfl)
      (fun s4 x5 => (ts_one (ts_ifq (tt_not (tt_B (tr_call (ta_one (tr_var (R := (fCk 3)) (a := v_law_cask_here_3) rfl)))))
      (ts_retq (tr_bl (K := K)))
      (ts_nextq (ts_next () (leV_some (leV_some (leV_some (leV_none leV_nil)))) (fun _ _ _ h => h))))))
      (fun s4 => (ts_next () (leV_some (leV_none (leV_none (leV_none leV_nil)))) (fun _ _ _ h => h))))))))
      (fun s1 => (ts_ret (tr_bl (K := K))))), ?_⟩
  rintro Q ⟨vs0, F0, hv⟩ hs
  try delta pur
  try dsimp only at hs hv ⊢
  obtain ⟨h63, q⟩ := hs
  refine ⟨by omega, forW_fold (f := fun s _ => s) (fun x hx s P hP => ⟨h63, by decide, forW_fold (f := fun s _ => s) (fun y hy s P hP => ?_) ?_⟩) ?_⟩
  · rw [Bool.not_true, if_neg Bool.false_ne_true]; exact hP
  · have : ∀ (l : List Nat) (u : Unit), l.foldl (fun s _ => s) u = u := fun l u => rfl
    exact hP
  · exact q
end
end Wb

namespace Wb
open PySem PySem.Spec PyProof.Rows L2 SlX StX Rs Ma Tw
theorem law_binds {K : PySem.W.Frag} {f : Addr} {fd : FuncData} (F : Fun K "law" "law" s_law f fd) (s : Shared) (v : Value) : BindsTo s fd ⟨[v], []⟩ [("_law_script", v)] := by
  obtain ⟨oc, od, kV, doc, pm, an, cdv, ct, osl, rfl, lk, hcd⟩ := F.ex
  exact .of_eq rfl
theorem all_mk {P : Program} {w : World} {K : PySem.W.Frag} {h : Heap} {mg : Str → Option Value} {fa C_Web C_Pool : Addr} {t_MAX_SIZE t_GREATEST t_MAX_WEBS : Tok} (X : K.In h) (G : h.Ns mainGlobals mg) (hfa : mg "law" = some (.ref fa))
    (t_is_integer : TopFn K "is_integer" s_is_integer ["value"])
    (t_is_between : TopFn K "is_between" s_is_between ["value", "low", "high"])
    (t_require_number : TopFn K "require_number" s_require_number ["value", "low", "high"])
    (t_is_rising : TopFn K "is_rising" s_is_rising ["value", "low", "high"])
    (t_is_heard_row : TopFn K "is_heard_row" s_is_heard_row ["value", "house", "size"])
    (t_is_heard : TopFn K "is_heard" s_is_heard ["value"])
    (t_houses_from : TopFn K "houses_from" s_houses_from ["heard", "house"])
    (t_heard_by : TopFn K "heard_by" s_heard_by ["web", "house"])
    (t_require_house : TopFn K "require_house" s_require_house ["web", "house"])
    (t_is_like : TopFn K "is_like" s_is_like ["web", "other"])
    (t_require_like : TopFn K "require_like" s_require_like ["web", "other"])
    (t_silent_web : TopFn K "silent_web" s_silent_web ["size"])
    (t_is_numbering : TopFn K "is_numbering" s_is_numbering ["value", "size"])
    (t_are_webs : TopFn K "are_webs" s_are_webs ["value"])
    (t_require_index : TopFn K "require_index" s_require_index ["pool", "index"])
    (t__law_cask : TopFn K "_law_cask" s__law_cask ["_law_script", "_law_at"])
    (t__law_scoop : TopFn K "_law_scoop" s__law_scoop ["_law_cask_here", "_law_total"])
    (t__law_any_of : TopFn K "_law_any_of" s__law_any_of ["_law_cask_here", "_law_items"])
    (t__law_few_of : TopFn K "_law_few_of" s__law_few_of ["_law_cask_here", "_law_items", "_law_count"])
    (t__law_rows : TopFn K "_law_rows" s__law_rows ["_law_cask_here", "_law_size"])
    (t__law_pool_of : TopFn K "_law_pool_of" s__law_pool_of ["_law_rows_here"])
    (t__law_pool_rows : TopFn K "_law_pool_rows" s__law_pool_rows ["_law_cask_here", "_law_size", "_law_most"])
    (t__law_heralds : TopFn K "_law_heralds" s__law_heralds ["_law_web"])
    (t__law_behind : TopFn K "_law_behind" s__law_behind ["_law_pool", "_law_word"])
    (t__law_right : TopFn K "_law_right" s__law_right ["_law_cask_here"])
    (t_law : TopFn K "law" s_law ["_law_script"])
    (m_WebU_initU : MetFn K C_Web "__init__" "Web.__init__" s_Webu__initu_ ["self", "heard"])
    (m_Web_hears : MetFn K C_Web "hears" "Web.hears" s_Web_hears ["self", "house"])
    (m_Web_then : MetFn K C_Web "then" "Web.then" s_Web_then ["self", "other"])
    (m_Web_renumbered : MetFn K C_Web "renumbered" "Web.renumbered" s_Web_renumbered ["self", "numbers"])
    (m_PoolU_initU : MetFn K C_Pool "__init__" "Pool.__init__" s_Poolu__initu_ ["self", "webs"])
    (m_PoolU_iterU : MetFn K C_Pool "__iter__" "Pool.__iter__" s_Poolu__iteru_ ["self"])
    (m_PoolU_lenU : MetFn K C_Pool "__len__" "Pool.__len__" s_Poolu__lenu_ ["self"])
    (m_PoolU_getitemU : MetFn K C_Pool "__getitem__" "Pool.__getitem__" s_Poolu__getitemu_ ["self", "index"])
    (m_Pool_reordered : MetFn K C_Pool "reordered" "Pool.reordered" s_Pool_reordered ["self", "indices"])
    (m_Pool_renumbered : MetFn K C_Pool "renumbered" "Pool.renumbered" s_Pool_renumbered ["self", "numbers"])
    (p_Web_size : PrpFn K C_Web "size" "Web.size" s_Web_size)
    (p_Web_roots : PrpFn K C_Web "roots" "Web.roots" s_Web_roots)
    (p_Pool_roots : PrpFn K C_Pool "roots" "Pool.roots" s_Pool_roots)
    (p_Pool_always : PrpFn K C_Pool "always" "Pool.always" s_Pool_always)
    (p_Pool_size : PrpFn K C_Pool "size" "Pool.size" s_Pool_size)
    (sl_Web_own_heard : SlotAt K C_Web "own_heard" 0)
    (sl_Web_own_size : SlotAt K C_Web "own_size" 4)
    (sl_Web_own_reached : SlotAt K C_Web "own_reached" 2)
    (sl_Web_own_roots : SlotAt K C_Web "own_roots" 3)
    (sl_Web_own_pairs : SlotAt K C_Web "own_pairs" 1)
    (sl_Pool_own_webs : SlotAt K C_Pool "own_webs" 2)
    (sl_Pool_own_size : SlotAt K C_Pool "own_size" 1)
    (sl_Pool_own_places : SlotAt K C_Pool "own_places" 0)
    (z_len : PySem.W.nsIn K mainGlobals "len" = some none)
    (z_range : PySem.W.nsIn K mainGlobals "range" = some none)
    (z_list : PySem.W.nsIn K mainGlobals "list" = some none)
    (z_tuple : PySem.W.nsIn K mainGlobals "tuple" = some none)
    (z_set : PySem.W.nsIn K mainGlobals "set" = some none)
    (z_sorted : PySem.W.nsIn K mainGlobals "sorted" = some none)
    (z_all : PySem.W.nsIn K mainGlobals "all" = some none)
    (z_isinstance : PySem.W.nsIn K mainGlobals "isinstance" = some none)
    (z_int : PySem.W.nsIn K mainGlobals "int" = some none)
    (z_bool : PySem.W.nsIn K mainGlobals "bool" = some none)
    (z_enumerate : PySem.W.nsIn K mainGlobals "enumerate" = some none)
    (z_zip : PySem.W.nsIn K mainGlobals "zip" = some none)
    (z_min : PySem.W.nsIn K mainGlobals "min" = some none)
    (z_max : PySem.W.nsIn K mainGlobals "max" = some none)
    (z_abs : PySem.W.nsIn K mainGlobals "abs" = some none)
    (z_str : PySem.W.nsIn K mainGlobals "str" = some none)
    (z_repr : PySem.W.nsIn K mainGlobals "repr" = some none)
    (z_dict : PySem.W.nsIn K mainGlobals "dict" = some none)
    (z_iter : PySem.W.nsIn K mainGlobals "iter" = some none)
    (gi_MAX_SIZE : PySem.W.nsIn K mainGlobals "MAX_SIZE" = some (some (.int (5) t_MAX_SIZE)))
    (gi_GREATEST : PySem.W.nsIn K mainGlobals "GREATEST" = some (some (.int (10 ^ 60) t_GREATEST)))
    (gi_MAX_WEBS : PySem.W.nsIn K mainGlobals "MAX_WEBS" = some (some (.int (8) t_MAX_WEBS)))
    (a_Web : PySem.W.nsIn K mainGlobals "Web" = some (some (.ref C_Web)))
    (a_Pool : PySem.W.nsIn K mainGlobals "Pool" = some (some (.ref C_Pool)))
    (pg_Web : PySem.W.plainGet K C_Web Str.empty = true)
    (ic_Web : PySem.W.isClsIn K C_Web = true)
    (po_Web : PySem.W.plainOver K C_Web = true)
    (sa_Web : PySem.W.findIn K (.ref C_Web) "__setattr__" = some (some (.builtin "object.__setattr__")))
    (ca_Web : PySem.W.findIn K (.ref C_Web) "__class__" = some (some (.builtin "object.__class__")))
    (cm_Web : PySem.W.mroIn K C_Web (.type "object") = some true)
    (nf_Web : PySem.W.notFirst K C_Web (.ref C_Web) = true)
    (ne_Web : PySem.W.findIn K (.ref C_Web) "__ne__" = some (some (.builtin "object.__ne__")))
    (mk_Web : PySem.W.makesIn K C_Web = true)
    (kc_Web : PySem.W.keepIn K (.ref C_Web) = true)
    (pg_Pool : PySem.W.plainGet K C_Pool Str.empty = true)
    (ic_Pool : PySem.W.isClsIn K C_Pool = true)
    (po_Pool : PySem.W.plainOver K C_Pool = true)
    (sa_Pool : PySem.W.findIn K (.ref C_Pool) "__setattr__" = some (some (.builtin "object.__setattr__")))
    (ca_Pool : PySem.W.findIn K (.ref C_Pool) "__class__" = some (some (.builtin "object.__class__")))
    (cm_Pool : PySem.W.mroIn K C_Pool (.type "object") = some true)
    (nf_Pool : PySem.W.notFirst K C_Pool (.ref C_Pool) = true)
    (mk_Pool : PySem.W.makesIn K C_Pool = true)
    (kc_Pool : PySem.W.keepIn K (.ref C_Pool) = true)
    (cn : PySem.W.specialIn K (.builtin "object.__class__") "__get__" = some (some (.builtin "getset_descriptor.__get__")))
    (ct : PySem.W.takesIn K (.builtin "object.__class__") = some true)
    : ∃ fd : FuncData, (∀ (s : Shared) (v : Value), BindsTo s fd ⟨[v], []⟩ [("_law_script", v)]) ∧ ∀ base : Heap, K.In base → base.Ns mainGlobals mg → FnOk P w K mg base CX0 13 fa fd ["_law_script"] (spLaw K) := by
  obtain ⟨f_is_integer, d_is_integer, a_is_integer, F_is_integer, b_is_integer⟩ := t_is_integer
  obtain ⟨f_is_between, d_is_between, a_is_between, F_is_between, b_is_between⟩ := t_is_between
  obtain ⟨f_require_number, d_require_number, a_require_number, F_require_number, b_require_number⟩ := t_require_number
  obtain ⟨f_is_rising, d_is_rising, a_is_rising, F_is_rising, b_is_rising⟩ := t_is_rising
  obtain ⟨f_is_heard_row, d_is_heard_row, a_is_heard_row, F_is_heard_row, b_is_heard_row⟩ := t_is_heard_row
  obtain ⟨f_is_heard, d_is_heard, a_is_heard, F_is_heard, b_is_heard⟩ := t_is_heard
  obtain ⟨f_houses_from, d_houses_from, a_houses_from, F_houses_from, b_houses_from⟩ := t_houses_from
  obtain ⟨f_heard_by, d_heard_by, a_heard_by, F_heard_by, b_heard_by⟩ := t_heard_by
  obtain ⟨f_require_house, d_require_house, a_require_house, F_require_house, b_require_house⟩ := t_require_house
  obtain ⟨f_is_like, d_is_like, a_is_like, F_is_like, b_is_like⟩ := t_is_like
  obtain ⟨f_require_like, d_require_like, a_require_like, F_require_like, b_require_like⟩ := t_require_like
  obtain ⟨f_silent_web, d_silent_web, a_silent_web, F_silent_web, b_silent_web⟩ := t_silent_web
  obtain ⟨f_is_numbering, d_is_numbering, a_is_numbering, F_is_numbering, b_is_numbering⟩ := t_is_numbering
  obtain ⟨f_are_webs, d_are_webs, a_are_webs, F_are_webs, b_are_webs⟩ := t_are_webs
  obtain ⟨f_require_index, d_require_index, a_require_index, F_require_index, b_require_index⟩ := t_require_index
  obtain ⟨f__law_cask, d__law_cask, a__law_cask, F__law_cask, b__law_cask⟩ := t__law_cask
  obtain ⟨f__law_scoop, d__law_scoop, a__law_scoop, F__law_scoop, b__law_scoop⟩ := t__law_scoop
  obtain ⟨f__law_any_of, d__law_any_of, a__law_any_of, F__law_any_of, b__law_any_of⟩ := t__law_any_of
  obtain ⟨f__law_few_of, d__law_few_of, a__law_few_of, F__law_few_of, b__law_few_of⟩ := t__law_few_of
  obtain ⟨f__law_rows, d__law_rows, a__law_rows, F__law_rows, b__law_rows⟩ := t__law_rows
  obtain ⟨f__law_pool_of, d__law_pool_of, a__law_pool_of, F__law_pool_of, b__law_pool_of⟩ := t__law_pool_of
  obtain ⟨f__law_pool_rows, d__law_pool_rows, a__law_pool_rows, F__law_pool_rows, b__law_pool_rows⟩ := t__law_pool_rows
  obtain ⟨f__law_heralds, d__law_heralds, a__law_heralds, F__law_heralds, b__law_heralds⟩ := t__law_heralds
  obtain ⟨f__law_behind, d__law_behind, a__law_behind, F__law_behind, b__law_behind⟩ := t__law_behind
  obtain ⟨f__law_right, d__law_right, a__law_right, F__law_right, b__law_right⟩ := t__law_right
  obtain ⟨f_law, d_law, a_law, F_law, b_law⟩ := t_law
  obtain ⟨f_WebU_initU, d_WebU_initU, a_WebU_initU, i_WebU_initU, F_WebU_initU, b_WebU_initU⟩ := m_WebU_initU
  obtain ⟨f_Web_hears, d_Web_hears, a_Web_hears, i_Web_hears, F_Web_hears, b_Web_hears⟩ := m_Web_hears
  obtain ⟨f_Web_then, d_Web_then, a_Web_then, i_Web_then, F_Web_then, b_Web_then⟩ := m_Web_then
  obtain ⟨f_Web_renumbered, d_Web_renumbered, a_Web_renumbered, i_Web_renumbered, F_Web_renumbered, b_Web_renumbered⟩ := m_Web_renumbered
  obtain ⟨f_PoolU_initU, d_PoolU_initU, a_PoolU_initU, i_PoolU_initU, F_PoolU_initU, b_PoolU_initU⟩ := m_PoolU_initU
  obtain ⟨f_PoolU_iterU, d_PoolU_iterU, a_PoolU_iterU, i_PoolU_iterU, F_PoolU_iterU, b_PoolU_iterU⟩ := m_PoolU_iterU
  obtain ⟨f_PoolU_lenU, d_PoolU_lenU, a_PoolU_lenU, i_PoolU_lenU, F_PoolU_lenU, b_PoolU_lenU⟩ := m_PoolU_lenU
  obtain ⟨f_PoolU_getitemU, d_PoolU_getitemU, a_PoolU_getitemU, i_PoolU_getitemU, F_PoolU_getitemU, b_PoolU_getitemU⟩ := m_PoolU_getitemU
  obtain ⟨f_Pool_reordered, d_Pool_reordered, a_Pool_reordered, i_Pool_reordered, F_Pool_reordered, b_Pool_reordered⟩ := m_Pool_reordered
  obtain ⟨f_Pool_renumbered, d_Pool_renumbered, a_Pool_renumbered, i_Pool_renumbered, F_Pool_renumbered, b_Pool_renumbered⟩ := m_Pool_renumbered
  obtain ⟨q_Web_size, f_Web_size, d_Web_size, a_Web_size, s_Web_size, t_Web_size, r_Web_size, F_Web_size, b_Web_size⟩ := p_Web_size
  obtain ⟨q_Web_roots, f_Web_roots, d_Web_roots, a_Web_roots, s_Web_roots, t_Web_roots, r_Web_roots, F_Web_roots, b_Web_roots⟩ := p_Web_roots
  obtain ⟨q_Pool_roots, f_Pool_roots, d_Pool_roots, a_Pool_roots, s_Pool_roots, t_Pool_roots, r_Pool_roots, F_Pool_roots, b_Pool_roots⟩ := p_Pool_roots
  obtain ⟨q_Pool_always, f_Pool_always, d_Pool_always, a_Pool_always, s_Pool_always, t_Pool_always, r_Pool_always, F_Pool_always, b_Pool_always⟩ := p_Pool_always
  obtain ⟨q_Pool_size, f_Pool_size, d_Pool_size, a_Pool_size, s_Pool_size, t_Pool_size, r_Pool_size, F_Pool_size, b_Pool_size⟩ := p_Pool_size
  have e := hfa.symm.trans (PySem.W.mg_of X G a_law)
  cases e
  have sc_Web : SCls K C_Web := ⟨pg_Web, ic_Web, po_Web, sa_Web⟩
  have W_web : WebK K C_Web := ⟨sc_Web, ⟨ca_Web, cn, ct, cm_Web⟩, kit_self, ⟨sc_Web, sl_Web_own_heard⟩, ⟨sc_Web, sl_Web_own_size⟩, ⟨sc_Web, sl_Web_own_reached⟩, ⟨sc_Web, sl_Web_own_roots⟩, ⟨sc_Web, sl_Web_own_pairs⟩⟩
  have m_Web : mg "Web" = some (.ref C_Web) := PySem.W.mg_of X G a_Web
  have nf_web := nf_Web
  have sc_Pool : SCls K C_Pool := ⟨pg_Pool, ic_Pool, po_Pool, sa_Pool⟩
  have W_pool : PoolK K C_Pool := ⟨sc_Pool, ⟨ca_Pool, cn, ct, cm_Pool⟩, kit_self, ⟨sc_Pool, sl_Pool_own_webs⟩, ⟨sc_Pool, sl_Pool_own_size⟩, ⟨sc_Pool, sl_Pool_own_places⟩⟩
  have m_Pool : mg "Pool" = some (.ref C_Pool) := PySem.W.mg_of X G a_Pool
  have nf_pool := nf_Pool
  have B : Bf mg := ⟨PySem.W.mg_none_of X G z_len, PySem.W.mg_none_of X G z_range, PySem.W.mg_none_of X G z_list, PySem.W.mg_none_of X G z_tuple, PySem.W.mg_none_of X G z_set, PySem.W.mg_none_of X G z_sorted, PySem.W.mg_none_of X G z_all, PySem.W.mg_none_of X G z_isinstance, PySem.W.mg_none_of X G z_int, PySem.W.mg_none_of X G z_bool, PySem.W.mg_none_of X G z_enumerate, PySem.W.mg_none_of X G z_zip, PySem.W.mg_none_of X G z_min, PySem.W.mg_none_of X G z_max, PySem.W.mg_none_of X G z_abs, PySem.W.mg_none_of X G z_str, PySem.W.mg_none_of X G z_repr, PySem.W.mg_none_of X G z_dict⟩
  have Bs : mg "str" = none := PySem.W.mg_none_of X G z_str
  have Bi : mg "iter" = none := PySem.W.mg_none_of X G z_iter
  have g_MAX_SIZE : GInt mg "MAX_SIZE" (5) := ⟨_, PySem.W.mg_of X G gi_MAX_SIZE⟩
  have g_GREATEST : GInt mg "GREATEST" (10 ^ 60) := ⟨_, PySem.W.mg_of X G gi_GREATEST⟩
  have g_MAX_WEBS : GInt mg "MAX_WEBS" (8) := ⟨_, PySem.W.mg_of X G gi_MAX_WEBS⟩
  refine ⟨d_law, ?_, fun base _ _ => ?_⟩
  · exact law_binds F_law
  have o_is_integer : Gf P w K mg base 1 "is_integer" _ := ok_is_integer B g_GREATEST F_is_integer (PySem.W.mg_of X G a_is_integer) b_is_integer
  have o_is_between : Gf P w K mg base 2 "is_between" _ := ok_is_between o_is_integer F_is_between (PySem.W.mg_of X G a_is_between) b_is_between
  have o_require_number : Gf P w K mg base 3 "require_number" _ := ok_require_number o_is_between F_require_number (PySem.W.mg_of X G a_require_number) b_require_number
  have c_require_number : Gf P w K mg base 3 "require_number" (SpN (fun g : PyData × Int × Int => [(fD K dA) g.1, (fD K dInt) g.2.1, (fD K dInt) g.2.2]) (fun (g : PyData × Int × Int) (Q : Unit → Prop) => isBt g.1 g.2.1 g.2.2 = true ∧ Q ()) (fD K dU)) := Gf.toN (f := fun _ => ()) o_require_number
  have o_is_rising : Gf P w K mg base 3 "is_rising" _ := ok_is_rising B o_is_between F_is_rising (PySem.W.mg_of X G a_is_rising) b_is_rising
  have o_is_heard_row : Gf P w K mg base 4 "is_heard_row" _ := ok_is_heard_row o_is_rising F_is_heard_row (PySem.W.mg_of X G a_is_heard_row) b_is_heard_row
  have o_is_heard : Gf P w K mg base 5 "is_heard" _ := ok_is_heard B g_MAX_SIZE o_is_heard_row F_is_heard (PySem.W.mg_of X G a_is_heard) b_is_heard
  have o_houses_from : Gf P w K mg base 1 "houses_from" _ := ok_houses_from B F_houses_from (PySem.W.mg_of X G a_houses_from) b_houses_from
  have c_Web : MkF P w K mg base 6 "Web" C_Web (spWebInit C_Web K) := ⟨f_WebU_initU, d_WebU_initU, _, ⟨mk_Web, a_WebU_initU, i_WebU_initU, kc_Web⟩, ok_web_init B W_web o_is_heard o_houses_from F_WebU_initU, m_Web, b_WebU_initU⟩
  have o_heard_by : Gf P w K mg base 1 "heard_by" _ := ok_heard_by B W_web F_heard_by (PySem.W.mg_of X G a_heard_by) b_heard_by
  have o_require_house : Gf P w K mg base 4 "require_house" _ := ok_require_house W_web o_require_number F_require_house (PySem.W.mg_of X G a_require_house) b_require_house
  have o_is_like : Gf P w K mg base 1 "is_like" _ := ok_is_like B W_web m_Web F_is_like (PySem.W.mg_of X G a_is_like) b_is_like
  have o_require_like : Gf P w K mg base 2 "require_like" _ := ok_require_like o_is_like F_require_like (PySem.W.mg_of X G a_require_like) b_require_like
  have o_silent_web : Gf P w K mg base 8 "silent_web" _ := ok_silent_web g_MAX_SIZE c_Web o_require_number F_silent_web (PySem.W.mg_of X G a_silent_web) b_silent_web
  have c_silent_web : Gf P w K mg base 8 "silent_web" (SpN (fun g : Nat => [(fD K dN) g]) (fun (g : Nat) (Q : Rows → Prop) => (1 ≤ g ∧ g ≤ 5) ∧ Q (silentR g)) (webP C_Web K)) := Gf.toN o_silent_web
  have o_is_numbering : Gf P w K mg base 3 "is_numbering" _ := ok_is_numbering B o_is_between F_is_numbering (PySem.W.mg_of X G a_is_numbering) b_is_numbering
  have c_is_numbering : Gf P w K mg base 3 "is_numbering" (SpN (fun g : (List Nat) × Nat => [(fD K (dT dN)) g.1, (fD K dN) g.2]) (fun (g : List Nat × Nat) (Q : Bool → Prop) => IsNum g.1 g.2 ∧ Q true) (fD K dB)) := Gf.toN o_is_numbering
  have o_web_size : PrpS P w K mg base 1 C_Web "size" _ := ⟨q_Web_size, f_Web_size, sc_Web, a_Web_size, s_Web_size, t_Web_size, r_Web_size, fnr_mk (ok_size W_web F_Web_size) b_Web_size⟩
  have c_web_size : PrpS P w K mg base 1 C_Web "size" (SpN (fun g : Rows => [(webP C_Web K) g]) (fun (g : Rows) (Q : Nat → Prop) => True ∧ Q g.length) (fD K dN)) := prp_toN o_web_size
  have o_web_roots : PrpS P w K mg base 1 C_Web "roots" _ := ⟨q_Web_roots, f_Web_roots, sc_Web, a_Web_roots, s_Web_roots, t_Web_roots, r_Web_roots, fnr_mk (ok_roots W_web F_Web_roots) b_Web_roots⟩
  have c_web_roots : PrpS P w K mg base 1 C_Web "roots" (SpN (fun g : Rows => [(webP C_Web K) g]) (fun (g : Rows) (Q : List Nat → Prop) => True ∧ Q (rootsN g)) (fD K (dT dN))) := prp_toN o_web_roots
  have o_web_hears : MetS P w K mg base 5 C_Web "hears" _ := ⟨f_Web_hears, sc_Web, ⟨a_Web_hears, i_Web_hears, F_Web_hears.kp⟩, fnr_mk (ok_hears o_require_house o_heard_by F_Web_hears) b_Web_hears⟩
  have c_web_hears : MetS P w K mg base 5 C_Web "hears" (SpN (fun g : Rows × Nat => [(webP C_Web K) g.1, (fD K dN) g.2]) (fun (g : Rows × Nat) (Q : List Nat → Prop) => g.2 < g.1.length ∧ Q (hbL g.1 g.2)) (fD K (dT dN))) := MetS.toN o_web_hears
  have o_web_then : MetS P w K mg base 8 C_Web "then" _ := ⟨f_Web_then, sc_Web, ⟨a_Web_then, i_Web_then, F_Web_then.kp⟩, fnr_mk (ok_then B W_web c_Web o_require_like o_heard_by F_Web_then) b_Web_then⟩
  have c_web_then : MetS P w K mg base 8 C_Web "then" (SpN (fun g : Rows × Rows => [(webP C_Web K) g.1, (webP C_Web K) g.2]) (fun (g : Rows × Rows) (Q : Rows → Prop) => g.2.length = g.1.length ∧ Q (thenR g.1 g.2)) (webP C_Web K)) := MetS.toN o_web_then
  have c_web_renumbered : MetS P w K mg base 8 C_Web "renumbered" (SpN (fun g : Rows × (List Nat) => [(webP C_Web K) g.1, (fD K (dT dN)) g.2]) (fun (g : Rows × List Nat) (Q : Rows → Prop) => IsNum g.2 g.1.length ∧ Q (renumR g.1 g.2)) (webP C_Web K)) := ⟨f_Web_renumbered, sc_Web, ⟨a_Web_renumbered, i_Web_renumbered, F_Web_renumbered.kp⟩, fnr_mk (ok_Web_renumbered B c_is_numbering W_web c_Web F_Web_renumbered) b_Web_renumbered⟩
  have c_are_webs : Gf P w K mg base 1 "are_webs" (SpN (fun g : (List Rows) => [(fTp K (webP C_Web K)) g]) (fun (g : List Rows) (Q : Bool → Prop) => POk g ∧ Q true) (fD K dB)) := ok_are_webs B g_MAX_WEBS m_Web W_web F_are_webs (PySem.W.mg_of X G a_are_webs) b_are_webs
  have c_Pool : MkF P w K mg base 9 "Pool" C_Pool (spPoolInit C_Pool C_Web K P w) := ⟨f_PoolU_initU, d_PoolU_initU, _, ⟨mk_Pool, a_PoolU_initU, i_PoolU_initU, kc_Pool⟩, ok_pool_init B W_web W_pool c_are_webs F_PoolU_initU, m_Pool, b_PoolU_initU⟩
  have c_pool_iter : ItS P w K mg base 1 C_Pool 2 := ok_pool_iter Bi W_pool a_PoolU_iterU i_PoolU_iterU F_PoolU_iterU b_PoolU_iterU
  have c_require_index : Gf P w K mg base 4 "require_index" (SpN (fun g : (List Rows) × Nat => [(poolP C_Pool C_Web K P w) g.1, (fD K dN) g.2]) (fun (g : List Rows × Nat) (Q : Unit → Prop) => g.2 < g.1.length ∧ Q ()) (fD K dU)) := ok_require_index B c_require_number W_pool F_require_index (PySem.W.mg_of X G a_require_index) b_require_index
  have c_pool_roots : PrpS P w K mg base 1 C_Pool "roots" (SpN (fun g : (List Rows) => [(poolP C_Pool C_Web K P w) g]) (fun (g : List Rows) (Q : Rows → Prop) => Q (g.map rootsN)) (fD K (dT (dT dN)))) := ⟨q_Pool_roots, f_Pool_roots, sc_Pool, a_Pool_roots, s_Pool_roots, t_Pool_roots, r_Pool_roots, fnr_mk (ok_Pool_roots B W_pool W_web F_Pool_roots) b_Pool_roots⟩
  have c_pool_always : PrpS P w K mg base 1 C_Pool "always" (SpN (fun g : (List Rows) => [(poolP C_Pool C_Web K P w) g]) (fun (g : List Rows) (Q : List Nat → Prop) => Q (alwaysN g)) (fD K (dT dN))) := ⟨q_Pool_always, f_Pool_always, sc_Pool, a_Pool_always, s_Pool_always, t_Pool_always, r_Pool_always, fnr_mk (ok_Pool_always B W_pool W_web F_Pool_always) b_Pool_always⟩
  have c_pool_size : PrpS P w K mg base 1 C_Pool "size" (SpN (fun g : (List Rows) => [(poolP C_Pool C_Web K P w) g]) (fun (g : List Rows) (Q : Nat → Prop) => Q (psize g)) (fD K dN)) := ⟨q_Pool_size, f_Pool_size, sc_Pool, a_Pool_size, s_Pool_size, t_Pool_size, r_Pool_size, fnr_mk (ok_Pool_size B W_pool F_Pool_size) b_Pool_size⟩
  have c_pool_len : OwnS P w K mg base "__len__" 1 C_Pool (SpN (fun g : (List Rows) => [(poolP C_Pool C_Web K P w) g]) (fun (g : List Rows) (Q : Nat → Prop) => Q g.length) (fD K dN)) := ⟨f_PoolU_lenU, a_PoolU_lenU, i_PoolU_lenU, fnr_mk (ok_Poolu__lenu_ B W_pool F_PoolU_lenU) b_PoolU_lenU⟩
  have c_pool_get : GetS P w K mg base 5 C_Pool (SpN (fun g : (List Rows) × Nat => [(poolP C_Pool C_Web K P w) g.1, (fD K dN) g.2]) (fun (g : List Rows × Nat) (Q : Rows → Prop) => ∃ rs, g.1[g.2]? = some rs ∧ Q rs) (webP C_Web K)) := ⟨f_PoolU_getitemU, a_PoolU_getitemU, fn_in F_PoolU_getitemU, i_PoolU_getitemU, fnr_mk (ok_Poolu__getitemu_ B c_require_index W_pool F_PoolU_getitemU) b_PoolU_getitemU⟩
  have c_pool_reordered : MetS P w K mg base 11 C_Pool "reordered" (SpN (fun g : (List Rows) × (List Nat) => [(poolP C_Pool C_Web K P w) g.1, (fD K (dT dN)) g.2]) (fun (g : List Rows × List Nat) (Q : List Rows → Prop) => IsNum g.2 g.1.length ∧ Q (g.2.map fun i => g.1.getD i [])) (poolP C_Pool C_Web K P w)) := ⟨f_Pool_reordered, sc_Pool, ⟨a_Pool_reordered, i_Pool_reordered, F_Pool_reordered.kp⟩, fnr_mk (ok_Pool_reordered B c_is_numbering W_pool c_Pool F_Pool_reordered) b_Pool_reordered⟩
  have c_pool_renumbered : MetS P w K mg base 11 C_Pool "renumbered" (SpN (fun g : (List Rows) × (List Nat) => [(poolP C_Pool C_Web K P w) g.1, (fD K (dT dN)) g.2]) (fun (g : List Rows × List Nat) (Q : List Rows → Prop) => IsNum g.2 (psize g.1) ∧ Q (g.1.map fun rs => renumR rs g.2)) (poolP C_Pool C_Web K P w)) := ⟨f_Pool_renumbered, sc_Pool, ⟨a_Pool_renumbered, i_Pool_renumbered, F_Pool_renumbered.kp⟩, fnr_mk (ok_Pool_renumbered B c_is_numbering W_pool c_Pool c_web_renumbered F_Pool_renumbered) b_Pool_renumbered⟩
  have o_law_cask : Gf P w K mg base 1 "_law_cask" _ := ok_cask B F__law_cask (PySem.W.mg_of X G a__law_cask) b__law_cask
  have c_law_cask : Gf P w K mg base 1 "_law_cask" (SpN (fun g : (List Int) × Nat => [(fD K (dL dInt)) g.1, (fD K dN) g.2]) (fun (g : List Int × Nat) (Q : Unit → Prop) => g.1.length ≤ 63 ∧ Q ()) (fCk 3)) := Gf.toN o_law_cask
  have o_law_scoop : Gf P w K mg base 1 "_law_scoop" _ := ok_scoop B F__law_scoop (PySem.W.mg_of X G a__law_scoop) b__law_scoop
  have c_law_scoop : Gf P w K mg base 1 "_law_scoop" (SpN (fun g : Unit × Nat => [(fCk 3) g.1, (fD K dN) g.2]) (fun (g : Unit × Nat) (Q : Nat → Prop) => (1 ≤ g.2 ∧ g.2 ≤ 1000) ∧ ∀ n, n < g.2 → Q n) (fD K dN)) := scoop_toN o_law_scoop
  have c_law_any_of : Gf P w K mg base 2 "_law_any_of" (SpN (fun g : Unit × (List Nat) => [(fCk 3) g.1, (fLn (fD K dN)) g.2]) spAny (fD K dN)) := ok__law_any_of B c_law_scoop F__law_any_of (PySem.W.mg_of X G a__law_any_of) b__law_any_of
  have c_law_any_of_1 : Gf P w K mg base 2 "_law_any_of" (SpN (fun g : Unit × (List (List (List Nat))) => [(fCk 3) g.1, (fLn (fD K (dT (dT dN)))) g.2]) spAny (fD K (dT (dT dN)))) := ok__law_any_of B c_law_scoop F__law_any_of (PySem.W.mg_of X G a__law_any_of) b__law_any_of
  have c_law_few_of : Gf P w K mg base 2 "_law_few_of" (SpN (fun g : Unit × (List Nat) × Nat => [(fCk 3) g.1, (fLn (fD K dN)) g.2.1, (fD K dN) g.2.2]) spFew (fLn (fD K dN))) := ok__law_few_of B c_law_scoop F__law_few_of (PySem.W.mg_of X G a__law_few_of) b__law_few_of
  have c_law_rows : Gf P w K mg base 3 "_law_rows" (SpN (fun g : Unit × Nat => [(fCk 3) g.1, (fD K dN) g.2]) (fun (g : Unit × Nat) (Q : Rows → Prop) => (1 ≤ g.2 ∧ g.2 ≤ 5) ∧ ∀ rs : Rows, Ok rs → rs.length = g.2 → Q rs) (fD K (dT (dT dN)))) := ok__law_rows B c_law_scoop c_law_any_of c_law_few_of F__law_rows (PySem.W.mg_of X G a__law_rows) b__law_rows
  have c_law_pool_of : Gf P w K mg base 11 "_law_pool_of" (SpN (fun g : (List (List (List Nat))) => [(fLn (fD K (dT (dT dN)))) g]) (fun (g : List Rows) (Q : List Rows → Prop) => POk g ∧ Q g) (poolP C_Pool C_Web K P w)) := ok__law_pool_of B c_Pool c_Web F__law_pool_of (PySem.W.mg_of X G a__law_pool_of) b__law_pool_of
  have c_law_pool_rows : Gf P w K mg base 4 "_law_pool_rows" (SpN (fun g : Unit × Nat × Nat => [(fCk 3) g.1, (fD K dN) g.2.1, (fD K dN) g.2.2]) (fun (g : Unit × Nat × Nat) (Q : List Rows → Prop) => ((1 ≤ g.2.1 ∧ g.2.1 ≤ 5) ∧ 1 ≤ g.2.2 ∧ g.2.2 ≤ 8) ∧ ∀ rss : List Rows, POk rss → psize rss = g.2.1 → Q rss) (fLn (fD K (dT (dT dN))))) := ok__law_pool_rows B c_law_scoop c_law_rows c_law_any_of_1 F__law_pool_rows (PySem.W.mg_of X G a__law_pool_rows) b__law_pool_rows
  have c_law_heralds : Gf P w K mg base 6 "_law_heralds" (SpN (fun g : Rows => [(webP C_Web K) g]) (fun (g : Rows) (Q : List Nat → Prop) => Q (heraldsL g)) (fLn (fD K dN))) := ok__law_heralds B c_web_size c_web_hears F__law_heralds (PySem.W.mg_of X G a__law_heralds) b__law_heralds
  have c_law_behind : Gf P w K mg base 9 "_law_behind" (SpN (fun g : (List Rows) × (List Nat) => [(poolP C_Pool C_Web K P w) g.1, (fLn (fD K dN)) g.2]) (fun (g : List Rows × List Nat) (Q : Rows → Prop) => ((∀ i ∈ g.2, i < g.1.length) ∧ g.2.length ≤ 1000) ∧ Q (wholeR (g.2.map fun i => g.1.getD i []) (psize g.1))) (webP C_Web K)) := ok__law_behind B c_silent_web c_pool_size c_web_then c_pool_get F__law_behind (PySem.W.mg_of X G a__law_behind) b__law_behind
  have c_law_right : Gf P w K mg base 12 "_law_right" (SpN (fun g : Unit => [(fCk 3) g]) (fun (g : Unit) (Q : Bool → Prop) => Q true) (fD K dB)) := ok__law_right B c_law_scoop c_law_pool_of c_law_pool_rows c_pool_len c_pool_always c_law_heralds c_law_behind c_pool_roots c_law_few_of c_pool_reordered c_pool_iter c_web_roots c_pool_renumbered F__law_right (PySem.W.mg_of X G a__law_right) b__law_right
  exact law_fn (ok_law B c_law_cask c_law_right F_law)
end Wb

open PySem PySem.W PyProof.Rows
set_option maxRecDepth 100000 in
set_option maxHeartbeats 0 in
theorem PySem.Challenge.cw_rootshared_k07_whole_roots_of_pools_holds : PySem.Challenge.rw_rootshared_k07_whole_roots_of_pools.Holds := by
  w_on; o_law; k_head; (case hw => w_witness2)
  k_fill
  refine Tw.walk (l := PySem.Challenge.rw_rootshared_k07_whole_roots_of_pools) (k := 13) ⟨rfl, by decide, by decide⟩ rfl rfl (fun w h Y => PySem.W.kIn_of Y) ?F
  case F =>
    intro w mg fa h KX G hmg
    refine' Wb.all_mk KX G hmg ?t_is_integer ?t_is_between ?t_require_number ?t_is_rising ?t_is_heard_row ?t_is_heard ?t_houses_from ?t_heard_by ?t_require_house ?t_is_like ?t_require_like ?t_silent_web ?t_is_numbering ?t_are_webs ?t_require_index ?t__law_cask ?t__law_scoop ?t__law_any_of ?t__law_few_of ?t__law_rows ?t__law_pool_of ?t__law_pool_rows ?t__law_heralds ?t__law_behind ?t__law_right ?t_law ?m_WebU_initU ?m_Web_hears ?m_Web_then ?m_Web_renumbered ?m_PoolU_initU ?m_PoolU_iterU ?m_PoolU_lenU ?m_PoolU_getitemU ?m_Pool_reordered ?m_Pool_renumbered ?p_Web_size ?p_Web_roots ?p_Pool_roots ?p_Pool_always ?p_Pool_size ?sl_Web_own_heard ?sl_Web_own_size ?sl_Web_own_reached ?sl_Web_own_roots ?sl_Web_own_pairs ?sl_Pool_own_webs ?sl_Pool_own_size ?sl_Pool_own_places ?z_len ?z_range ?z_list ?z_tuple ?z_set ?z_sorted ?z_all ?z_isinstance ?z_int ?z_bool ?z_enumerate ?z_zip ?z_min ?z_max ?z_abs ?z_str ?z_repr ?z_dict ?z_iter ?gi_MAX_SIZE ?gi_GREATEST ?gi_MAX_WEBS ?a_Web ?a_Pool ?pg_Web ?ic_Web ?po_Web ?sa_Web ?ca_Web ?cm_Web ?nf_Web ?ne_Web ?mk_Web ?kc_Web ?pg_Pool ?ic_Pool ?po_Pool ?sa_Pool ?ca_Pool ?cm_Pool ?nf_Pool ?mk_Pool ?kc_Pool ?cn ?ct
    (case a_Web => k_is)
    (case a_Pool => k_is)
    (case t_is_integer => (refine' Tw.top_fn ?a ?l ?c ?k ?b; (case a => k_is); (case l => k_is); (case c => k_is); (case k => k_is); (case b => exact fun _ _ _ _ _ _ us hl => match us, hl with | [_], _ => rfl)))
    (case t_is_between => (refine' Tw.top_fn ?a ?l ?c ?k ?b; (case a => k_is); (case l => k_is); (case c => k_is); (case k => k_is); (case b => exact fun _ _ _ _ _ _ us hl => match us, hl with | [_, _, _], _ => rfl)))
    (case t_require_number => (refine' Tw.top_fn ?a ?l ?c ?k ?b; (case a => k_is); (case l => k_is); (case c => k_is); (case k => k_is); (case b => exact fun _ _ _ _ _ _ us hl => match us, hl with | [_, _, _], _ => rfl)))
    (case t_is_rising => (refine' Tw.top_fn ?a ?l ?c ?k ?b; (case a => k_is); (case l => k_is); (case c => k_is); (case k => k_is); (case b => exact fun _ _ _ _ _ _ us hl => match us, hl with | [_, _, _], _ => rfl)))
    (case t_is_heard_row => (refine' Tw.top_fn ?a ?l ?c ?k ?b; (case a => k_is); (case l => k_is); (case c => k_is); (case k => k_is); (case b => exact fun _ _ _ _ _ _ us hl => match us, hl with | [_, _, _], _ => rfl)))
    (case t_is_heard => (refine' Tw.top_fn ?a ?l ?c ?k ?b; (case a => k_is); (case l => k_is); (case c => k_is); (case k => k_is); (case b => exact fun _ _ _ _ _ _ us hl => match us, hl with | [_], _ => rfl)))
    (case t_houses_from => (refine' Tw.top_fn ?a ?l ?c ?k ?b; (case a => k_is); (case l => k_is); (case c => k_is); (case k => k_is); (case b => exact fun _ _ _ _ _ _ us hl => match us, hl with | [_, _], _ => rfl)))
    (case t_heard_by => (refine' Tw.top_fn ?a ?l ?c ?k ?b; (case a => k_is); (case l => k_is); (case c => k_is); (case k => k_is); (case b => exact fun _ _ _ _ _ _ us hl => match us, hl with | [_, _], _ => rfl)))
    (case t_require_house => (refine' Tw.top_fn ?a ?l ?c ?k ?b; (case a => k_is); (case l => k_is); (case c => k_is); (case k => k_is); (case b => exact fun _ _ _ _ _ _ us hl => match us, hl with | [_, _], _ => rfl)))
    (case t_is_like => (refine' Tw.top_fn ?a ?l ?c ?k ?b; (case a => k_is); (case l => k_is); (case c => k_is); (case k => k_is); (case b => exact fun _ _ _ _ _ _ us hl => match us, hl with | [_, _], _ => rfl)))
    (case t_require_like => (refine' Tw.top_fn ?a ?l ?c ?k ?b; (case a => k_is); (case l => k_is); (case c => k_is); (case k => k_is); (case b => exact fun _ _ _ _ _ _ us hl => match us, hl with | [_, _], _ => rfl)))
    (case t_silent_web => (refine' Tw.top_fn ?a ?l ?c ?k ?b; (case a => k_is); (case l => k_is); (case c => k_is); (case k => k_is); (case b => exact fun _ _ _ _ _ _ us hl => match us, hl with | [_], _ => rfl)))
    (case t_is_numbering => (refine' Tw.top_fn ?a ?l ?c ?k ?b; (case a => k_is); (case l => k_is); (case c => k_is); (case k => k_is); (case b => exact fun _ _ _ _ _ _ us hl => match us, hl with | [_, _], _ => rfl)))
    (case t_are_webs => (refine' Tw.top_fn ?a ?l ?c ?k ?b; (case a => k_is); (case l => k_is); (case c => k_is); (case k => k_is); (case b => exact fun _ _ _ _ _ _ us hl => match us, hl with | [_], _ => rfl)))
    (case t_require_index => (refine' Tw.top_fn ?a ?l ?c ?k ?b; (case a => k_is); (case l => k_is); (case c => k_is); (case k => k_is); (case b => exact fun _ _ _ _ _ _ us hl => match us, hl with | [_, _], _ => rfl)))
    (case t__law_cask => (refine' Tw.top_fn ?a ?l ?c ?k ?b; (case a => k_is); (case l => k_is); (case c => k_is); (case k => k_is); (case b => exact fun _ _ _ _ _ _ us hl => match us, hl with | [_, _], _ => rfl)))
    (case t__law_scoop => (refine' Tw.top_fn ?a ?l ?c ?k ?b; (case a => k_is); (case l => k_is); (case c => k_is); (case k => k_is); (case b => exact fun _ _ _ _ _ _ us hl => match us, hl with | [_, _], _ => rfl)))
    (case t__law_any_of => (refine' Tw.top_fn ?a ?l ?c ?k ?b; (case a => k_is); (case l => k_is); (case c => k_is); (case k => k_is); (case b => exact fun _ _ _ _ _ _ us hl => match us, hl with | [_, _], _ => rfl)))
    (case t__law_few_of => (refine' Tw.top_fn ?a ?l ?c ?k ?b; (case a => k_is); (case l => k_is); (case c => k_is); (case k => k_is); (case b => exact fun _ _ _ _ _ _ us hl => match us, hl with | [_, _, _], _ => rfl)))
    (case t__law_rows => (refine' Tw.top_fn ?a ?l ?c ?k ?b; (case a => k_is); (case l => k_is); (case c => k_is); (case k => k_is); (case b => exact fun _ _ _ _ _ _ us hl => match us, hl with | [_, _], _ => rfl)))
    (case t__law_pool_of => (refine' Tw.top_fn ?a ?l ?c ?k ?b; (case a => k_is); (case l => k_is); (case c => k_is); (case k => k_is); (case b => exact fun _ _ _ _ _ _ us hl => match us, hl with | [_], _ => rfl)))
    (case t__law_pool_rows => (refine' Tw.top_fn ?a ?l ?c ?k ?b; (case a => k_is); (case l => k_is); (case c => k_is); (case k => k_is); (case b => exact fun _ _ _ _ _ _ us hl => match us, hl with | [_, _, _], _ => rfl)))
    (case t__law_heralds => (refine' Tw.top_fn ?a ?l ?c ?k ?b; (case a => k_is); (case l => k_is); (case c => k_is); (case k => k_is); (case b => exact fun _ _ _ _ _ _ us hl => match us, hl with | [_], _ => rfl)))
    (case t__law_behind => (refine' Tw.top_fn ?a ?l ?c ?k ?b; (case a => k_is); (case l => k_is); (case c => k_is); (case k => k_is); (case b => exact fun _ _ _ _ _ _ us hl => match us, hl with | [_, _], _ => rfl)))
    (case t__law_right => (refine' Tw.top_fn ?a ?l ?c ?k ?b; (case a => k_is); (case l => k_is); (case c => k_is); (case k => k_is); (case b => exact fun _ _ _ _ _ _ us hl => match us, hl with | [_], _ => rfl)))
    (case t_law => (refine' Tw.top_fn ?a ?l ?c ?k ?b; (case a => k_is); (case l => k_is); (case c => k_is); (case k => k_is); (case b => exact fun _ _ _ _ _ _ us hl => match us, hl with | [_], _ => rfl)))
    (case m_WebU_initU => (refine' Tw.met_fn ?a ?i ?l ?c ?k ?b; (case a => k_is); (case i => k_is); (case l => k_is); (case c => k_is); (case k => k_is); (case b => exact fun _ _ _ _ _ _ us hl => match us, hl with | [_, _], _ => rfl)))
    (case m_Web_hears => (refine' Tw.met_fn ?a ?i ?l ?c ?k ?b; (case a => k_is); (case i => k_is); (case l => k_is); (case c => k_is); (case k => k_is); (case b => exact fun _ _ _ _ _ _ us hl => match us, hl with | [_, _], _ => rfl)))
    (case m_Web_then => (refine' Tw.met_fn ?a ?i ?l ?c ?k ?b; (case a => k_is); (case i => k_is); (case l => k_is); (case c => k_is); (case k => k_is); (case b => exact fun _ _ _ _ _ _ us hl => match us, hl with | [_, _], _ => rfl)))
    (case m_Web_renumbered => (refine' Tw.met_fn ?a ?i ?l ?c ?k ?b; (case a => k_is); (case i => k_is); (case l => k_is); (case c => k_is); (case k => k_is); (case b => exact fun _ _ _ _ _ _ us hl => match us, hl with | [_, _], _ => rfl)))
    (case m_PoolU_initU => (refine' Tw.met_fn ?a ?i ?l ?c ?k ?b; (case a => k_is); (case i => k_is); (case l => k_is); (case c => k_is); (case k => k_is); (case b => exact fun _ _ _ _ _ _ us hl => match us, hl with | [_, _], _ => rfl)))
    (case m_PoolU_iterU => (refine' Tw.met_fn ?a ?i ?l ?c ?k ?b; (case a => k_is); (case i => k_is); (case l => k_is); (case c => k_is); (case k => k_is); (case b => exact fun _ _ _ _ _ _ us hl => match us, hl with | [_], _ => rfl)))
    (case m_PoolU_lenU => (refine' Tw.met_fn ?a ?i ?l ?c ?k ?b; (case a => k_is); (case i => k_is); (case l => k_is); (case c => k_is); (case k => k_is); (case b => exact fun _ _ _ _ _ _ us hl => match us, hl with | [_], _ => rfl)))
    (case m_PoolU_getitemU => (refine' Tw.met_fn ?a ?i ?l ?c ?k ?b; (case a => k_is); (case i => k_is); (case l => k_is); (case c => k_is); (case k => k_is); (case b => exact fun _ _ _ _ _ _ us hl => match us, hl with | [_, _], _ => rfl)))
    (case m_Pool_reordered => (refine' Tw.met_fn ?a ?i ?l ?c ?k ?b; (case a => k_is); (case i => k_is); (case l => k_is); (case c => k_is); (case k => k_is); (case b => exact fun _ _ _ _ _ _ us hl => match us, hl with | [_, _], _ => rfl)))
    (case m_Pool_renumbered => (refine' Tw.met_fn ?a ?i ?l ?c ?k ?b; (case a => k_is); (case i => k_is); (case l => k_is); (case c => k_is); (case k => k_is); (case b => exact fun _ _ _ _ _ _ us hl => match us, hl with | [_, _], _ => rfl)))
    (case p_Web_size => (refine' Tw.prp_fn ?a ?s ?t ?r ?l ?c ?k ?b; (case a => k_is); (case s => k_is); (case t => k_is); (case r => k_is); (case l => k_is); (case c => k_is); (case k => k_is); (case b => exact fun _ _ _ _ _ _ us hl => match us, hl with | [_], _ => rfl)))
    (case p_Web_roots => (refine' Tw.prp_fn ?a ?s ?t ?r ?l ?c ?k ?b; (case a => k_is); (case s => k_is); (case t => k_is); (case r => k_is); (case l => k_is); (case c => k_is); (case k => k_is); (case b => exact fun _ _ _ _ _ _ us hl => match us, hl with | [_], _ => rfl)))
    (case p_Pool_roots => (refine' Tw.prp_fn ?a ?s ?t ?r ?l ?c ?k ?b; (case a => k_is); (case s => k_is); (case t => k_is); (case r => k_is); (case l => k_is); (case c => k_is); (case k => k_is); (case b => exact fun _ _ _ _ _ _ us hl => match us, hl with | [_], _ => rfl)))
    (case p_Pool_always => (refine' Tw.prp_fn ?a ?s ?t ?r ?l ?c ?k ?b; (case a => k_is); (case s => k_is); (case t => k_is); (case r => k_is); (case l => k_is); (case c => k_is); (case k => k_is); (case b => exact fun _ _ _ _ _ _ us hl => match us, hl with | [_], _ => rfl)))
    (case p_Pool_size => (refine' Tw.prp_fn ?a ?s ?t ?r ?l ?c ?k ?b; (case a => k_is); (case s => k_is); (case t => k_is); (case r => k_is); (case l => k_is); (case c => k_is); (case k => k_is); (case b => exact fun _ _ _ _ _ _ us hl => match us, hl with | [_], _ => rfl)))
    (case sl_Web_own_heard => (refine' Tw.slot_at ?a ?s ?t ?y ?j ?h; (case a => k_is); (case s => k_is); (case t => k_is); (case y => k_is); (case j => k_is); (case h => decide)))
    (case sl_Web_own_size => (refine' Tw.slot_at ?a ?s ?t ?y ?j ?h; (case a => k_is); (case s => k_is); (case t => k_is); (case y => k_is); (case j => k_is); (case h => decide)))
    (case sl_Web_own_reached => (refine' Tw.slot_at ?a ?s ?t ?y ?j ?h; (case a => k_is); (case s => k_is); (case t => k_is); (case y => k_is); (case j => k_is); (case h => decide)))
    (case sl_Web_own_roots => (refine' Tw.slot_at ?a ?s ?t ?y ?j ?h; (case a => k_is); (case s => k_is); (case t => k_is); (case y => k_is); (case j => k_is); (case h => decide)))
    (case sl_Web_own_pairs => (refine' Tw.slot_at ?a ?s ?t ?y ?j ?h; (case a => k_is); (case s => k_is); (case t => k_is); (case y => k_is); (case j => k_is); (case h => decide)))
    (case sl_Pool_own_webs => (refine' Tw.slot_at ?a ?s ?t ?y ?j ?h; (case a => k_is); (case s => k_is); (case t => k_is); (case y => k_is); (case j => k_is); (case h => decide)))
    (case sl_Pool_own_size => (refine' Tw.slot_at ?a ?s ?t ?y ?j ?h; (case a => k_is); (case s => k_is); (case t => k_is); (case y => k_is); (case j => k_is); (case h => decide)))
    (case sl_Pool_own_places => (refine' Tw.slot_at ?a ?s ?t ?y ?j ?h; (case a => k_is); (case s => k_is); (case t => k_is); (case y => k_is); (case j => k_is); (case h => decide)))
    (case z_len => k_is)
    (case z_range => k_is)
    (case z_list => k_is)
    (case z_tuple => k_is)
    (case z_set => k_is)
    (case z_sorted => k_is)
    (case z_all => k_is)
    (case z_isinstance => k_is)
    (case z_int => k_is)
    (case z_bool => k_is)
    (case z_enumerate => k_is)
    (case z_zip => k_is)
    (case z_min => k_is)
    (case z_max => k_is)
    (case z_abs => k_is)
    (case z_str => k_is)
    (case z_repr => k_is)
    (case z_dict => k_is)
    (case z_iter => k_is)
    (case gi_MAX_SIZE => k_is)
    (case gi_GREATEST => k_is)
    (case gi_MAX_WEBS => k_is)
    (case pg_Web => k_is)
    (case ic_Web => k_is)
    (case po_Web => k_is)
    (case sa_Web => k_is)
    (case ca_Web => k_is)
    (case cm_Web => k_is)
    (case nf_Web => k_is)
    (case ne_Web => k_is)
    (case mk_Web => k_is)
    (case kc_Web => k_is)
    (case pg_Pool => k_is)
    (case ic_Pool => k_is)
    (case po_Pool => k_is)
    (case sa_Pool => k_is)
    (case ca_Pool => k_is)
    (case cm_Pool => k_is)
    (case nf_Pool => k_is)
    (case mk_Pool => k_is)
    (case kc_Pool => k_is)
    (case cn => k_is)
    (case ct => k_is)

