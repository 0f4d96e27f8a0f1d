import PyProof.Rows.All
import Wide.All
import OpenK.AllK
import Wide.FinOn
import PyProof.EqAt
import PyProof.EqKinds
import PyProof.TupleCall
import HandS.Base
import HandS.Call
import HandS.List
import HandS.Comp
import HandS.Dict
import HandS.Iter
import HandS.Walk
import HandS.Words
import HandS.Ends
import PyProof.Draws
import KE.GoesMore
import HandS.More
import HandS.Set
import HandS.Strs
import HandS.SetFor
import HandS.IsInst
import HandS.Slots
import HandS.SlotsOwn
import HandS.Star
import HandS.Conv
import HandS.Deep
import HandS.TupAny
import HandS.TupMul
import HandS.WordsDict
import HandS.WordsList
import HandS.Wide
import HandS.FStr
import HandS.Style
import PyProof.Lay0
import PyProof.EqLayable
import HandS.DictTup
import KE.SortData
import HandS.Zip
import HandS.SortKw
import KE.KDictZip
import PySem.Challenge.RW_rootshared_k02_whole_roots_and_rounds
set_option Elab.async false
set_option linter.all false
set_option maxRecDepth 100000
set_option maxHeartbeats 4000000
/-! Rs0: runs of readings over a part that stays (F) and cells that are one's own (L). -/
namespace Rs
open PySem L2

abbrev Cells := List (Addr × HO)
/-- F stands in H, and the cells L do, apart from F -/
structure At (F : Hp) (L : Cells) (H : Hp) : Prop where
  ex : Same F H
  on : ∀ p ∈ L, H p.1 = some p.2
  off : ∀ p ∈ L, F p.1 = none
  nd : (L.map (·.1)).Nodup
  nt : ∀ p ∈ L, ∀ xs, p.2 ≠ .tup xs

section
variable {F F' F1 H H' : Hp} {L L' N : Cells} {a p : Addr} {o u : HO}
theorem At.nil (h : Same F H) : At F [] H := ⟨h, fun _ q => (nomatch q), fun _ q => (nomatch q), List.nodup_nil, fun _ q => (nomatch q)⟩
theorem At.self : At H [] H := At.nil (Same.refl H)
theorem At.free (A : At F L H) (h : H a = none) : F a = none := A.ex.free h
theorem At.sub (A : At F L H) (hs : ∀ p ∈ L', p ∈ L) (nd : (L'.map (·.1)).Nodup) : At F L' H :=
  ⟨A.ex, fun p q => A.on p (hs p q), fun p q => A.off p (hs p q), nd, fun p q => A.nt p (hs p q)⟩
theorem At.tail {m : Addr × HO} (A : At F (m :: L) H) : At F L H :=
  A.sub (fun p q => List.mem_cons_of_mem _ q) (List.nodup_cons.mp (by have := A.nd; rwa [List.map_cons] at this)).2
theorem At.drop (A : At F (L ++ N) H) : At F N H :=
  A.sub (fun p q => List.mem_append_right _ q) (by have h := A.nd; rw [List.map_append] at h; exact (List.nodup_append.mp h).2.1)
theorem At.left (A : At F (L ++ N) H) : At F L H :=
  A.sub (fun p q => List.mem_append_left _ q) (by have h := A.nd; rw [List.map_append] at h; exact (List.nodup_append.mp h).1)
theorem At.low (A : At F L H) (e : Same F1 F) : At F1 L H :=
  ⟨e.trans A.ex, A.on, fun p q => e.free (A.off p q), A.nd, A.nt⟩
theorem At.perm (A : At F L H) (h : L.Perm L') : At F L' H :=
  ⟨A.ex, fun p q => A.on p (h.mem_iff.mpr q), fun p q => A.off p (h.mem_iff.mpr q), (h.map (·.1)).nodup_iff.mp A.nd, fun p q => A.nt p (h.mem_iff.mpr q)⟩
theorem same_new (h : F a = none) : Same F (upd F a o) := fun b u e => by
  rw [upd_ne (ne_of_none e h)]; exact e
/-- a new thing that stays -/
theorem At.new (A : At F L H) (h : H a = none) : At (upd F a o) L (upd H a o) := by
  have ne : ∀ p ∈ L, p.1 ≠ a := fun p q z => by
    have := A.on p q
    rw [z, h] at this; cases this
  refine ⟨fun b u e => ?_, fun p q => by rw [upd_ne (ne p q)]; exact A.on p q, fun p q => by rw [upd_ne (ne p q)]; exact A.off p q, A.nd, A.nt⟩
  by_cases hb : b = a
  · subst hb; rw [upd_same] at e ⊢; exact e
  · rw [upd_ne hb] at e ⊢; exact A.ex b u e
/-- a new cell -/
theorem At.cell (A : At F L H) (h : H a = none) (ho : ∀ xs, o ≠ .tup xs := by intro _ z; nomatch z) : At F ((a, o) :: L) (upd H a o) := by
  have ne : ∀ p ∈ L, p.1 ≠ a := fun p q z => by
    have := A.on p q
    rw [z, h] at this; cases this
  refine ⟨fun b u e => ?_, fun p q => ?_, fun p q => ?_, ?_, fun p q => (List.mem_cons.mp q).elim (fun z => z ▸ ho) (A.nt p)⟩
  · rw [upd_ne (ne_of_none (A.ex b u e) h)]; exact A.ex b u e
  · rcases List.mem_cons.mp q with z | z
    · subst z; exact upd_same
    · rw [upd_ne (ne p z)]; exact A.on p z
  · rcases List.mem_cons.mp q with z | z
    · subst z; exact A.free h
    · exact A.off p z
  · rw [List.map_cons, List.nodup_cons]
    refine ⟨fun z => ?_, A.nd⟩
    obtain ⟨q, hq, e⟩ := List.mem_map.mp z
    exact ne q hq e
theorem At.ne (A : At F ((a, o) :: L) H) : ∀ p ∈ L, p.1 ≠ a := fun p q z => by
  have h := A.nd
  rw [List.map_cons, List.nodup_cons] at h
  exact h.1 (List.mem_map.mpr ⟨p, q, z⟩)
/-- a cell is written -/
theorem At.put (A : At F ((a, o) :: L) H) (ho : ∀ xs, u ≠ .tup xs := by intro _ z; nomatch z) : At F ((a, u) :: L) (upd H a u) := by
  refine ⟨fun b v e => ?_, fun p q => ?_, fun p q => ?_, A.nd, fun p q => (List.mem_cons.mp q).elim (fun z => z ▸ ho) fun z => A.nt p (List.mem_cons_of_mem _ z)⟩
  · have hb : b ≠ a := fun z => by
      have := A.off _ List.mem_cons_self
      rw [z] at e; rw [show F a = none from this] at e; cases e
    rw [upd_ne hb]; exact A.ex b v e
  · rcases List.mem_cons.mp q with z | z
    · subst z; exact upd_same
    · rw [upd_ne (A.ne p z)]; exact A.on p (List.mem_cons_of_mem _ z)
  · rcases List.mem_cons.mp q with z | z
    · subst z; exact A.off (a, o) List.mem_cons_self
    · exact A.off p (List.mem_cons_of_mem _ z)
/-- a cell stays from now on -/
theorem At.keep (A : At F ((a, o) :: L) H) : At (upd F a o) L H := by
  refine ⟨fun b v e => ?_, fun p q => A.on p (List.mem_cons_of_mem _ q), fun p q => by rw [upd_ne (A.ne p q)]; exact A.off p (List.mem_cons_of_mem _ q), A.tail.nd, A.tail.nt⟩
  by_cases hb : b = a
  · subst hb; rw [upd_same] at e; rw [← e]; exact A.on _ List.mem_cons_self
  · rw [upd_ne hb] at e; exact A.ex b v e
theorem At.off1 (A : At F ((a, o) :: L) H) : F a = none := A.off _ List.mem_cons_self
theorem At.on1 (A : At F ((a, o) :: L) H) : H a = some o := A.on _ List.mem_cons_self
end

/-! ### runs -/
/-- k runs from any heap with F (or more) and the cells L; it ends with the cells as they were, F grown, R of what it gives -/
def Run {α : Type} (k : Hp → (α → Hp → Prop) → Prop) (F : Hp) (L : Cells) (R : α → Hp → Prop) : Prop :=
  ∀ F1 N H, Same F F1 → At F1 (L ++ N) H → ∀ Q : α → Hp → Prop, (∀ v F2 H2, Same F1 F2 → At F2 (L ++ N) H2 → R v F2 → Q v H2) → k H Q
section
variable {α β : Type} {k : Hp → (α → Hp → Prop) → Prop} {F F1 : Hp} {L : Cells} {R R' : α → Hp → Prop}
theorem Run.up (h : Run k F L R) (e : Same F F1) : Run k F1 L R := fun F2 N H e2 A Q q => h F2 N H (e.trans e2) A Q q
theorem Run.weak (h : Run k F L R) (hr : ∀ v F2, Same F F2 → R v F2 → R' v F2) : Run k F L R' := fun F2 N H e2 A Q q =>
  h F2 N H e2 A Q fun v F3 H3 e3 A3 r => q v F3 H3 e3 A3 (hr v F3 (e2.trans e3) r)
theorem Run.cells {M : Cells} (h : Run k F [] R) : Run k F M R := fun F2 N H e2 A Q q => h F2 (M ++ N) H e2 A Q q
theorem run_ret {v : α} (h : ∀ F1, Same F F1 → R v F1) : Run (fun H Q => Q v H) F L R := fun F1 N H e A Q q => q v F1 H (Same.refl _) A (h F1 e)
theorem run_bind {k2 : α → Hp → (β → Hp → Prop) → Prop} {S : β → Hp → Prop} (h1 : Run k F L R) (h2 : ∀ v F1, Same F F1 → R v F1 → Run (k2 v) F1 L S) : Run (fun H Q => k H fun v H1 => k2 v H1 Q) F L S := fun F1 N H e A Q q =>
  h1 F1 N H e A _ fun v F2 H2 e2 A2 r => h2 v F2 (e.trans e2) r F2 N H2 (Same.refl _) A2 Q fun w F3 H3 e3 A3 s => q w F3 H3 (e2.trans e3) A3 s
theorem run_ex {γ : Type} {kk : γ → Hp → (α → Hp → Prop) → Prop} (w : γ) (h : Run (kk w) F L R) : Run (fun H Q => ∃ w, kk w H Q) F L R := fun F1 N H e A Q q => ⟨w, h F1 N H e A Q q⟩
theorem run_and {p : Hp → Prop} (hp : ∀ F1 N H, Same F F1 → At F1 (L ++ N) H → p H) (h : Run k F L R) : Run (fun H Q => p H ∧ k H Q) F L R := fun F1 N H e A Q q => ⟨hp F1 N H e A, h F1 N H e A Q q⟩
/-- a thing is laid, and stays -/
theorem run_new {o : Addr → HO} {S : V → Hp → Prop} (h : ∀ F1 p, Same F F1 → F1 p = none → S (.ref p) (upd F1 p (o p))) : Run (fun H Q => ∀ p, H p = none → Q (.ref p) (upd H p (o p))) F L S := fun F1 N H e A Q q p hp =>
  q _ (upd F1 p (o p)) _ (same_new (A.free hp)) (A.new hp) (h F1 p e (A.free hp))
end

abbrev VP := V → Hp → Prop
/-- what a value says goes on to be so -/
class Mono {α : Type} (R : α → Hp → Prop) : Prop where
  mono : ∀ v F F', Same F F' → R v F → R v F'
theorem Mono.go {α : Type} {R : α → Hp → Prop} [Mono R] {v : α} {F F' : Hp} (h : R v F) (e : Same F F') : R v F' := Mono.mono v F F' e h

/-! ### data -/
section
variable {K : PySem.W.Frag} {F F' : Hp}
theorem sqT_up {a : Addr} {xs : List V} (e : Same F F') (h : SqT K F a xs) : SqT K F' a xs := by
  rcases h with (h | ⟨o, h⟩) | h
  · exact .inl (.inl (e _ _ h))
  · exact .inl (.inr ⟨o, e _ _ h⟩)
  · exact .inr h
theorem sqL_up {a : Addr} {xs : List V} (e : Same F F') (h : SqL K F a xs) : SqL K F' a xs := e.seq h
mutual
theorem dp_up (e : Same F F') : ∀ {v : V} {d : PyData}, Dp K F v d → Dp K F' v d
  | _, _, .non => .non
  | _, _, .bl b => .bl b
  | _, _, .int i => .int i
  | _, _, .str x => .str x
  | _, _, .lst h t => .lst (sqL_up e h) (dpA_up e t)
  | _, _, .tup h t => .tup (sqT_up e h) (dpA_up e t)
theorem dpA_up (e : Same F F') : ∀ {vs : List V} {ds : List PyData}, DpAll K F vs ds → DpAll K F' vs ds
  | _, _, .nil => .nil
  | _, _, .cons h t => .cons (dp_up e h) (dpA_up e t)
end
end
/-- the value is the data d -/
def Dt (K : PySem.W.Frag) (d : PyData) : VP := fun v F => Dp K F v d
instance {K : PySem.W.Frag} {d : PyData} : Mono (Dt K d) := ⟨fun _ _ _ e h => dp_up e h⟩
/-- it is just this one -/
def Eqv {α : Type} (x : α) : α → Hp → Prop := fun v _ => v = x
instance {α : Type} {x : α} : Mono (Eqv x) := ⟨fun _ _ _ _ h => h⟩
/-- each of the values says its own -/
def Each : List VP → List V → Hp → Prop
  | [], [], _ => True
  | R :: Rs, v :: vs, F => R v F ∧ Each Rs vs F
  | _, _, _ => False
class MonoL (Rs : List VP) : Prop where
  mono : ∀ vs F F', Same F F' → Each Rs vs F → Each Rs vs F'
instance : MonoL [] := ⟨fun vs F F' e h => by cases vs <;> exact h⟩
instance {R : VP} {Rs : List VP} [Mono R] [MonoL Rs] : MonoL (R :: Rs) := ⟨fun vs F F' e h => by
  cases vs with
  | nil => exact h
  | cons v vs => exact ⟨Mono.mono v F F' e h.1, MonoL.mono vs F F' e h.2⟩⟩
instance {Rs : List VP} [MonoL Rs] : Mono (Each Rs) := ⟨fun vs F F' e h => MonoL.mono vs F F' e h⟩
theorem each_length : ∀ {Rs : List VP} {vs : List V} {F : Hp}, Each Rs vs F → vs.length = Rs.length
  | [], [], _, _ => rfl
  | _ :: Rs, _ :: vs, F, h => by rw [List.length_cons, List.length_cons, each_length (Rs := Rs) (vs := vs) h.2]
  | [], _ :: _, _, h => h.elim
  | _ :: _, [], _, h => h.elim
theorem each_get {ι : Type} {f : ι → VP} : ∀ {xs : List ι} {vs : List V} {F : Hp} {i : Nat} {v : V}, Each (xs.map f) vs F → vs[i]? = some v → ∃ x, xs[i]? = some x ∧ f x v F
  | [], [], _, _, _, _, e => by simp at e
  | x :: xs, v :: vs, F, 0, w, h, e => by
    have e' : v = w := by simpa using e
    subst e'
    exact ⟨x, rfl, h.1⟩
  | x :: xs, v :: vs, F, i + 1, w, h, e => by
    obtain ⟨y, h1, h2⟩ := each_get (xs := xs) (vs := vs) (i := i) h.2 (by simpa using e)
    exact ⟨y, by simpa using h1, h2⟩
  | [], _ :: _, _, _, _, h, _ => h.elim
  | _ :: _, [], _, _, _, h, _ => h.elim
theorem each_dt {K : PySem.W.Frag} {F : Hp} : ∀ {ds : List PyData} {vs : List V}, Each (ds.map (Dt K)) vs F ↔ DpAll K F vs ds
  | [], [] => ⟨fun _ => .nil, fun _ => trivial⟩
  | d :: ds, v :: vs => ⟨fun h => .cons h.1 (each_dt.mp h.2), fun h => by cases h with | cons a b => exact ⟨a, each_dt.mpr b⟩⟩
  | [], _ :: _ => ⟨fun h => h.elim, fun h => nomatch h⟩
  | _ :: _, [] => ⟨fun h => h.elim, fun h => nomatch h⟩
theorem each_app : ∀ {Rs Ss : List VP} {vs ws : List V} {F : Hp}, Each Rs vs F → Each Ss ws F → Each (Rs ++ Ss) (vs ++ ws) F
  | [], _, [], _, _, _, h => h
  | _ :: Rs, Ss, _ :: vs, ws, _, h, g => ⟨h.1, each_app (Rs := Rs) (vs := vs) h.2 g⟩
  | [], _, _ :: _, _, _, h, _ => h.elim
  | _ :: _, _, [], _, _, h, _ => h.elim
theorem each0 {vs : List V} {F : Hp} (h : Each [] vs F) : vs = [] := by
  cases vs with
  | nil => rfl
  | cons _ _ => exact h.elim
theorem each_cons {R : VP} {Rs : List VP} {vs : List V} {F : Hp} (h : Each (R :: Rs) vs F) : ∃ v ws, vs = v :: ws ∧ R v F ∧ Each Rs ws F := by
  cases vs with
  | nil => exact h.elim
  | cons v ws => exact ⟨v, ws, rfl, h.1, h.2⟩
theorem each1 {R : VP} {vs : List V} {F : Hp} (h : Each [R] vs F) : ∃ v, vs = [v] ∧ R v F := by
  obtain ⟨v, ws, rfl, h1, h2⟩ := each_cons h
  cases each0 h2
  exact ⟨v, rfl, h1⟩
theorem each2 {R S : VP} {vs : List V} {F : Hp} (h : Each [R, S] vs F) : ∃ v u, vs = [v, u] ∧ R v F ∧ S u F := by
  obtain ⟨v, ws, rfl, h1, h2⟩ := each_cons h
  obtain ⟨u, rfl, h3⟩ := each1 h2
  exact ⟨v, u, rfl, h1, h3⟩
theorem each3 {R S T : VP} {vs : List V} {F : Hp} (h : Each [R, S, T] vs F) : ∃ v u w, vs = [v, u, w] ∧ R v F ∧ S u F ∧ T w F := by
  obtain ⟨v, ws, rfl, h1, h2⟩ := each_cons h
  obtain ⟨u, w, rfl, h3, h4⟩ := each2 h2
  exact ⟨v, u, w, rfl, h1, h3, h4⟩
/-- a tuple, a list of such -/
def Tp (K : PySem.W.Frag) (Rs : List VP) : VP := fun v F => ∃ a vs, v = .ref a ∧ SqT K F a vs ∧ Each Rs vs F
def Ls (K : PySem.W.Frag) (Rs : List VP) : VP := fun v F => ∃ a vs, v = .ref a ∧ SqL K F a vs ∧ Each Rs vs F
/-- a list that stands there just so -/
def Ln (Rs : List VP) : VP := fun v F => ∃ a vs, v = .ref a ∧ F a = some (.lst vs) ∧ Each Rs vs F
instance {Rs : List VP} [MonoL Rs] : Mono (Ln Rs) := ⟨fun _ _ _ e ⟨a, vs, h, s, r⟩ => ⟨a, vs, h, e _ _ s, MonoL.mono _ _ _ e r⟩⟩
theorem Ln.ls {K : PySem.W.Frag} {Rs : List VP} {v : V} {F : Hp} (h : Ln Rs v F) : Ls K Rs v F :=
  let ⟨a, vs, h, s, r⟩ := h
  ⟨a, vs, h, .inl (.inl s), r⟩
instance {K : PySem.W.Frag} {Rs : List VP} [MonoL Rs] : Mono (Tp K Rs) := ⟨fun _ _ _ e ⟨a, vs, h, s, r⟩ => ⟨a, vs, h, sqT_up e s, MonoL.mono _ _ _ e r⟩⟩
instance {K : PySem.W.Frag} {Rs : List VP} [MonoL Rs] : Mono (Ls K Rs) := ⟨fun _ _ _ e ⟨a, vs, h, s, r⟩ => ⟨a, vs, h, sqL_up e s, MonoL.mono _ _ _ e r⟩⟩
theorem monoL_map {ι : Type} {f : ι → VP} (h : ∀ x, Mono (f x)) : ∀ xs : List ι, MonoL (xs.map f)
  | [] => inferInstanceAs (MonoL [])
  | x :: xs => by
    have := h x
    have := monoL_map h xs
    exact inferInstanceAs (MonoL (f x :: xs.map f))
instance {ι : Type} {f : ι → VP} [h : ∀ x, Mono (f x)] {xs : List ι} : MonoL (xs.map f) := monoL_map h xs
theorem tp_dt {K : PySem.W.Frag} {ds : List PyData} {v : V} {F : Hp} : Tp K (ds.map (Dt K)) v F ↔ Dt K (.tuple ds) v F :=
  ⟨fun ⟨a, vs, h, s, r⟩ => by subst h; exact .tup s (each_dt.mp r), fun h => by cases h with | tup s r => exact ⟨_, _, rfl, s, each_dt.mpr r⟩⟩
theorem ls_dt {K : PySem.W.Frag} {ds : List PyData} {v : V} {F : Hp} : Ls K (ds.map (Dt K)) v F ↔ Dt K (.list ds) v F :=
  ⟨fun ⟨a, vs, h, s, r⟩ => by subst h; exact .lst s (each_dt.mp r), fun h => by cases h with | lst s r => exact ⟨_, _, rfl, s, each_dt.mpr r⟩⟩
theorem dt_int {K : PySem.W.Frag} {i : Int} {v : V} {F : Hp} (h : Dt K (.int i) v F) : v = .int i := by cases h; rfl
theorem dt_bl {K : PySem.W.Frag} {b : Bool} {v : V} {F : Hp} (h : Dt K (.bool b) v F) : v = .bl b := by cases h; rfl
theorem dt_str {K : PySem.W.Frag} {x : Str} {v : V} {F : Hp} (h : Dt K (.str x) v F) : v = .str x := by cases h; rfl
theorem dt_non {K : PySem.W.Frag} {v : V} {F : Hp} (h : Dt K .none v F) : v = .non := by cases h; rfl
theorem vs_ints {K : PySem.W.Frag} {F : Hp} : ∀ {ns : List Int} {vs : List V}, DpAll K F vs (ns.map PyData.int) → vs = ns.map V.int
  | [], _, .nil => rfl
  | n :: ns, _, .cons h t => by
    cases h
    rw [List.map_cons, vs_ints (ns := ns) t]
theorem ints_vs {K : PySem.W.Frag} {F : Hp} : ∀ {ns : List Int}, DpAll K F (ns.map V.int) (ns.map PyData.int)
  | [] => .nil
  | n :: ns => .cons (.int n) ints_vs
end Rs

/-! Rs1: expressions, statements, loops, comprehensions as runs. -/
namespace Rs
open PySem L2
theorem len_ok {n : Nat} (h : n ≤ 100000) : n ≤ sizeLine := Nat.le_trans h (by decide)
theorem len_lt {n : Nat} (h : n < 100000) : n < sizeLine := Nat.lt_of_lt_of_le h (by decide)
section
variable {K : PySem.W.Frag} {σ : L2.St} {F F1 : Hp} {L : Cells} {R Ra Rb Rc : VP} {Rs Ss : List VP} {ta tb tc te : TE} {t tr : TA} {tt tu : TT} {i : Nat} {v : V} {r r' : R2}
theorem r_var [Mono R] (h : σ[i]? = some (some v)) (hr : R v F) : Run (tVar i σ) F L R := run_ex v (run_and (fun _ _ _ _ _ => h) (run_ret fun _ e => Mono.go hr e))
theorem r_varE (h : σ[i]? = some (some v)) : Run (tVar i σ) F L (Eqv v) := r_var h rfl
theorem r_c [Mono R] (hr : R v F) : Run (tC v σ) F L R := run_ret fun _ e => Mono.go hr e
theorem r_int {j : Int} : Run (tC (.int j) σ) F L (Dt K (.int j)) := r_c (R := Dt K (.int j)) (.int j)
theorem r_bl {b : Bool} : Run (tC (.bl b) σ) F L (Dt K (.bool b)) := r_c (R := Dt K (.bool b)) (.bl b)
theorem r_str {x : Str} : Run (tC (.str x) σ) F L (Dt K (.str x)) := r_c (R := Dt K (.str x)) (.str x)
theorem r_op [Mono Ra] (ha : Run (ta σ) F L Ra) (hb : Run (tb σ) F L Rb) (h : ∀ x y F1, Same F F1 → Ra x F1 → Rb y F1 → Run (r x y) F1 L R) : Run (tOp r ta tb σ) F L R :=
  run_bind (k := ta σ) ha fun x F1 e1 hx => run_bind (k := tb σ) (hb.up e1) fun y F2 e2 hy => h x y F2 (e1.trans e2) (Mono.go hx e2) hy
theorem r_un {q : V → Hp → VK → Prop} (ha : Run (ta σ) F L Ra) (h : ∀ x F1, Same F F1 → Ra x F1 → Run (q x) F1 L R) : Run (tUn q ta σ) F L R := run_bind (k := ta σ) ha h
theorem r_cb {q : List V → Hp → VK → Prop} {A : List V → Hp → Prop} (ha : Run (t σ) F L A) (h : ∀ xs F1, Same F F1 → A xs F1 → Run (q xs) F1 L R) : Run (tCB q t σ) F L R := run_bind (k := t σ) ha h
theorem r_nil : Run (tNil σ) F L (Each []) := run_ret fun _ _ => True.intro
theorem r_cons [Mono R] (h : Run (te σ) F L R) (hr : Run (tr σ) F L (Each Rs)) : Run (tCons te tr σ) F L (Each (R :: Rs)) := fun F1 N H e A Q q =>
  h F1 N H e A _ fun x F2 H2 e2 A2 hx => hr F2 N H2 (e.trans e2) A2 _ fun xs F3 H3 e3 A3 hxs => q (x :: xs) F3 H3 (e2.trans e3) A3 ⟨Mono.go hx e3, hxs⟩
theorem r_tup (h : Run (t σ) F L (Each Rs)) [MonoL Rs] (hl : Rs.length ≤ 100000) : Run (tTup t σ) F L (Tp K Rs) :=
  run_bind (k := t σ) h fun xs F1 e1 hx => run_and (fun _ _ _ _ _ => len_ok (by rw [each_length hx]; exact hl)) (run_new fun F2 p e2 hp => ⟨p, xs, rfl, .inl (.inl upd_same), MonoL.mono _ _ _ (e2.trans (same_new hp)) hx⟩)
theorem r_lst (h : Run (t σ) F L (Each Rs)) [MonoL Rs] (hl : Rs.length ≤ 100000) : Run (tLst t σ) F L (Ln Rs) :=
  run_bind (k := t σ) h fun xs F1 e1 hx => run_and (fun _ _ _ _ _ => len_ok (by rw [each_length hx]; exact hl)) (run_new fun F2 p e2 hp => ⟨p, xs, rfl, upd_same, MonoL.mono _ _ _ (e2.trans (same_new hp)) hx⟩)
theorem r_ls (h : Run (te σ) F L (Ln Rs)) : Run (te σ) F L (Ls K Rs) := h.weak fun _ _ _ => Ln.ls
theorem r_dt {d : PyData} (h : Run (te σ) F L R) (hr : ∀ v F1, Same F F1 → R v F1 → Dp K F1 v d) : Run (te σ) F L (Dt K d) := h.weak hr
/-! numbers, comparisons -/
theorem r_I0i {f : Int → Int → Int} {a b : Int} (ha : Run (ta σ) F L (Dt K (.int a))) (hb : Run (tb σ) F L (Dt K (.int b))) : Run (tOp (rI0 fun i j => .int (f i j)) ta tb σ) F L (Dt K (.int (f a b))) :=
  r_op ha hb fun x y F1 e1 hx hy => by
    cases hx; cases hy
    exact run_ex a (run_ex b (run_and (fun _ _ _ _ _ => rfl) (run_and (fun _ _ _ _ _ => rfl) (run_ret fun _ _ => .int _))))
theorem r_I0b {f : Int → Int → Bool} {a b : Int} (ha : Run (ta σ) F L (Dt K (.int a))) (hb : Run (tb σ) F L (Dt K (.int b))) : Run (tOp (rI0 fun i j => .bl (f i j)) ta tb σ) F L (Dt K (.bool (f a b))) :=
  r_op ha hb fun x y F1 e1 hx hy => by
    cases hx; cases hy
    exact run_ex a (run_ex b (run_and (fun _ _ _ _ _ => rfl) (run_and (fun _ _ _ _ _ => rfl) (run_ret fun _ _ => .bl _))))
theorem r_Ii {C : Int → Int → Prop} {f : Int → Int → Int} {a b : Int} (ha : Run (ta σ) F L (Dt K (.int a))) (hb : Run (tb σ) F L (Dt K (.int b))) (hc : C a b) : Run (tOp (rI C fun i j => .int (f i j)) ta tb σ) F L (Dt K (.int (f a b))) :=
  r_op ha hb fun x y F1 e1 hx hy => by
    cases hx; cases hy
    exact run_ex a (run_ex b (run_and (fun _ _ _ _ _ => rfl) (run_and (fun _ _ _ _ _ => rfl) (run_and (fun _ _ _ _ _ => hc) (run_ret fun _ _ => .int _)))))
theorem r_U {f : Int → Int} {a : Int} (ha : Run (ta σ) F L (Dt K (.int a))) : Run (tUn (rU fun i => .int (f i)) ta σ) F L (Dt K (.int (f a))) :=
  r_un ha fun x F1 e1 hx => by
    cases hx
    exact run_ex a (run_and (fun _ _ _ _ _ => rfl) (run_ret fun _ _ => .int _))
/-- lo < x <= hi and its like -/
theorem r_chain {f g : Int → Int → Bool} {a b c : Int} (ha : Run (ta σ) F L (Dt K (.int a))) (hb : Run (tb σ) F L (Dt K (.int b))) (hc : Run (tc σ) F L (Dt K (.int c))) :
    Run (tChain (rI0 fun i j => .bl (f i j)) (rI0 fun i j => .bl (g i j)) ta tb tc σ) F L (Dt K (.bool (f a b && g b c))) :=
  run_bind (k := ta σ) ha fun x F1 e1 hx => run_bind (k := tb σ) (hb.up e1) fun y F2 e2 hy => by
    cases hx; cases hy
    refine run_bind (k := fun H Q => rI0 (fun i j => .bl (f i j)) (.int a) (.int b) H Q) (R := Eqv (.bl (f a b))) (run_ex a (run_ex b (run_and (fun _ _ _ _ _ => rfl) (run_and (fun _ _ _ _ _ => rfl) (run_ret fun _ _ => rfl))))) fun z F3 e3 hz => ?_
    cases hz
    refine run_ex (f a b) (run_and (fun _ _ _ _ _ => rfl) ?_)
    cases hf : f a b with
    | true =>
      refine fun F4 N H e4 A Q q => iteT ?_
      refine run_bind (hc.up ((e1.trans e2).trans e3)) (k2 := fun w' H4 Q => rI0 (fun i j => .bl (g i j)) (.int b) w' H4 Q) (S := Dt K (.bool (true && g b c))) (fun w F5 e5 hw => ?_) F4 N H e4 A Q q
      cases hw
      exact run_ex b (run_ex c (run_and (fun _ _ _ _ _ => rfl) (run_and (fun _ _ _ _ _ => rfl) (run_ret fun _ _ => by rw [Bool.true_and]; exact .bl _))))
    | false =>
      refine fun F4 N H e4 A Q q => iteF ?_
      exact q _ F4 H (Same.refl _) A (.bl _)
/-! tests -/
variable {a b : Bool}
theorem t_test (h : Run (te σ) F L (Dt K (.bool b))) : Run (tTest te σ) F L (Eqv b) := run_bind (k := te σ) h fun x F1 e1 hx => by
  cases hx
  exact run_ex b (run_and (fun _ _ _ _ _ => rfl) (run_ret fun _ _ => rfl))
theorem t_B (h : Run (te σ) F L (Dt K (.bool b))) : Run (tB te σ) F L (Eqv b) := run_bind (k := te σ) h fun x F1 e1 hx => by
  cases hx
  exact run_ex b (run_and (fun _ _ _ _ _ => rfl) (run_ret fun _ _ => rfl))
theorem t_yes : Run (tYes σ) F L (Eqv true) := run_ret fun _ _ => rfl
theorem t_not (h : Run (tt σ) F L (Eqv b)) : Run (tNot tt σ) F L (Eqv (!b)) := run_bind (k := tt σ) h fun x F1 e1 hx => by
  cases hx
  exact run_ret fun _ _ => rfl
theorem t_and (h : Run (tt σ) F L (Eqv a)) (h2 : a = true → Run (tu σ) F L (Eqv b)) : Run (tAnd tt tu σ) F L (Eqv (a && b)) := run_bind (k := tt σ) h fun x F1 e1 hx => by
  cases hx
  cases a with
  | true => exact fun F4 N H e4 A Q q => iteT (((h2 rfl).up e1) F4 N H e4 A Q q)
  | false => exact fun F4 N H e4 A Q q => iteF (q false F4 H (Same.refl _) A rfl)
theorem t_or (h : Run (tt σ) F L (Eqv a)) (h2 : a = false → Run (tu σ) F L (Eqv b)) : Run (tOr tt tu σ) F L (Eqv (a || b)) := run_bind (k := tt σ) h fun x F1 e1 hx => by
  cases hx
  cases a with
  | true => exact fun F4 N H e4 A Q q => iteT (q true F4 H (Same.refl _) A rfl)
  | false => exact fun F4 N H e4 A Q q => iteF (((h2 rfl).up e1) F4 N H e4 A Q q)
theorem t_is (h : Run (tt σ) F L (Eqv a)) (e : a = b) : Run (tt σ) F L (Eqv b) := e ▸ h
theorem r_and (h : Run (ta σ) F L (Dt K (.bool a))) (h2 : a = true → Run (tb σ) F L (Dt K (.bool b))) : Run (tAndV ta tb σ) F L (Dt K (.bool (a && b))) := run_bind (k := ta σ) h fun x F1 e1 hx => by
  cases hx
  refine run_ex a (run_and (fun _ _ _ _ _ => rfl) ?_)
  cases a with
  | true => exact fun F4 N H e4 A Q q => iteT (((h2 rfl).up e1) F4 N H e4 A Q q)
  | false => exact fun F4 N H e4 A Q q => iteF (q _ F4 H (Same.refl _) A (.bl false))
theorem r_or (h : Run (ta σ) F L (Dt K (.bool a))) (h2 : a = false → Run (tb σ) F L (Dt K (.bool b))) : Run (tOrV ta tb σ) F L (Dt K (.bool (a || b))) := run_bind (k := ta σ) h fun x F1 e1 hx => by
  cases hx
  refine run_ex a (run_and (fun _ _ _ _ _ => rfl) ?_)
  cases a with
  | true => exact fun F4 N H e4 A Q q => iteT (q _ F4 H (Same.refl _) A (.bl true))
  | false => exact fun F4 N H e4 A Q q => iteF (((h2 rfl).up e1) F4 N H e4 A Q q)
theorem r_not (h : Run (ta σ) F L (Dt K (.bool a))) : Run (tNotV ta σ) F L (Dt K (.bool (!a))) := run_bind (k := ta σ) h fun x F1 e1 hx => by
  cases hx
  exact run_ex a (run_and (fun _ _ _ _ _ => rfl) (run_ret fun _ _ => .bl _))
theorem r_if (h : Run (tt σ) F L (Eqv b)) (h1 : b = true → Run (ta σ) F L R) (h2 : b = false → Run (tb σ) F L R) : Run (tIf tt ta tb σ) F L R := run_bind (k := tt σ) h fun x F1 e1 hx => by
  cases hx
  cases b with
  | true => exact fun F4 N H e4 A Q q => iteT (((h1 rfl).up e1) F4 N H e4 A Q q)
  | false => exact fun F4 N H e4 A Q q => iteF (((h2 rfl).up e1) F4 N H e4 A Q q)
theorem r_is {d e : PyData} (h : Run (te σ) F L (Dt K d)) (q : d = e) : Run (te σ) F L (Dt K e) := q ▸ h
end

/-! ### promises -/
/-- a def that leaves all as it is: from arguments that say Rs it hands back what says R -/
def SpF {γ : Type} (pre : γ → Prop) (Rs : γ → List VP) (R : γ → VP) : Sp := fun vs H Q _ => ∃ g F N, pre g ∧ At F N H ∧ Each (Rs g) vs F ∧ ∀ v F' H', Same F F' → At F' N H' → R g v F' → Q v H'
section
variable {σ : L2.St} {F : Hp} {L : Cells} {γ : Type} {pre : γ → Prop} {Rs : γ → List VP} {R : γ → VP} {t : TA} {E : XK}
theorem sp_run {g : γ} (hp : pre g) {vs : List V} (h : Each (Rs g) vs F) [MonoL (Rs g)] : Run (fun H Q => SpF pre Rs R vs H Q E) F L (R g) := fun F1 N H e A Q q =>
  ⟨g, F1, L ++ N, hp, A, MonoL.mono _ _ _ e h, fun v F2 H2 e2 A2 r => q v F2 H2 e2 A2 r⟩
theorem r_call (g : γ) (hp : pre g) [MonoL (Rs g)] (h : Run (t σ) F L (Each (Rs g))) : Run (tCall (SpF pre Rs R) [] E t σ) F L (R g) := run_bind (k := t σ) h fun vs F1 e1 hv => by
  have := sp_run (R := R) (E := E) (L := L) hp hv
  rw [← List.append_nil vs] at this
  exact this
end

/-! ### statements -/
def RunS (t : TS) (σ : L2.St) (F : Hp) (L : Cells) (Nx : L2.St → Hp → Cells → Prop) (Rt : VP) : Prop :=
  ∀ F1 N H, Same F F1 → At F1 (L ++ N) H → ∀ D : Ends, (∀ σ' F' L' H', Same F1 F' → At F' (L' ++ N) H' → Nx σ' F' L' → D.nx σ' H') → (∀ v F' H', Same F1 F' → At F' N H' → Rt v F' → D.rt v H') → t D σ H
section
variable {K : PySem.W.Frag} {σ : L2.St} {F : Hp} {L : Cells} {Nx Mid : L2.St → Hp → Cells → Prop} {Rt R : VP} {t u : TS} {te ta tb : TE} {tc : TT} {i j : Nat} {b : Bool}
theorem RunS.up {F1 : Hp} (h : RunS t σ F L Nx Rt) (e : Same F F1) : RunS t σ F1 L Nx Rt := fun F2 N H e2 A D q r => h F2 N H (e.trans e2) A D q r
theorem s_seq (h : RunS t σ F L Mid Rt) (h2 : ∀ σ' F' L', Same F F' → Mid σ' F' L' → RunS u σ' F' L' Nx Rt) : RunS (tSeq t u) σ F L Nx Rt := fun F1 N H e A D q r =>
  h F1 N H e A { D with nx := u D } (fun σ' F' L' H' e' A' m => h2 σ' F' L' (e.trans e') m F' N H' (Same.refl _) A' D (fun σ2 F2 L2 H2 e2 A2 n => q σ2 F2 L2 H2 (e'.trans e2) A2 n) fun v F2 H2 e2 A2 n => r v F2 H2 (e'.trans e2) A2 n) r
theorem s_next (h : ∀ F1, Same F F1 → Nx σ F1 L) : RunS tNext σ F L Nx Rt := fun F1 N H e A D q r => q σ F1 L H (Same.refl _) A (h F1 e)
theorem s_set (h : Run (te σ) F L R) (k : ∀ v F1, Same F F1 → R v F1 → Nx (σ.set i (some v)) F1 L) : RunS (tAsg te (gName i)) σ F L Nx Rt := fun F1 N H e A D q r =>
  h F1 N H e A _ fun v F2 H2 e2 A2 hv => q _ F2 L H2 e2 A2 (k v F2 (e.trans e2) hv)
theorem q_set (h : Run (te σ) F L R) (k : ∀ v F1, Same F F1 → R v F1 → RunS u (σ.set i (some v)) F1 L Nx Rt) : RunS (tSeq (tAsg te (gName i)) u) σ F L Nx Rt := fun F1 N H e A D q r =>
  h F1 N H e A _ fun v F2 H2 e2 A2 hv => k v F2 (e.trans e2) hv F2 N H2 (Same.refl _) A2 D (fun σ3 F3 L3 H3 e3 A3 n => q σ3 F3 L3 H3 (e2.trans e3) A3 n) fun w F3 H3 e3 A3 n => r w F3 H3 (e2.trans e3) A3 n
theorem s_ret (h : Run (te σ) F L Rt) : RunS (tRet te) σ F L Nx Rt := fun F1 N H e A D q r => h F1 N H e A _ fun v F2 H2 e2 A2 hv => r v F2 H2 e2 A2.drop hv
theorem s_retN (h : ∀ F1, Same F F1 → Rt .non F1) : RunS tRetN σ F L Nx Rt := fun F1 N H e A D q r => r .non F1 H (Same.refl _) A.drop (h F1 e)
theorem s_drop (h : Run (te σ) F L R) (k : ∀ F1, Same F F1 → Nx σ F1 L) : RunS (tDrop te) σ F L Nx Rt := fun F1 N H e A D q r =>
  h F1 N H e A _ fun v F2 H2 e2 A2 hv => q _ F2 L H2 e2 A2 (k F2 (e.trans e2))
theorem q_drop (h : Run (te σ) F L R) (k : ∀ F1, Same F F1 → RunS u σ F1 L Nx Rt) : RunS (tSeq (tDrop te) u) σ F L Nx Rt := s_seq (Mid := fun σ' F' L' => σ' = σ ∧ L' = L) (s_drop h fun _ _ => ⟨rfl, rfl⟩) fun σ' F' L' e ⟨h1, h2⟩ => by
  subst h1 h2
  exact k F' e
theorem s_if (h : Run (tc σ) F L (Eqv b)) (h1 : b = true → RunS t σ F L Nx Rt) (h2 : b = false → RunS u σ F L Nx Rt) : RunS (tIfS tc t u) σ F L Nx Rt := fun F1 N H e A D q r =>
  h F1 N H e A _ fun c F2 H2 e2 A2 hc => by
    cases hc
    cases b with
    | true => exact iteT (h1 rfl F2 N H2 (e.trans e2) A2 D (fun σ3 F3 L3 H3 e3 A3 n => q σ3 F3 L3 H3 (e2.trans e3) A3 n) fun w F3 H3 e3 A3 n => r w F3 H3 (e2.trans e3) A3 n)
    | false => exact iteF (h2 rfl F2 N H2 (e.trans e2) A2 D (fun σ3 F3 L3 H3 e3 A3 n => q σ3 F3 L3 H3 (e2.trans e3) A3 n) fun w F3 H3 e3 A3 n => r w F3 H3 (e2.trans e3) A3 n)
/-- if c: (a return, or on) ; then u -/
theorem q_if {w : TS} (h : Run (tc σ) F L (Eqv b)) (h1 : b = true → RunS (tSeq t w) σ F L Nx Rt) (h2 : b = false → RunS (tSeq u w) σ F L Nx Rt) : RunS (tSeq (tIfS tc t u) w) σ F L Nx Rt := fun F1 N H e A D q r =>
  h F1 N H e A _ fun c F2 H2 e2 A2 hc => by
    cases hc
    cases b with
    | true => exact iteT (h1 rfl F2 N H2 (e.trans e2) A2 D (fun σ3 F3 L3 H3 e3 A3 n => q σ3 F3 L3 H3 (e2.trans e3) A3 n) fun w F3 H3 e3 A3 n => r w F3 H3 (e2.trans e3) A3 n)
    | false => exact iteF (h2 rfl F2 N H2 (e.trans e2) A2 D (fun σ3 F3 L3 H3 e3 A3 n => q σ3 F3 L3 H3 (e2.trans e3) A3 n) fun w F3 H3 e3 A3 n => r w F3 H3 (e2.trans e3) A3 n)
theorem q_next (h : RunS u σ F L Nx Rt) : RunS (tSeq tNext u) σ F L Nx Rt := h
theorem q_ret (h : Run (te σ) F L Rt) : RunS (tSeq (tRet te) u) σ F L Nx Rt := fun F1 N H e A D q r => h F1 N H e A _ fun v F2 H2 e2 A2 hv => r v F2 H2 e2 A2.drop hv
theorem RunS.weak {Nx' : L2.St → Hp → Cells → Prop} (h : RunS t σ F L Nx Rt) (hn : ∀ σ' F' L', Same F F' → Nx σ' F' L' → Nx' σ' F' L') : RunS t σ F L Nx' Rt := fun F1 N H e A D q r =>
  h F1 N H e A D (fun σ' F' L' H' e' A' n => q σ' F' L' H' e' A' (hn σ' F' L' (e.trans e') n)) r
/-- the cells in another order -/
theorem RunS.perm {L' : Cells} (h : RunS t σ F L' Nx Rt) (p : L.Perm L') : RunS t σ F L Nx Rt := fun F1 N H e A D q r => h F1 N H e (A.perm (List.Perm.append_right N p)) D q r
/-- a cell stays from now on -/
theorem RunS.keep {a : Addr} {o : HO} (h : F a = none → RunS t σ (upd F a o) L Nx Rt) : RunS t σ F ((a, o) :: L) Nx Rt := fun F1 N H e A D q r => by
  have A1 : At F1 ((a, o) :: (L ++ N)) H := A
  have ha : F a = none := e.free A1.off1
  refine h ha (upd F1 a o) N H (fun c v z => ?_) A1.keep D (fun σ' F' L' H' e' A' n => q σ' F' L' H' ((same_new A1.off1).trans e') A' n) fun v F' H' e' A' n => r v F' H' ((same_new A1.off1).trans e') A' n
  by_cases hc : c = a
  · rw [hc, upd_same] at z ⊢; exact z
  · rw [upd_ne hc] at z ⊢; exact e c v z
/-! lists of one's own -/
/-- x = [..]: a list of one's own -/
theorem q_new {Rs : List VP} {ta : TA} [MonoL Rs] (h : Run (ta σ) F L (Each Rs)) (hl : Rs.length ≤ 100000) (k : ∀ p vs F1, Same F F1 → F1 p = none → Each Rs vs F1 → RunS u (σ.set i (some (.ref p))) F1 ((p, .lst vs) :: L) Nx Rt) :
    RunS (tSeq (tAsg (tLst ta) (gName i)) u) σ F L Nx Rt := fun F1 N H e A D q r =>
  h F1 N H e A _ fun vs F2 H2 e2 A2 hv => ⟨len_ok (by rw [each_length hv]; exact hl), fun p hp =>
    k p vs F2 (e.trans e2) (A2.free hp) hv F2 N _ (Same.refl _) (A2.cell hp) D (fun σ3 F3 L3 H3 e3 A3 n => q σ3 F3 L3 H3 (e2.trans e3) A3 n) fun w F3 H3 e3 A3 n => r w F3 H3 (e2.trans e3) A3 n⟩
/-- l.append(e), l a list of one's own -/
theorem q_app {l : Addr} {xs : List V} (hl : Run (ta σ) F ((l, .lst xs) :: L) (Eqv (.ref l))) (h : Run (te σ) F ((l, .lst xs) :: L) R) (hz : xs.length < 100000)
    (k : ∀ v F1, Same F F1 → R v F1 → RunS u σ F1 ((l, .lst (xs ++ [v])) :: L) Nx Rt) : RunS (tSeq (tDrop (tBM K "list" rAppend ta (tCons te tNil))) u) σ F ((l, .lst xs) :: L) Nx Rt := fun F1 N H e A D q r =>
  hl F1 N H e A _ fun v F2 H2 e2 A2 hv => by
    cases hv
    refine ⟨.inl ⟨rfl, xs, .inl (.inl (At.on1 A2))⟩, ?_⟩
    refine h F2 N H2 (e.trans e2) A2 _ fun v F3 H3 e3 A3 hv => ⟨l, xs, v, rfl, rfl, At.on1 A3, len_lt hz, ?_⟩
    exact k v F3 ((e.trans e2).trans e3) hv F3 N _ (Same.refl _) (At.put A3) D (fun σ4 F4 L4 H4 e4 A4 n => q σ4 F4 L4 H4 ((e2.trans e3).trans e4) A4 n) fun w F4 H4 e4 A4 n => r w F4 H4 ((e2.trans e3).trans e4) A4 n
theorem s_app {l : Addr} {xs : List V} (hl : Run (ta σ) F ((l, .lst xs) :: L) (Eqv (.ref l))) (h : Run (te σ) F ((l, .lst xs) :: L) R) (hz : xs.length < 100000)
    (k : ∀ v F1, Same F F1 → R v F1 → Nx σ F1 ((l, .lst (xs ++ [v])) :: L)) : RunS (tDrop (tBM K "list" rAppend ta (tCons te tNil))) σ F ((l, .lst xs) :: L) Nx Rt := fun F1 N H e A D q r =>
  hl F1 N H e A _ fun v F2 H2 e2 A2 hv => by
    cases hv
    refine ⟨.inl ⟨rfl, xs, .inl (.inl (At.on1 A2))⟩, ?_⟩
    refine h F2 N H2 (e.trans e2) A2 _ fun v F3 H3 e3 A3 hv => ⟨l, xs, v, rfl, rfl, At.on1 A3, len_lt hz, ?_⟩
    exact q _ F3 _ _ (e2.trans e3) (At.put A3) (k v F3 ((e.trans e2).trans e3) hv)
end

/-! ### loops -/
/-- the iterator gives things that say Rs, one behind the other -/
def Seqs (J : It) (Rs : List VP) (F1 : Hp) : Prop := ∃ G Y, Walk J Rs.length G Y ∧ (∀ F2 L H, Same F1 F2 → At F2 L H → G H) ∧
  (∀ F2 L H i x H', Same F1 F2 → At F2 L H → i < Rs.length → Y i H x H' → ∃ F3 R, Same F2 F3 ∧ At F3 L H' ∧ Rs[i]? = some R ∧ R x F3)
section
variable {K : PySem.W.Frag} {σ : L2.St} {F : Hp} {L : Cells} {Rs : List VP} {te : TE} {t : TA} {i j : Nat}
theorem each_at : ∀ {Rs : List VP} {vs : List V} {F : Hp} {i : Nat} {x : V}, Each Rs vs F → vs[i]? = some x → ∃ R, Rs[i]? = some R ∧ R x F
  | [], [], _, _, _, _, e => by simp at e
  | R :: Rs, v :: vs, F, 0, w, h, e => by
    have e' : v = w := by simpa using e
    subst e'
    exact ⟨R, rfl, h.1⟩
  | R :: Rs, v :: vs, F, i + 1, w, h, e => by
    obtain ⟨y, h1, h2⟩ := each_at (Rs := Rs) (vs := vs) (i := i) h.2 (by simpa using e)
    exact ⟨y, by simpa using h1, h2⟩
  | [], _ :: _, _, _, _, h, _ => h.elim
  | _ :: _, [], _, _, _, h, _ => h.elim
theorem seqs_tup {a : Addr} {vs : List V} {F1 : Hp} [MonoL Rs] (h : SqT K F1 a vs) (hv : Each Rs vs F1) : Seqs (Itt K a) Rs F1 := by
  rw [Seqs, ← each_length hv]
  refine ⟨_, _, walk_tup, fun F2 L H e A => sqT_up (e.trans A.ex) h, fun F2 L H i x H' e A hi y => ?_⟩
  obtain ⟨rfl, hx⟩ := y
  obtain ⟨R, h1, h2⟩ := each_at (MonoL.mono _ _ _ e hv) hx
  exact ⟨F2, R, Same.refl _, A, h1, h2⟩
theorem seqs_lst {a : Addr} {vs : List V} {F1 : Hp} [MonoL Rs] (h : SqL K F1 a vs) (hv : Each Rs vs F1) : Seqs (Itl K a) Rs F1 := by
  rw [Seqs, ← each_length hv]
  refine ⟨_, _, walk_list, fun F2 L H e A => sqL_up (e.trans A.ex) h, fun F2 L H i x H' e A hi y => ?_⟩
  obtain ⟨rfl, hx⟩ := y
  obtain ⟨R, h1, h2⟩ := each_at (MonoL.mono _ _ _ e hv) hx
  exact ⟨F2, R, Same.refl _, A, h1, h2⟩
theorem seqs_range {n : Nat} {F1 : Hp} : Seqs (Itr 0 n) ((List.range n).map fun i => Dt K (.int (i : Nat))) F1 := by
  rw [Seqs, List.length_map, List.length_range]
  refine ⟨_, _, walk_range, fun F2 L H e A => True.intro, fun F2 L H i x H' e A hi y => ?_⟩
  obtain ⟨rfl, rfl⟩ := y
  refine ⟨F2, Dt K (.int (i : Nat)), Same.refl _, A, by simp [hi], ?_⟩
  show Dp K F2 (.int (0 + (i : Int))) (.int (i : Nat))
  rw [Int.zero_add]
  exact .int _
theorem i_tup [MonoL Rs] (h : Run (te σ) F L (Tp K Rs)) : Run (iTup K te σ) F L (fun J F1 => Seqs J Rs F1) := run_bind (k := te σ) h fun v F1 e1 hv => by
  obtain ⟨a, vs, rfl, hs, hr⟩ := hv
  exact run_ex a (run_and (fun _ _ _ _ _ => rfl) (run_and (fun F2 N H e A => ⟨vs, sqT_up (e.trans A.ex) hs⟩) (run_ret fun F2 e => seqs_tup (sqT_up e hs) (MonoL.mono _ _ _ e hr))))
theorem i_lst [MonoL Rs] (h : Run (te σ) F L (Ls K Rs)) : Run (iList K te σ) F L (fun J F1 => Seqs J Rs F1) := run_bind (k := te σ) h fun v F1 e1 hv => by
  obtain ⟨a, vs, rfl, hs, hr⟩ := hv
  exact run_ex a (run_and (fun _ _ _ _ _ => rfl) (run_and (fun F2 N H e A => ⟨vs, sqL_up (e.trans A.ex) hs⟩) (run_ret fun F2 e => seqs_lst (sqL_up e hs) (MonoL.mono _ _ _ e hr))))
theorem i_range {n : Int} (h : Run (t σ) F L (Each [Dt K (.int n)])) (hn : n ≤ 100000) (h0 : -100000 ≤ n) : Run (iRng1 t σ) F L (fun J F1 => Seqs J ((List.range n.toNat).map fun i => Dt K (.int (i : Nat))) F1) := run_bind (k := t σ) h fun vs F1 e1 hv => by
  obtain ⟨v, rfl, hv1⟩ := each1 hv
  · obtain rfl := dt_int hv1
    exact run_ex n (run_and (fun _ _ _ _ _ => rfl) (run_and (fun _ _ _ _ _ => by omega) (run_and (fun _ _ _ _ _ => by omega) (run_ret fun F2 e => seqs_range))))
/-- a target takes what comes, then the rest -/
def bindG (g : TG) (x : V) (tb : TS) : TS := fun D σ H => g x σ H fun σ2 H2 => tb D σ2 H2
variable {Nx : L2.St → Hp → Cells → Prop} {Rt : VP} {tb u : TS} {g : TG} {wi : TI}
theorem g_name {x : V} (h : RunS tb (σ.set j (some x)) F L Nx Rt) : RunS (bindG (gName j) x tb) σ F L Nx Rt := h
theorem g_pair {j1 j2 : Nat} {x : V} {R1 R2 : VP} (hx : Tp K [R1, R2] x F) [Mono R1] [Mono R2] (h : ∀ v1 v2, R1 v1 F → R2 v2 F → RunS tb ((σ.set j1 (some v1)).set j2 (some v2)) F L Nx Rt) :
    RunS (bindG (gTup K 2 (gCons (gName j1) (gCons (gName j2) gNil))) x tb) σ F L Nx Rt := fun F1 N H e A D q r => by
  obtain ⟨a, vs, rfl, hs, hr⟩ := hx
  obtain ⟨v1, v2, rfl, h1, h2⟩ := each2 hr
  exact ⟨a, [v1, v2], rfl, sqT_up (e.trans A.ex) hs, rfl, v1, [v2], rfl, v2, [], rfl, rfl, h v1 v2 h1 h2 F1 N H e A D q r⟩
/-- for: Inv by the turn, the slots, what stays, the cells -/
theorem s_for (Inv : Nat → L2.St → Hp → Cells → Prop) (h : Run (wi σ) F L (fun J F1 => Seqs J Rs F1)) (h0 : ∀ F1, Same F F1 → Inv 0 σ F1 L)
    (hup : ∀ i σ' F1 F2 L', Same F1 F2 → Inv i σ' F1 L' → Inv i σ' F2 L')
    (hs : ∀ i R x σ' F' L', Same F F' → Rs[i]? = some R → R x F' → Inv i σ' F' L' → RunS (bindG g x tb) σ' F' L' (Inv (i + 1)) Rt)
    (hd : ∀ σ' F' L', Same F F' → Inv Rs.length σ' F' L' → Nx σ' F' L') : RunS (tFor wi g tb) σ F L Nx Rt := fun F1 N H e A D q r =>
  h F1 N H e A _ fun J F2 H2 e2 A2 ⟨G, Y, wk, hG, hY⟩ => by
    refine for_it wk (D := D) (fun i σ' H' => ∃ F' L', Same F2 F' ∧ At F' (L' ++ N) H' ∧ Inv i σ' F' L') ⟨F2, L, Same.refl _, A2, h0 F2 (e.trans e2)⟩ (fun i σ' H' _ ⟨F', L', e', A', _⟩ => hG F' (L' ++ N) H' e' A') ?_ ?_
    · rintro i x σ' H3 H4 hi ⟨F', L', e', A', I⟩ y
      obtain ⟨F3, R, e3, A3, hR, hx⟩ := hY F' (L' ++ N) H3 i x H4 e' A' hi y
      exact hs i R x σ' F3 L' (((e.trans e2).trans e').trans e3) hR hx (hup i σ' F' F3 L' e3 I) F3 N H4 (Same.refl _) A3 { D with nx := fun σ' H' => ∃ F' L', Same F2 F' ∧ At F' (L' ++ N) H' ∧ Inv (i + 1) σ' F' L', ct := fun σ' H' => ∃ F' L', Same F2 F' ∧ At F' (L' ++ N) H' ∧ Inv (i + 1) σ' F' L', bk := D.nx }
        (fun σ5 F5 L5 H5 e5 A5 n => ⟨F5, L5, (e'.trans e3).trans e5, A5, n⟩) fun w F5 H5 e5 A5 n => r w F5 H5 (((e2.trans e').trans e3).trans e5) A5 n
    · rintro σ' H3 ⟨F', L', e', A', I⟩
      exact q σ' F' L' H3 (e2.trans e') A' (hd σ' F' L' ((e.trans e2).trans e') I)
theorem q_for (Inv : Nat → L2.St → Hp → Cells → Prop) (h : Run (wi σ) F L (fun J F1 => Seqs J Rs F1)) (h0 : ∀ F1, Same F F1 → Inv 0 σ F1 L)
    (hup : ∀ i σ' F1 F2 L', Same F1 F2 → Inv i σ' F1 L' → Inv i σ' F2 L')
    (hs : ∀ i R x σ' F' L', Same F F' → Rs[i]? = some R → R x F' → Inv i σ' F' L' → RunS (bindG g x tb) σ' F' L' (Inv (i + 1)) Rt)
    (hd : ∀ σ' F' L', Same F F' → Inv Rs.length σ' F' L' → RunS u σ' F' L' Nx Rt) : RunS (tSeq (tFor wi g tb) u) σ F L Nx Rt :=
  s_seq (s_for (Nx := fun σ' F' L' => Inv Rs.length σ' F' L') Inv h h0 hup hs fun _ _ _ _ i => i) fun σ' F' L' e i => hd σ' F' L' e i
/-- while: W by a number that falls -/
theorem s_while {tc : TT} (W : Nat → L2.St → Hp → Cells → Prop) (m0 : Nat) (h0 : W m0 σ F L) (hup : ∀ m σ' F1 F2 L', Same F1 F2 → W m σ' F1 L' → W m σ' F2 L')
    (hs : ∀ m σ' F' L', Same F F' → W m σ' F' L' → ∃ b, Run (tc σ') F' L' (Eqv b) ∧ (b = true → RunS tb σ' F' L' (fun σ2 F2 L2 => ∃ m', m' < m ∧ W m' σ2 F2 L2) Rt) ∧ (b = false → Nx σ' F' L'))
    (hnx : ∀ σ' F1 F2 L', Same F1 F2 → Nx σ' F1 L' → Nx σ' F2 L') : RunS (tWhile tc tb) σ F L Nx Rt := fun F1 N H e A D q r => by
  refine ⟨fun m σ' H' => ∃ F' L', Same F1 F' ∧ At F' (L' ++ N) H' ∧ W m σ' F' L', ⟨m0, F1, L, Same.refl _, A, hup _ _ _ _ _ e h0⟩, ?_⟩
  rintro m σ' H' ⟨F', L', e', A', w⟩
  obtain ⟨b, hb, h1, h2⟩ := hs m σ' F' L' (e.trans e') w
  refine hb F' N H' (Same.refl _) A' _ fun c F2 H2 e2 A2 hc => ?_
  cases hc
  cases b with
  | true =>
    refine iteT ⟨fun σ2 H2 => ∃ F2 L2 m', m' < m ∧ Same F1 F2 ∧ At F2 (L2 ++ N) H2 ∧ W m' σ2 F2 L2, fun σ2 H2 ⟨F2, L2, m', hm, e3, A3, w3⟩ => ⟨m', hm, F2, L2, e3, A3, w3⟩, ?_⟩
    exact h1 rfl F2 N H2 e2 A2 _ (fun σ3 F3 L3 H3 e3 A3 ⟨m', hm, w3⟩ => ⟨F3, L3, m', hm, (e'.trans e2).trans e3, A3, w3⟩) fun v F3 H3 e3 A3 n => r v F3 H3 ((e'.trans e2).trans e3) A3 n
  | false => exact iteF (q σ' F2 L' H2 (e'.trans e2) A2 (hnx _ _ _ _ e2 (h2 rfl)))
theorem q_while {tc : TT} (W : Nat → L2.St → Hp → Cells → Prop) (m0 : Nat) (h0 : W m0 σ F L) (hup : ∀ m σ' F1 F2 L', Same F1 F2 → W m σ' F1 L' → W m σ' F2 L')
    (hs : ∀ m σ' F' L', Same F F' → W m σ' F' L' → ∃ b, Run (tc σ') F' L' (Eqv b) ∧ (b = true → RunS tb σ' F' L' (fun σ2 F2 L2 => ∃ m', m' < m ∧ W m' σ2 F2 L2) Rt) ∧ (b = false → RunS u σ' F' L' Nx Rt)) : RunS (tSeq (tWhile tc tb) u) σ F L Nx Rt :=
  s_seq (Mid := fun σ' F' L' => RunS u σ' F' L' Nx Rt) (s_while W m0 h0 hup hs fun σ' F1 F2 L' e n => n.up e) fun _ _ _ _ n => n

/-! ### comprehensions -/
/-- a target that takes what comes; then the slots are such -/
def RunG (g : TG) (x : V) (σ : L2.St) (F : Hp) (L : Cells) (P : L2.St → Hp → Prop) : Prop := ∀ F1 N H, Same F F1 → At F1 (L ++ N) H → ∀ Q : L2.St → Hp → Prop, (∀ σ2 F2 H2, Same F1 F2 → At F2 (L ++ N) H2 → P σ2 F2 → Q σ2 H2) → g x σ H Q
theorem rg_name {x : V} {P : L2.St → Hp → Prop} (h : ∀ F1, Same F F1 → P (σ.set j (some x)) F1) : RunG (gName j) x σ F L P := fun F1 N H e A Q q => q _ F1 H (Same.refl _) A (h F1 e)
theorem rg_pair {j1 j2 : Nat} {x : V} {R1 R2 : VP} {P : L2.St → Hp → Prop} [Mono R1] [Mono R2] (hx : Tp K [R1, R2] x F) (h : ∀ v1 v2 F1, Same F F1 → R1 v1 F1 → R2 v2 F1 → P ((σ.set j1 (some v1)).set j2 (some v2)) F1) :
    RunG (gTup K 2 (gCons (gName j1) (gCons (gName j2) gNil))) x σ F L P := fun F1 N H e A Q q => by
  obtain ⟨a, vs, rfl, hs, hr⟩ := hx
  obtain ⟨v1, v2, rfl, h1, h2⟩ := each2 hr
  exact ⟨a, [v1, v2], rfl, sqT_up (e.trans A.ex) hs, rfl, v1, [v2], rfl, v2, [], rfl, rfl, q _ F1 H (Same.refl _) A (h v1 v2 F1 e (Mono.go h1 e) (Mono.go h2 e))⟩
theorem filter_take {ι : Type} {f : ι → Bool} {xs : List ι} {i : Nat} {x : ι} (h : xs[i]? = some x) : (xs.take (i + 1)).filter f = (xs.take i).filter f ++ (if f x then [x] else []) := by
  obtain ⟨hl, hx⟩ := List.getElem?_eq_some_iff.mp h
  rw [List.take_succ_eq_append_getElem hl, List.filter_append, hx]
  congr 1
  rw [List.filter_cons]
  cases f x <;> simp
theorem r_lcG {ι : Type} {Ri Re : ι → VP} {f : ι → Bool} {xs : List ι} {tt : TT} {te : TE} {vs : List Nat} [∀ x, Mono (Re x)] (h : Run (wi σ) F L (fun J F1 => Seqs J (xs.map Ri) F1)) (hz : xs.length ≤ 40000)
    (ht : ∀ x v F1, Same F F1 → x ∈ xs → Ri x v F1 → RunG g v (wipe σ vs) F1 L fun σ2 F2 => wipe σ2 vs = wipe σ vs ∧ Run (tt σ2) F2 L (Eqv (f x)) ∧ (f x = true → Run (te σ2) F2 L (Re x))) :
    Run (tLc wi g tt te vs σ) F L (Ln ((xs.filter f).map Re)) := fun F1 N H e A Q q =>
  h F1 N H e A _ fun J F2 H2 e2 A2 ⟨G, Y, wk, hG, hY⟩ D hD => by
    rw [List.length_map] at wk
    refine lc_it wk (Qd := fun H => Q (.ref D) H) (fun i H' => ∃ F' acc, Same F2 F' ∧ At F' ((D, .lst acc) :: (L ++ N)) H' ∧ Each (((xs.take i).filter f).map Re) acc F') ⟨F2, [], Same.refl _, A2.cell hD, by simp [Each]⟩
      (fun i H' _ ⟨F', acc, e', A', _⟩ => hG F' _ H' e' A') ?_ ?_
    · rintro i x H3 H4 hi ⟨F', acc, e', A', hacc⟩ y
      obtain ⟨F3, R, e3, A3, hR, hx⟩ := hY F' _ H3 i x H4 e' A' (by rw [List.length_map]; exact hi) y
      rw [List.getElem?_map] at hR
      have hxi : xs[i]? = some xs[i] := List.getElem?_eq_getElem hi
      rw [hxi] at hR
      cases hR
      have P0 : ((D, HO.lst acc) :: (L ++ N)).Perm (L ++ ((D, .lst acc) :: N)) := List.perm_middle.symm
      have hlen : acc.length ≤ xs.length := by
        rw [each_length hacc, List.length_map]
        exact Nat.le_trans (List.length_filter_le _ _) (List.length_take_le' _ _)
      refine ht xs[i] x F3 (((e.trans e2).trans e').trans e3) (List.getElem_mem hi) hx F3 ((D, .lst acc) :: N) H4 (Same.refl _) (A3.perm P0) _ fun σ2 F4 H5 e4 A4 ⟨hw, hb, hv⟩ => ⟨hw, ?_⟩
      refine hb F4 ((D, .lst acc) :: N) H5 (Same.refl _) A4 _ fun b F5 H6 e5 A5 hb5 => ?_
      cases hb5
      cases hf : f xs[i] with
      | true =>
        refine iteT ?_
        refine (hv hf).up e5 F5 ((D, .lst acc) :: N) H6 (Same.refl _) A5 _ fun y F6 H7 e6 A6 hy => ?_
        have A7 := A6.perm P0.symm
        refine ⟨acc, A7.on1, len_lt (by omega), F6, acc ++ [y], (((e'.trans e3).trans e4).trans e5).trans e6, A7.put, ?_⟩
        rw [filter_take hxi, hf, if_pos rfl, List.map_append]
        exact each_app (Mono.go hacc (((e3.trans e4).trans e5).trans e6)) ⟨hy, True.intro⟩
      | false =>
        refine iteF ⟨F5, acc, ((e'.trans e3).trans e4).trans e5, A5.perm P0.symm, ?_⟩
        rw [filter_take hxi, hf, if_neg Bool.false_ne_true, List.append_nil]
        exact Mono.go hacc ((e3.trans e4).trans e5)
    · rintro H3 ⟨F', acc, e', A', hacc⟩
      rw [List.take_length] at hacc
      have A1 : At F' ((D, .lst acc) :: (L ++ N)) H3 := A'
      exact q (.ref D) (upd F' D (.lst acc)) H3 ((e2.trans e').trans (same_new A1.off1)) A1.keep ⟨D, acc, rfl, upd_same, Mono.go hacc (same_new A1.off1)⟩
end
end Rs

/-! Rs2: enumerate of a tuple, sets of a list, .. at the level of the machine. -/
namespace Rs
open PySem PySem.Spec PyProof.Rows L2
/-! ### enumerate(tuple) -/
set_option maxHeartbeats 1000000 in
theorem enum_new_tup (l : Addr) (items : Array Value) (n : Nat) (dct : Option Addr) (sl : Array (Option Value)) :
    Meets (Builtin.«enumerate.__new__» ⟨[.type "enumerate", .ref l], []⟩) (fun _ R s => s.heap.get? l = some { cls := .type "tuple", dict := dct, data := .seq items n, slots := sl } ∧
      R (.ok (.ret (.ref (s.heap.push { cls := .type "tuple_iterator", data := .fields #[.ref l, .int 0 0] }).objs.size)))
        { s with heap := (s.heap.push { cls := .type "tuple_iterator", data := .fields #[.ref l, .int 0 0] }).push { cls := .type "enumerate", data := .fields #[.none, .bool false, .ref s.heap.objs.size, rawInt 0, .none, .none] } }) :=
  .of_wp fun prog w A R s h => by
    obtain ⟨hp, g, d, tk, os⟩ := s
    obtain ⟨hl, h⟩ := h
    have hsub := sub_enumerate
    have isT : Heap.IsTuple (Shared.heap ⟨hp, g, d, tk, os⟩) l items := ⟨_, hl, rfl, n, rfl⟩
    wp_walk using AutoSeq1.wpAny_loadPart' hl
    refine wpAny_stack_any fun st => wpAny_pure ?_
    split
    · rename_i c _ _ _ _ _
      cases (c == Value.type "enumerate")
      all_goals
        wp_walk using AutoSeq1.wpAny_loadPart' hl, wpAny_pyIter_tuple isT
        exact ⟨_, rfl, h⟩
    · wp_walk using AutoSeq1.wpAny_loadPart' hl, wpAny_pyIter_tuple isT
      exact ⟨_, rfl, h⟩
section
variable {prog : Program} {w : World} {A : Around} {E : Value → Shared → Prop} {s : Shared}
theorem enum_tup {l : Addr} {items : Array Value} {Q : Value → Shared → Prop} (hL : s.heap.IsTuple l items)
    (h : ∀ h', IsEnum h' (s.heap.objs.size + 1) s.heap.objs.size 0 .none → h'.IsTupleIter s.heap.objs.size l 0 → h'.objs.size = s.heap.objs.size + 2 →
      (∀ b o, s.heap.get? b = some o → h'.get? b = some o) → Q (.ref (s.heap.objs.size + 1)) { s with heap := h' }) :
    wpAny (model prog w) A (call (.type "enumerate") [.ref l]) Q E s := by
  obtain ⟨⟨c, dct, dt, sl⟩, hl, hc, n, hd⟩ := hL
  obtain rfl : c = .type "tuple" := hc
  obtain rfl : dt = .seq items n := hd
  refine callType_new F.called_enumerate (by decide) (F.typeCall_enumerate_1 _) (F.newCall_enumerate_1 _) (fun obj => F.args_object_init_2 obj _) F.entry_enumerate_new (enum_new_tup l items n dct sl) ⟨hl, ?_⟩
  have hz : (s.heap.push { cls := .type "tuple_iterator", data := .fields #[.ref l, .int 0 0] }).objs.size = s.heap.objs.size + 1 := Heap.size_push ..
  show _ ∧ _
  rw [hz]
  have he : IsEnum ((s.heap.push { cls := .type "tuple_iterator", data := .fields #[.ref l, .int 0 0] }).push { cls := .type "enumerate", data := .fields #[.none, .bool false, .ref s.heap.objs.size, rawInt 0, .none, .none] }) (s.heap.objs.size + 1) s.heap.objs.size 0 .none := by
    have q := Heap.get?_push_size (s.heap.push { cls := .type "tuple_iterator", data := .fields #[.ref l, .int 0 0] }) (o := { cls := .type "enumerate", data := .fields #[.none, .bool false, .ref s.heap.objs.size, rawInt 0, .none, .none] }) rfl
    rw [hz] at q
    exact q
  exact ⟨⟨_, he, rfl⟩, h _ he ⟨_, Heap.get?_push_of_some _ (Heap.get?_push_size _ rfl), rfl, rfl⟩ (by rw [Heap.size_push, hz]) fun b o x => Heap.get?_push_of_some _ (Heap.get?_push_of_some _ x)⟩
end
/-- each item of the tuple at a in a new pair with its place -/
def ItEt (K : PySem.W.Frag) (a : Addr) : It :=
  ⟨fun i H => ∃ (xs : List V) (x : V), SqT K H a xs ∧ xs[i]? = some x, fun i H v H' => ∃ T x, v = .ref T ∧ H T = none ∧ H' = upd H T (.tup [.int (i : Nat), x]) ∧ ∀ xs, SqT K H a xs → xs[i]? = some x, fun i H => ∃ xs : List V, SqT K H a xs ∧ xs.length = i⟩
theorem turn_et {P : Program} {w : World} {K : PySem.W.Frag} {elts : List Expr} {kk : Nat} {tpos : Pos} (a e it : Addr) :
    Turn P w K (.Tuple elts kk tpos) (ItEt K a) [e, it] e (fun i h => (∃ old, IsEnum h e it ((i : Nat) : Int) old) ∧ h.IsTupleIter it a i ∧ e ≠ it ∧ a ≠ it ∧ a ≠ e) where
  mem := by simp
  obj := fun i h st b hb => by
    obtain ⟨⟨old, he⟩, ⟨o, ho, hc, hd⟩, _⟩ := st
    rcases (by simpa using hb : b = e ∨ b = it) with z | z
    · rw [z]; exact ⟨_, he, fun v q => nomatch q⟩
    · rw [z]; exact ⟨o, ho, fun v q => by rw [hd] at q; cases q⟩
  keep := fun i h h' st k => let ⟨⟨old, he⟩, hi, hne⟩ := st; ⟨⟨old, k e (by simp) _ he⟩, hi.at fun o q => k it (by simp) o q, hne⟩
  item := by
    intro X hP hw hK hc i pins s σ H E I hf st hg
    subst hP hw hK
    obtain ⟨⟨old, he⟩, hit, hne, hai, hae⟩ := st
    obtain ⟨xs, x, hq, hx⟩ := hg
    obtain ⟨its, rv, p, hz⟩ := I.tuple hq
    obtain ⟨u, hu, ru⟩ := rv.get hx
    have hel : e < s.heap.objs.size := Heap.lt_size he
    have hil : it < s.heap.objs.size := by obtain ⟨_, q, _⟩ := hit; exact Heap.lt_size q
    have hh : X.A.in1.handled = none := I.ok.hd hc
    have hlt : i < its.toArray.size := by
      rw [List.size_toArray]; exact (List.getElem?_eq_some_iff.mp hu).1
    have pT : s.heap.IsTuple a its.toArray := p
    refine wpAny_pyNext_enum_itemD (Draws.tuple hh it a hai its.toArray) he ⟨hit, pT⟩ hlt hne (by simp; exact ⟨hne, fun z => hae z.symm⟩) fun x' h' tk hx' ho st' hT hsz hk => ?_
    have exu : x' = u := by
      have q : its.toArray[i]? = some u := by simpa using hu
      rw [hx'] at q
      exact Option.some.inj q
    subst exu
    refine ⟨_, rfl, wpAny_letOwnedTupleGo_enum (s := { s with heap := h', toks := tk + 1 }) ho fun h'' he' sb => ?_⟩
    have hT2 : h''.get? s.heap.objs.size = some { cls := .type "tuple", data := .seq #[.int i tk, x'] } := (sb.2 _ (Nat.ne_of_gt hel)).trans hT
    have new : ObjOk X.prog X.w (upd H s.heap.objs.size (.tup [.int (i : Nat), x])) h'' s.heap.objs.size (.tup [.int (i : Nat), x]) :=
      ⟨by show 2 ≤ sizeLine; decide, [.int i tk, x'], .cons ⟨_, rfl⟩ (.cons ru .nil), ⟨_, hT2, rfl, _, rfl⟩⟩
    have I1 : Inv X pins σ (upd H s.heap.objs.size (.tup [.int (i : Nat), x])) { s with heap := h'', toks := tk + 1 } :=
      I.turnedNew (ch := [e, it]) (fun b ob hb q => (sb.2 b (fun z => hb (by simp [z]))).trans (hk b ob (fun z => hb (by simp [z])) (fun z => hb (by simp [z])) q)) hf (Nat.le_refl _) new
    refine ⟨.ref s.heap.objs.size, _, I1, rfl, ⟨_, x, rfl, I.hok.fresh (Nat.le_refl _), rfl, fun ys hy => by rw [I.tuple_inj hy hq]; exact hx⟩, ⟨⟨x', ?_⟩, st'.1.at fun o q => (sb.2 it (Ne.symm hne)).trans q, hne, hai, hae⟩, fun b hb => ?_⟩
    · rw [show ((i + 1 : Nat) : Int) = (i : Int) + 1 from by omega]
      exact he'
    · have hb' : b < s.heap.objs.size := by
        rcases (by simpa using hb : b = e ∨ b = it) with z | z
        · rw [z]; exact hel
        · rw [z]; exact hil
      rw [upd_ne (Nat.ne_of_lt hb')]
      exact (hf b hb).1
  done := by
    intro X hP hw hK hc i pins s σ H E I hf st hg
    subst hP hw hK
    obtain ⟨⟨old, he⟩, hit, hne, hai, hae⟩ := st
    obtain ⟨xs, hq, hx⟩ := hg
    obtain ⟨its, rv, p, hz⟩ := I.tuple hq
    obtain ⟨f0, f1, f2, f3, f4, f5⟩ := hf it (by simp)
    have hl := rv.length
    have hh : X.A.in1.handled = none := I.ok.hd hc
    have hi : its.toArray.size = i := by rw [List.size_toArray]; omega
    have pT : s.heap.IsTuple a its.toArray := p
    exact wpAny_pyNext_enum_endD (Draws.tuple hh it a hai its.toArray) he ⟨by rw [hi]; exact hit, pT⟩ fun h' eb => ⟨rfl, I.turned (t' := s.toks) (fun b o hb q => eb b o hb q) f0 f1 f3 f4 f5⟩
  self := fun A i s Q E st h => let ⟨⟨_, he⟩, _⟩ := st; wpAny_pyIter_enum he h
def iEnumT (K : PySem.W.Frag) (ta : TA) : TI := fun σ H R => ta σ H fun vs H1 => ∃ a xs, vs = [.ref a] ∧ SqT K H1 a xs ∧ R (ItEt K a) H1
theorem pi_enumT {X : Cx} {e : Expr} {ta : TA} {p pos tpos : Pos} {elts : List Expr} {kk : Nat} (hg : Gl X "enumerate") (hm : X.mg "enumerate" = none) (ha : PA X [e] ta) (hs : starEach [e] X.env = [(false, eval e X.env)] := by rfl) :
    PI X (.Tuple elts kk tpos) (.Call (.Name "enumerate" p) [e] [] pos) (iEnumT X.K ta) := by
  refine ⟨fun pins s σ H R I h => ?_⟩
  refine Call_ (ld_blt I hg hm boot_enumerate (PyProof.Rows.callWith_type1 (thn (ha.run pos pins s σ H _ I h) fun us s1 ⟨vs, H1, I1, r1, q1⟩ => ?_) hs rfl))
  obtain ⟨a, xs, ex, hq, q⟩ := q1
  subst ex
  obtain ⟨u, rfl, ru⟩ := r1.one
  cases (show u = Value.ref a from ru)
  obtain ⟨its, rv, p', hz⟩ := I1.tuple hq
  have pT : s1.heap.IsTuple a its.toArray := p'
  have haL : a < s1.heap.objs.size := p'.lt
  refine enum_tup pT fun h' he hit hsz hk => wpAny_pyIter_enum he ?_
  have I2 : Inv X pins σ H1 { s1 with heap := h' } := I1.kept (t' := s1.toks) hk
  refine ⟨s1.heap.objs.size + 1, [s1.heap.objs.size + 1, s1.heap.objs.size], _, _, H1, rfl, I2, turn_et a (s1.heap.objs.size + 1) s1.heap.objs.size, ⟨⟨.none, he⟩, hit, Nat.succ_ne_self _, Nat.ne_of_lt haL, Nat.ne_of_lt (Nat.lt_succ_of_lt haL)⟩, fun b hb => ?_, q⟩
  have hle : s1.heap.objs.size ≤ b := by
    rcases (by simpa using hb : b = s1.heap.objs.size + 1 ∨ b = s1.heap.objs.size) with z | z
    · rw [z]; exact Nat.le_add_right _ _
    · rw [z]; exact Nat.le_refl _
  exact I1.fpOk hle (I1.hok.fresh hle)
theorem walk_et {K : PySem.W.Frag} {a : Addr} {xs : List V} : Walk (ItEt K a) xs.length (fun H => SqT K H a xs) (YPair (fun i => some (.int (i : Nat))) (fun i => xs[i]?)) := by
  refine ⟨fun i _ hi q => ⟨xs, xs[i], q, by simp [hi]⟩, fun _ q => ⟨xs, q, rfl⟩, fun i H v H' _ q y => ?_⟩
  obtain ⟨T, x, h1, h2, h3, h4⟩ := y
  exact ⟨T, .int (i : Nat), x, h1, h2, h3, rfl, h4 xs q⟩
/-- pairs of a place and what stands there -/
def Pairs (K : PySem.W.Frag) (Rs : List VP) : List VP := Rs.mapIdx fun i R => Tp K [Dt K (.int (i : Nat)), R]
theorem seqs_et {K : PySem.W.Frag} {Rs : List VP} {a : Addr} {vs : List V} {F1 : Hp} [MonoL Rs] (h : SqT K F1 a vs) (hv : Each Rs vs F1) : Seqs (ItEt K a) (Pairs K Rs) F1 := by
  have hl : (Pairs K Rs).length = vs.length := by unfold Pairs; rw [List.length_mapIdx, each_length hv]
  rw [Seqs, hl]
  refine ⟨_, _, walk_et, fun F2 L H e A => sqT_up (e.trans A.ex) h, fun F2 L H i x H' e A hi y => ?_⟩
  obtain ⟨T, x1, x2, rfl, hT, rfl, h1, h2⟩ := y
  cases h1
  obtain ⟨R, g1, g2⟩ := each_at (MonoL.mono _ _ _ (e.trans (same_new (A.free hT))) hv) h2
  exact ⟨upd F2 T _, Tp K [Dt K (.int (i : Nat)), R], same_new (A.free hT), A.new hT, by unfold Pairs; rw [List.getElem?_mapIdx, g1]; rfl, T, _, rfl, .inl (.inl upd_same), .int _, g2, True.intro⟩
theorem i_enumT {K : PySem.W.Frag} {σ : L2.St} {F : Hp} {L : Cells} {Rs : List VP} {t : TA} [MonoL Rs] (h : Run (t σ) F L (Each [Tp K Rs])) : Run (iEnumT K t σ) F L (fun J F1 => Seqs J (Pairs K Rs) F1) := run_bind (k := t σ) h fun vs F1 e1 hv => by
  obtain ⟨v, rfl, a, ws, rfl, hs, hr⟩ := each1 hv
  · exact run_ex a (run_ex ws (run_and (fun _ _ _ _ _ => rfl) (run_and (fun F2 N H e A => sqT_up (e.trans A.ex) hs) (run_ret fun F2 e => seqs_et (sqT_up e hs) (MonoL.mono _ _ _ e hr)))))
end Rs

/-! Rs3: set(a list of ints), sorted of it. -/
namespace Rs
open PySem PySem.Spec PyProof.Rows L2
section
variable {P : Program} {w : World} {A : Around} {E : Value → Shared → Prop} {s : Shared}
/-- the heap with a fresh set at its end -/
def withSet (w : World) (h : Heap) : Heap := h.push { cls := .type "set", dict := none, data := .set #[] 0 (.fresh 0 0 (!w.params.followText "set-order")) }
set_option maxHeartbeats 3200000 in
theorem set_listI {l : Addr} {items : Array Value} (ns : List Int) {Q : Value → Shared → Prop} (hh : A.handled = none) (hl : s.heap.IsList l items) (hit : IntsAre items.toList ns) (hb : ns.length + 1 < scanBound)
    (h : ∀ (h' : Heap) (tk c : Nat), SetR w h' s.heap.objs.size (fun j => decide (j ∈ ns)) c → c ≤ ns.length → (∀ b o, s.heap.get? b = some o → h'.get? b = some o) → Q (.ref s.heap.objs.size) { s with heap := h', toks := tk }) :
    wpAny (model P w) A (call (.type "set") [.ref l]) Q E s := by
  have isz : items.size = ns.length := (Array.length_toList (xs := items)).symm.trans (IntsAre.length hit)
  obtain ⟨c0, tl0, hmro⟩ := F.called_set.mro
  have k1 := F.called_set.made
  have k2 := F.called_set.sub
  refine wpAny_call (codeAny_of_tree ?_)
  show wpAny _ _ (callAny (.type "set") _) _ _ _
  refine wpAny_pure ⟨Code.quiet_builtin _ (by decide +kernel), codeAny_builtin F.entry_type_call ?_⟩
  rw [Around.under_plain (weight_type_call_type "set" [.ref l] []) rfl]
  have k3 := F.called_set.notType
  have k4 := F.called_set.canCreate
  have k5 := F.typeCall_set_1 (.ref l)
  repeat (any_goals (first | assumption | wp_step))
  refine codeAny_mono (code_set_led1 (.ref l) (E := E) (Q₁ := fun obj s₁ => obj = .ref s.heap.objs.size ∧ s₁ = { s with heap := withSet w s.heap }) ⟨rfl, rfl⟩) fun r s₁ hr => ?_
  match r, hr with
  | .error e, hr => exact hr
  | .ok (.next), hr => exact hr.elim
  | .ok (.brk), hr => exact hr.elim
  | .ok (.cont), hr => exact hr.elim
  | .ok (.ret obj), hr =>
    obtain ⟨rfl, rfl⟩ := hr
    have atS : (withSet w s.heap).get? s.heap.objs.size = some { cls := .type "set", dict := none, data := .set #[] 0 (.fresh 0 0 (!w.params.followText "set-order")) } := Heap.get?_push_size _ rfl
    have tyS : Shared.TypeIs { s with heap := withSet w s.heap } (.ref s.heap.objs.size) "set" := ⟨_, atS, rfl⟩
    have k6 := F.called_set.init.lookup
    have k7 := F.called_set.init.bind (.ref s.heap.objs.size)
    repeat (any_goals (first | assumption | wp_step))
    refine codeAny_mono (codeAny_call_builtin (R := wants (fun r s₂ => r = .none ∧ ∃ h' tk c, s₂ = { s with heap := h', toks := tk } ∧ SetR w h' s.heap.objs.size (fun j => decide (j ∈ ns)) c ∧ c ≤ ns.length ∧
        (∀ b o, s.heap.get? b = some o → h'.get? b = some o)) E) F.called_set.init.plain F.entry_set_init (check_set_init_1 tyS ?_)) fun r₂ s₂ hr₂ => ?_
    · obtain ⟨⟨oc, od, odt, osl⟩, hol, hcl, nl, hdl⟩ := hl
      obtain rfl : oc = .type "list" := hcl
      obtain rfl : odt = .seq items nl := hdl
      have kept : ∀ b o, s.heap.get? b = some o → (withSet w s.heap).get? b = some o := fun b o e => Heap.get?_push_of_some _ e
      have hol' := kept _ _ hol
      have k8 := F.sub_list_set
      have k9 := F.sub_list_frozenset
      have k10 : (Value.type "list" == Value.type "dict") = false := by decide
      have isL : (withSet w s.heap).IsList l items := ⟨_, hol', rfl, nl, rfl⟩
      have sz1 : (withSet w s.heap).objs.size = s.heap.objs.size + 1 := Heap.size_push ..
      unfold Builtin.«set.__init__» noKeywords Builtin.Frozenset.updateFrom
      generalize hPI : pyIter = PI
      wp_walk
      subst hPI
      refine wpAny_pyIter_list isL ?_
      refine wpAny_bind (wpAny_runValue ?_)
      have lS : l < s.heap.objs.size := Heap.lt_size hol
      have hh3 : A.in1.in1.in1.handled = none := hh
      have neI : l ≠ (withSet w s.heap).objs.size := by rw [sz1]; exact Nat.ne_of_lt (Nat.lt_succ_of_lt lS)
      have nfp : s.heap.objs.size ∉ [(withSet w s.heap).objs.size, l] := by
        rw [sz1]
        simp only [List.mem_cons, List.not_mem_nil, or_false, not_or]
        exact ⟨Nat.ne_of_lt (Nat.lt_succ_self _), Nat.ne_of_gt lS⟩
      have vals : ∀ (i : Nat) (v : Value), items[i]? = some v → ∃ k t, ns[i]? = some k ∧ v = .int k t := fun i v hv => by
        have hi : i < ns.length := isz ▸ (Array.getElem?_eq_some_iff.mp hv).1
        obtain ⟨t, e⟩ := IntsAre.int_at hit i v (by rw [Array.getElem?_toList]; exact hv)
        exact ⟨ns[i], t, List.getElem?_eq_getElem hi, by rw [e, List.getD_eq_getElem?_getD, List.getElem?_eq_getElem hi]; rfl⟩
      refine set_update_ints ((Walks.list hh3 _ l neI items).toS) s.heap.objs.size nfp ns isz hb vals (items.size - 0) 0 _ (by omega) (Nat.zero_le _) ⟨⟨_, Heap.get?_push_size _ rfl, rfl, rfl⟩, (isL.push _)⟩ ?S0 ?S1
      case S0 => exact ⟨0, Nat.le_refl 0, setR_new_at (Heap.get?_push_of_some _ atS)⟩
      case S1 =>
        intro s' c' hm hc' hS'
        obtain ⟨h', g2, d', tk', os'⟩ := s'
        obtain rfl : g2 = s.gens := hm.gens
        obtain rfl : d' = s.drawn := hm.drawn
        obtain rfl : os' = s.os := hm.os
        show wpAny _ _ _ _ _ _
        refine wpAny_pure ?_
        show wpAny _ _ (ret Value.none) _ _ _
        refine wpAny_pure ⟨rfl, h', tk', c', rfl, hS', isz ▸ hc', fun b o e => ?_⟩
        have hb0 : b < s.heap.objs.size := Heap.lt_size e
        refine hm.heap b o ?_ (Heap.get?_push_of_some _ (kept b o e))
        simp only [List.mem_cons, List.not_mem_nil, or_false, not_or]
        exact ⟨Nat.ne_of_lt hb0, by rw [sz1]; exact Nat.ne_of_lt (Nat.lt_succ_of_lt hb0)⟩
    · match r₂, hr₂ with
      | .error e, hr₂ => exact hr₂
      | .ok (.next), hr₂ => exact hr₂.elim
      | .ok (.brk), hr₂ => exact hr₂.elim
      | .ok (.cont), hr₂ => exact hr₂.elim
      | .ok (.ret r), hr₂ =>
        obtain ⟨rfl, h', tk, c', rfl, hS', hc', hk'⟩ := hr₂
        repeat (any_goals (first | assumption | wp_step))
        exact h _ _ _ hS' hc' hk'
end
section
variable {X : Cx}
theorem len_scan {n : Nat} (h : n ≤ 1000) : n + 1 < scanBound := Nat.lt_of_le_of_lt (Nat.succ_le_succ h) (by decide)
theorem ints_of {ns : List Int} {us : List Value} (r : Vals (ns.map V.int) us) : IntsAre us ns := Vals.ints r
/-- set(xs), xs a list or a tuple of at most 1000 ints -/
def rSetI (K : PySem.W.Frag) (w : World) : List V → Hp → VK → Prop := fun vs H Q => ∃ (a : Addr) (ns : List Int), vs = [.ref a] ∧ (SqL K H a (ns.map V.int) ∨ SqT K H a (ns.map V.int)) ∧ ns.length ≤ 1000 ∧
  ∀ p c, c ≤ ns.length → H p = none → Q (.ref p) (upd H p (SetO w p (fun j => decide (j ∈ ns)) c))
theorem cr_setI (hc : X.calm = true) : CallR X (.type "set") (rSetI X.K X.w) := by
  intro pins s σ H vs us Q I r h
  obtain ⟨a, ns, rfl, hs, hl, q⟩ := h
  rw [Vals.ref1 r]
  have fin : ∀ (h' : Heap) (tk c : Nat), SetR X.w h' s.heap.objs.size (fun j => decide (j ∈ ns)) c → c ≤ ns.length → (∀ b o, s.heap.get? b = some o → h'.get? b = some o) → EP X pins σ Q (.ref s.heap.objs.size) { s with heap := h', toks := tk } := fun h' tk c hS hc' hk =>
    ⟨.ref _, _, I.laid (t' := tk) hk (Nat.le_refl _) (setO_new hS), rfl, q _ c hc' (I.hok.fresh (Nat.le_refl _))⟩
  rcases hs with hs | hs
  · obtain ⟨its, rv, ⟨o, n, e, c, d, hd⟩, _⟩ := I.list hs
    exact set_listI ns (I.ok.hd hc) ⟨o, e, c, n, hd⟩ (ints_of rv) (len_scan hl) fin
  · obtain ⟨its, rv, p, _⟩ := I.tuple hs
    exact call_set_tupI ns (I.ok.hd hc) (show s.heap.IsTuple a its.toArray from p) (ints_of rv) (len_scan hl) fin
end
/-- a set of ints that stands -/
def St (w : World) (ns : List Int) : VP := fun v F => ∃ a c, v = .ref a ∧ c ≤ ns.length ∧ F a = some (SetO w a (fun j => decide (j ∈ ns)) c)
instance {w : World} {ns : List Int} : Mono (St w ns) := ⟨fun _ _ _ e ⟨a, c, h, l, r⟩ => ⟨a, c, h, l, e _ _ r⟩⟩
/-- a row of ints, as a list or a tuple -/
def seqI (ns : List Int) (v : V) (F : Hp) (K : PySem.W.Frag) : Prop := ∃ a, v = .ref a ∧ (SqL K F a (ns.map V.int) ∨ SqT K F a (ns.map V.int))
theorem seqI_t {K : PySem.W.Frag} {ns : List Int} {v : V} {F : Hp} (h : Dt K (.tuple (ns.map .int)) v F) : seqI ns v F K := by
  cases h with
  | tup s r => exact ⟨_, rfl, .inr (vs_ints r ▸ s)⟩
theorem seqI_l {K : PySem.W.Frag} {ns : List Int} {v : V} {F : Hp} (h : Dt K (.list (ns.map .int)) v F) : seqI ns v F K := by
  cases h with
  | lst s r => exact ⟨_, rfl, .inl (vs_ints r ▸ s)⟩
section
variable {K : PySem.W.Frag} {w : World} {σ : L2.St} {F : Hp} {L : Cells} {t : TA} {ns : List Int}
theorem r_set {R : VP} (h : Run (t σ) F L (Each [R])) (hr : ∀ v F1, R v F1 → seqI ns v F1 K) (hl : ns.length ≤ 1000) : Run (tCB (rSetI K w) t σ) F L (St w ns) := r_cb h fun vs F1 e1 hv => by
  obtain ⟨v, rfl, hv1⟩ := each1 hv
  obtain ⟨a, rfl, hs⟩ := hr v F1 hv1
  refine run_ex a (run_ex ns (run_and (fun _ _ _ _ _ => rfl) (run_and (fun F2 N H e A => hs.imp (sqL_up (e.trans A.ex)) (sqT_up (e.trans A.ex))) (run_and (fun _ _ _ _ _ => hl) ?_))))
  exact fun F2 N H e2 A Q q p c hc hp => q _ (upd F2 p _) _ (same_new (A.free hp)) (A.new hp) ⟨p, c, rfl, hc, upd_same⟩
theorem r_sortedSet (h : Run (t σ) F L (Each [St w ns])) (hl : ns.length < 64) (os : List Int) (h1 : os.Pairwise (· < ·)) (h2 : ∀ k, k ∈ os ↔ k ∈ ns) : Run (tCB (rSortedSet w) t σ) F L (Dt K (.list (os.map .int))) := r_cb h fun vs F1 e1 hv => by
  obtain ⟨v, rfl, a, c, rfl, hc, hs⟩ := each1 hv
  refine run_ex a (run_ex _ (run_ex c (run_and (fun _ _ _ _ _ => rfl) (run_and (fun F2 N H e A => A.ex _ _ (e _ _ hs)) (run_and (fun _ _ _ _ _ => by omega) ?_)))))
  refine fun F2 N H e2 A Q q ms p hp hm hlen hn => q _ (upd F2 p _) _ (same_new (A.free hn)) (A.new hn) ?_
  have e : ms = os := by
    refine List.Perm.eq_of_pairwise (le := (· < ·)) (fun a b _ _ x y => absurd x (Int.lt_asymm y)) hp h1 ((List.perm_ext_iff_of_nodup (hp.imp fun x => Int.ne_of_lt x) (h1.imp fun x => Int.ne_of_lt x)).mpr fun k => ?_)
    rw [hm k, h2 k, decide_eq_true_eq]
  rw [e]
  exact .lst (.inl (.inl upd_same)) ints_vs
end
end Rs

/-! Rs4: short words for calls of what is built in, of defs, of classes with slots. -/
namespace Rs
open PySem PySem.Spec PyProof.Rows L2 SlX
/-- the names that are still the built-in ones -/
structure Bf (mg : Str → Option Value) : Prop where
  len : mg "len" = none
  range : mg "range" = none
  list : mg "list" = none
  tuple : mg "tuple" = none
  set : mg "set" = none
  sorted : mg "sorted" = none
  all : mg "all" = none
  isinstance : mg "isinstance" = none
  int : mg "int" = none
  bool : mg "bool" = none
  enumerate : mg "enumerate" = none
  zip : mg "zip" = none
  min : mg "min" = none
  max : mg "max" = none
  abs : mg "abs" = none
  str : mg "str" = none
  repr : mg "repr" = none
  dict : mg "dict" = none
section
variable {X : Cx} {e o : Expr} {es : List Expr} {ta te : TE} {t : TA} {p pos apos : Pos} {f m x : Str} {K : PySem.W.Frag}
/-- len of a text, a list, a tuple, a dict by ints and texts -/
def rLn (K : PySem.W.Frag) : List V → Hp → VK → Prop := fun xs H Q => (∃ x n, xs = [x] ∧ LenV K x H n ∧ Q (.int n) H) ∨ ∃ a kvs, xs = [V.ref a] ∧ H a = some (.dK kvs) ∧ Q (.int kvs.length) H
theorem p_len (B : Bf X.mg) (ha : PA X (e :: es) t) (hg : Gl X "len" := by rfl) (he : starEach (e :: es) X.env = (false, eval e X.env) :: starEach es X.env := by rfl) (hpl : (backTo pos (starEach es X.env)).any (·.1) = false := by rfl) :
    PE X (.Call (.Name "len" p) (e :: es) [] pos) (tCB (rLn X.K) t) := pe_callB (CallR.or call_len call_lenD) hg B.len PySem.boot_len ha (by decide) (by decide) he hpl
theorem p_all (hc : X.calm = true) (B : Bf X.mg) (ha : PA X (e :: es) t) (hg : Gl X "all" := by rfl) (he : starEach (e :: es) X.env = (false, eval e X.env) :: starEach es X.env := by rfl) (hpl : (backTo pos (starEach es X.env)).any (·.1) = false := by rfl) :
    PE X (.Call (.Name "all" p) (e :: es) [] pos) (tCB (rAll X.K) t) := pe_callB (cr_all hc) hg B.all boot_all ha (by decide) (by decide) he hpl
theorem p_isi (B : Bf X.mg) (ha : PA X (e :: es) t) (hg : Gl X "isinstance" := by rfl) (he : starEach (e :: es) X.env = (false, eval e X.env) :: starEach es X.env := by rfl) (hpl : (backTo pos (starEach es X.env)).any (·.1) = false := by rfl) :
    PE X (.Call (.Name "isinstance" p) (e :: es) [] pos) (tCB (rIsi X.K) t) := pe_callB call_isi hg B.isinstance PyProof.Rows.boot_isinstance ha (by decide) (by decide) he hpl
theorem p_isiS (u : Value) (B : Bf X.mg) (ha : PA X (e :: es) t) (hg : Gl X "isinstance" := by rfl) (he : starEach (e :: es) X.env = (false, eval e X.env) :: starEach es X.env := by rfl) (hpl : (backTo pos (starEach es X.env)).any (·.1) = false := by rfl) :
    PE X (.Call (.Name "isinstance" p) (e :: es) [] pos) (tCB (fun xs H Q => rIsi X.K xs H Q ∨ rIsiSl X.K u xs H Q) t) := pe_callB (CallR.or call_isi (call_isiSl u)) hg B.isinstance PyProof.Rows.boot_isinstance ha (by decide) (by decide) he hpl
theorem p_set (hc : X.calm = true) (B : Bf X.mg) (ha : PA X (e :: es) t) (hg : Gl X "set" := by rfl) (he : starEach (e :: es) X.env = (false, eval e X.env) :: starEach es X.env := by rfl) (hpl : (backTo pos (starEach es X.env)).any (·.1) = false := by rfl) :
    PE X (.Call (.Name "set" p) (e :: es) [] pos) (tCB (rSetI X.K X.w) t) := pe_callTy (cr_setI hc) hg B.set PyProof.Rows.boot_set ha (by decide) (by decide) he hpl
theorem p_sortedSet (hc : X.calm = true) (B : Bf X.mg) (ha : PA X (e :: es) t) (hg : Gl X "sorted" := by rfl) (he : starEach (e :: es) X.env = (false, eval e X.env) :: starEach es X.env := by rfl) (hpl : (backTo pos (starEach es X.env)).any (·.1) = false := by rfl) :
    PE X (.Call (.Name "sorted" p) (e :: es) [] pos) (tCB (rSortedSet X.w) t) := pe_callB (cr_sortedSet hc) hg B.sorted boot_sorted ha (by decide) (by decide) he hpl
theorem p_sortedL (B : Bf X.mg) (ha : PA X (e :: es) t) (hg : Gl X "sorted" := by rfl) (he : starEach (e :: es) X.env = (false, eval e X.env) :: starEach es X.env := by rfl) (hpl : (backTo pos (starEach es X.env)).any (·.1) = false := by rfl) :
    PE X (.Call (.Name "sorted" p) (e :: es) [] pos) (tCB (rSorted X.K) t) := pe_callB cr_sorted hg B.sorted boot_sorted ha (by decide) (by decide) he hpl
/-- sorted of a dict by ints -/
def rSortedDI : List V → Hp → VK → Prop := fun xs H Q => ∃ (a : Addr) (kvs : List (Key × V)) (ks : List Int), xs = [.ref a] ∧ Rd H a (.dK kvs) ∧ kvs.map (·.1) = ks.map Sum.inl ∧ ks.length < 64 ∧
    ∀ (ys : List Int) (p : Addr), ys.Perm ks → ys.Pairwise (· ≤ ·) → H p = none → Q (.ref p) (upd H p (.lst (ys.map V.int)))
theorem p_sortedDI (hc : X.calm = true) (B : Bf X.mg) (ha : PA X (e :: es) t) (hg : Gl X "sorted" := by rfl) (he : starEach (e :: es) X.env = (false, eval e X.env) :: starEach es X.env := by rfl) (hpl : (backTo pos (starEach es X.env)).any (·.1) = false := by rfl) :
    PE X (.Call (.Name "sorted" p) (e :: es) [] pos) (tCB rSortedDI t) := pe_callB (call_sortedDI hc) hg B.sorted boot_sorted ha (by decide) (by decide) he hpl
def rListOf (K : PySem.W.Frag) : List V → Hp → VK → Prop := fun xs H Q => ∃ p ys, xs = [.ref p] ∧ (SqL K H p ys ∨ SqT K H p ys) ∧ ∀ l, H l = none → Q (.ref l) (upd H l (.lst ys))
theorem p_list (B : Bf X.mg) (ha : PA X (e :: es) t) (hg : Gl X "list" := by rfl) (he : starEach (e :: es) X.env = (false, eval e X.env) :: starEach es X.env := by rfl) (hpl : (backTo pos (starEach es X.env)).any (·.1) = false := by rfl) :
    PE X (.Call (.Name "list" p) (e :: es) [] pos) (tCB (rListOf X.K) t) := pe_callTy call_list_of hg B.list PyProof.Rows.boot_list ha (by decide) (by decide) he hpl
def rTupOf (K : PySem.W.Frag) : List V → Hp → VK → Prop := fun xs H Q => ∃ p ys, xs = [.ref p] ∧ ((SqL K H p ys ∧ ∀ l, H l = none → Q (.ref l) (upd H l (.tup ys))) ∨ (SqT K H p ys ∧ Q (.ref p) H))
theorem p_tuple (B : Bf X.mg) (ha : PA X (e :: es) t) (hg : Gl X "tuple" := by rfl) (he : starEach (e :: es) X.env = (false, eval e X.env) :: starEach es X.env := by rfl) (hpl : (backTo pos (starEach es X.env)).any (·.1) = false := by rfl) :
    PE X (.Call (.Name "tuple" p) (e :: es) [] pos) (tCB (rTupOf X.K) t) := pe_callTy call_tuple_of hg B.tuple PyProof.Rows.boot_tuple ha (by decide) (by decide) he hpl
def rIntOf : List V → Hp → VK → Prop := fun xs H Q => (∃ i, xs = [.int i] ∧ Q (.int i) H) ∨ ∃ k, xs = [.bl k] ∧ Q (.int (if k then 1 else 0)) H
theorem p_int (B : Bf X.mg) (ha : PA X (e :: es) t) (hg : Gl X "int" := by rfl) (he : starEach (e :: es) X.env = (false, eval e X.env) :: starEach es X.env := by rfl) (hpl : (backTo pos (starEach es X.env)).any (·.1) = false := by rfl) :
    PE X (.Call (.Name "int" p) (e :: es) [] pos) (tCB rIntOf t) := pe_callTy call_int1 hg B.int PyProof.Rows.boot_int ha (by decide) (by decide) he hpl
def rAbs : List V → Hp → VK → Prop := fun xs H Q => ∃ i, xs = [.int i] ∧ Q (.int (if i < 0 then -i else i)) H
theorem p_abs (B : Bf X.mg) (ha : PA X (e :: es) t) (hg : Gl X "abs" := by rfl) (he : starEach (e :: es) X.env = (false, eval e X.env) :: starEach es X.env := by rfl) (hpl : (backTo pos (starEach es X.env)).any (·.1) = false := by rfl) :
    PE X (.Call (.Name "abs" p) (e :: es) [] pos) (tCB rAbs t) := pe_callB call_abs hg B.abs PyProof.Rows.boot_abs ha (by decide) (by decide) he hpl
def rMin2 : List V → Hp → VK → Prop := fun xs H Q => ∃ i j, xs = [.int i, .int j] ∧ Q (.int (if j < i then j else i)) H
theorem p_min2 (hc : X.calm = true) (B : Bf X.mg) (ha : PA X (e :: es) t) (hg : Gl X "min" := by rfl) (he : starEach (e :: es) X.env = (false, eval e X.env) :: starEach es X.env := by rfl) (hpl : (backTo pos (starEach es X.env)).any (·.1) = false := by rfl) :
    PE X (.Call (.Name "min" p) (e :: es) [] pos) (tCB rMin2 t) := pe_callB (call_min2 hc) hg B.min PyProof.Rows.boot_min ha (by decide) (by decide) he hpl
def rMax2 : List V → Hp → VK → Prop := fun xs H Q => ∃ i j, xs = [.int i, .int j] ∧ Q (.int (if j > i then j else i)) H
theorem p_max2 (hc : X.calm = true) (B : Bf X.mg) (ha : PA X (e :: es) t) (hg : Gl X "max" := by rfl) (he : starEach (e :: es) X.env = (false, eval e X.env) :: starEach es X.env := by rfl) (hpl : (backTo pos (starEach es X.env)).any (·.1) = false := by rfl) :
    PE X (.Call (.Name "max" p) (e :: es) [] pos) (tCB rMax2 t) := pe_callB (call_max2 hc) hg B.max PyProof.Rows.boot_max ha (by decide) (by decide) he hpl
/-- a built-in type's name -/
theorem p_ty {T : String} {x : Str} (hg : Gl X x) (hm : X.mg x = none) (hv : bootBuiltins x = some (.type T)) (hn : x ≠ "__name__" := by decide) (hd : (x == ("__debug__" : Str)) = false := by decide) : PE X (.Name x pos) (tC (.ty T)) := pe_bltn hg hm hv rfl hn hd
theorem p_cls {C : Addr} {x : Str} (hg : Gl X x) (hm : X.mg x = some (.ref C)) (hd : (x == ("__debug__" : Str)) = false := by decide) : PE X (.Name x pos) (tC (.ref C)) := pe_glob hg hm rfl hd
/-- a module's own int -/
def GInt (mg : Str → Option Value) (x : Str) (i : Int) : Prop := ∃ t, mg x = some (.int i t)
theorem p_gint {i : Int} {x : Str} (h : GInt X.mg x i) (hg : Gl X x := by rfl) (hd : (x == ("__debug__" : Str)) = false := by decide) : PE X (.Name x pos) (tC (.int i)) := by
  obtain ⟨t, h⟩ := h
  exact pe_glob hg h ⟨t, rfl⟩ hd
/-- a def called -/
structure Gf (P : Program) (w : World) (K : PySem.W.Frag) (mg : Str → Option Value) (base : Heap) (k : Nat) (x : Str) (sp : Sp) : Prop where
  ex : ∃ f fd ps, FnOk P w K mg base CX0 k f fd ps sp ∧ mg x = some (.ref f) ∧ PySem.W.keepIn K (.ref f) = true ∧ Binds K fd ps []
theorem p_call {k j : Nat} {sp : Sp} (c : Gf X.prog X.w X.K X.mg X.base k f sp) (hr : Room j X.A) (hk : k ≤ j) (ha : PA X (e :: es) t) (hg : Gl X f := by rfl)
    (hdb : (f == ("__debug__" : Str)) = false := by decide) (he : starEach (e :: es) X.env = (false, eval e X.env) :: starEach es X.env := by rfl) (hpl : (backTo pos (starEach es X.env)).any (·.1) = false := by rfl) :
    PE X (.Call (.Name f p) (e :: es) [] pos) (tCall sp [] E0 t) := by
  obtain ⟨g, fd, ps, F, hm, kp, b⟩ := c.ex
  exact pe_call F (hr.mono hk) hg hm kp b .nil pass0 ha hdb he hpl
/-- a method, a property of a class with slots -/
structure MetS (P : Program) (w : World) (K : PySem.W.Frag) (mg : Str → Option Value) (base : Heap) (k : Nat) (C : Addr) (m : Str) (sp : Sp) : Prop where
  ex : ∃ g, SCls K C ∧ Meth K C m g ∧ FnR P w K mg base CX0 k g sp
structure PrpS (P : Program) (w : World) (K : PySem.W.Frag) (mg : Str → Option Value) (base : Heap) (k : Nat) (C : Addr) (m : Str) (sp : Sp) : Prop where
  ex : ∃ p g, SCls K C ∧ PySem.W.findIn K (.ref C) m = some (some (.ref p)) ∧ PySem.W.specialIn K (.ref p) "__get__" = some (some (.builtin "property.__get__")) ∧ PySem.W.takesIn K (.ref p) = some true ∧
    (∃ rest, PySem.W.recIn K p "property" = some (.ref g :: rest)) ∧ FnR P w K mg base CX0 k g sp
theorem p_met {k j : Nat} {C : Addr} {sp : Sp} {pl : Sem Bool} (c : MetS X.prog X.w X.K X.mg X.base k C m sp) (hr : Room j X.A) (hk : k ≤ j) (he : PE X o ta) (ha : PA X (e :: es) t)
    (hst : starEach (e :: es) X.env = (false, eval e X.env) :: starEach es X.env := by rfl) (hpl : (backTo pos (starEach es X.env)).any (·.1) = false := by rfl)
    (ht : eval (.Call (.Attribute o m apos) (e :: es) [] pos) X.env = (do
      let ov ← eval o X.env
      standAt apos.atName
      let (f, first) ← holding [ov] (getMethod ov m pl)
      callWith pos f first (backTo pos (starEach (e :: es) X.env)) (backToKw pos (keywordEach [] X.env))) := by rfl) :
    PE X (.Call (.Attribute o m apos) (e :: es) [] pos) (tMethSl C sp E0 ta t) := by
  obtain ⟨g, sc, me, F⟩ := c.ex
  exact pe_methSl (pl := pl) he sc me F (hr.mono hk) pass0 ha hst hpl ht
theorem p_prp {k j : Nat} {C : Addr} {sp : Sp} (c : PrpS X.prog X.w X.K X.mg X.base k C f sp) (hr : Room j X.A) (hk : k + 1 ≤ j) (he : PE X e ta) (hb : attributeBase e f X.env (eval e X.env) = eval e X.env := by rfl) :
    PE X (.Attribute e f pos) (tPropSl C sp E0 ta) := by
  obtain ⟨p, g, sc, h1, h2, h3, h4, F⟩ := c.ex
  exact pe_propSl he sc h1 h2 h3 h4 F (hr.mono hk) (fun _ _ _ _ h => h.elim) hb
end
end Rs

/-! Rs5: a def keeps its promise; runs of the short words. -/
namespace Rs
open PySem PySem.Spec PyProof.Rows L2 SlX StX
section
variable {P : Program} {w : World} {K : PySem.W.Frag} {mg : Str → Option Value} {base : Heap}
theorem gf_ok {x qual : Str} {st : Stmt} {f : Addr} {fd : FuncData} {N ps : List Str} {k : Nat} {γ : Type} {pre : γ → Prop} {Rs : γ → List VP} {R : γ → VP} (F : Fun K x qual st f fd) (S : FnScope N ps (defScope st)) (len : ∀ g, (Rs g).length = ps.length)
    (body : ∀ (cdv : Value) (A : Around) (outer : List Env) (s : Shared) (H : Hp) (E : XK) (g : γ) (vs : List V) (F0 : Hp), Room k (A.deeper (envOfC qual (defScope st) s.heap.objs.size f cdv)) → pre g → Each (Rs g) vs F0 →
      ∃ t, PSs (cxOf CX0 P w K mg base N qual (defScope st) f cdv A outer s H E).nox (defBody st) t ∧ RunS t (start N vs) F0 [] (fun _ F' _ => R g .non F') (R g)) : FnOk P w K mg base CX0 (k + 1) f fd ps (SpF pre Rs R) := by
  refine F.ok S (fun vs H Q E ⟨g, F0, N0, hp, A, hv, q⟩ => (each_length hv).trans (len g)) fun cdv A outer s H vs Q E hr ⟨g, F0, N0, hp, A0, hv, q⟩ => ?_
  obtain ⟨t, h1, h2⟩ := body cdv A outer s H E g vs F0 hr hp hv
  exact ⟨t, h1, h2 F0 N0 H (Same.refl _) A0 _ (fun _ F' L' H' e' A' n => q .non F' H' e' A'.drop n) fun v F' H' e' A' r => q v F' H' e' A' r⟩
theorem gf_mk {x : Str} {st : Stmt} {f : Addr} {fd : FuncData} {N ps : List Str} {k : Nat} {γ : Type} {pre : γ → Prop} {Rs : γ → List VP} {R : γ → VP} (F : Fun K x x st f fd) (hm : mg x = some (.ref f)) (b : Binds K fd ps []) (S : FnScope N ps (defScope st)) (len : ∀ g, (Rs g).length = ps.length)
    (body : ∀ (cdv : Value) (A : Around) (outer : List Env) (s : Shared) (H : Hp) (E : XK) (g : γ) (vs : List V) (F0 : Hp), Room k (A.deeper (envOfC x (defScope st) s.heap.objs.size f cdv)) → pre g → Each (Rs g) vs F0 →
      ∃ t, PSs (cxOf CX0 P w K mg base N x (defScope st) f cdv A outer s H E).nox (defBody st) t ∧ RunS t (start N vs) F0 [] (fun _ F' _ => R g .non F') (R g)) : Gf P w K mg base (k + 1) x (SpF pre Rs R) :=
  ⟨f, fd, ps, gf_ok F S len body, hm, F.kp, b⟩
end
section
variable {K : PySem.W.Frag} {w : World} {σ : L2.St} {F : Hp} {L : Cells} {R : VP} {Rs : List VP} {t : TA} {te : TE}
/-! len, all, isinstance, list, tuple, sorted -/
theorem r_lnT (h : Run (t σ) F L (Each [Tp K Rs])) : Run (tCB (rLn K) t σ) F L (Dt K (.int Rs.length)) := r_cb h fun vs F1 e1 hv => by
  obtain ⟨v, rfl, a, ws, rfl, hs, hr⟩ := each1 hv
  exact fun F2 N H e A Q q => .inl ⟨.ref a, ws.length, rfl, .inr ⟨ws, sqT_up (e.trans A.ex) hs, rfl⟩, q _ F2 H (Same.refl _) A (by rw [each_length hr]; exact .int _)⟩
theorem r_lnL (h : Run (t σ) F L (Each [Ls K Rs])) : Run (tCB (rLn K) t σ) F L (Dt K (.int Rs.length)) := r_cb h fun vs F1 e1 hv => by
  obtain ⟨v, rfl, a, ws, rfl, hs, hr⟩ := each1 hv
  exact fun F2 N H e A Q q => .inl ⟨.ref a, ws.length, rfl, .inl ⟨ws, sqL_up (e.trans A.ex) hs, rfl⟩, q _ F2 H (Same.refl _) A (by rw [each_length hr]; exact .int _)⟩
theorem r_lnTD {ds : List PyData} (h : Run (t σ) F L (Each [Dt K (.tuple ds)])) : Run (tCB (rLn K) t σ) F L (Dt K (.int ds.length)) := by
  have := r_lnT (K := K) (Rs := ds.map (Dt K)) (h.weak fun vs F1 e hv => by
    obtain ⟨v, rfl, h1⟩ := each1 hv
    exact ⟨tp_dt.mpr h1, True.intro⟩)
  rwa [List.length_map] at this
/-- len of a list of one's own -/
theorem r_lnC {l : Addr} {xs : List V} (hm : (l, HO.lst xs) ∈ L) (h : Run (t σ) F L (Each [Eqv (.ref l)])) : Run (tCB (rLn K) t σ) F L (Dt K (.int xs.length)) := r_cb h fun vs F1 e1 hv => by
  obtain ⟨v, rfl, hv1⟩ := each1 hv
  cases hv1
  exact fun F2 N H e A Q q => .inl ⟨.ref l, xs.length, rfl, .inl ⟨xs, .inl (.inl (A.on _ (List.mem_append_left _ hm))), rfl⟩, q _ F2 H (Same.refl _) A (.int _)⟩
theorem each_bls : ∀ {bs : List Bool} {vs : List V} {F : Hp}, Each (bs.map fun b => Dt K (.bool b)) vs F → vs = bs.map V.bl
  | [], vs, F, h => by rw [each0 h]; rfl
  | b :: bs, vs, F, h => by
    obtain ⟨v, ws, rfl, h1, h2⟩ := each_cons h
    rw [dt_bl h1, each_bls h2]; rfl
theorem r_all {bs : List Bool} (h : Run (t σ) F L (Each [Ls K (bs.map fun b => Dt K (.bool b))])) : Run (tCB (rAll K) t σ) F L (Dt K (.bool (bs.all id))) := r_cb h fun vs F1 e1 hv => by
  obtain ⟨v, rfl, a, ws, rfl, hs, hr⟩ := each1 hv
  rw [each_bls hr] at hs
  exact fun F2 N H e A Q q => ⟨a, bs, rfl, sqL_up (e.trans A.ex) hs, q _ F2 H (Same.refl _) A (.bl _)⟩
/-- isinstance(x, T) by the kind of the value -/
theorem r_isi {T : String} {ty : Value} {b : Bool} (h : Run (t σ) F L (Each [R, Eqv (.ty T)])) (hr : ∀ v F1 F2 H, R v F1 → Same F1 F2 → Same F2 H → TyX K H v ty) (hb : PySem.W.kitOne K ty (.type T) = some b) : Run (tCB (rIsi K) t σ) F L (Dt K (.bool b)) := r_cb h fun vs F1 e1 hv => by
  obtain ⟨v, u, rfl, h1, h2⟩ := each2 hv
  cases h2
  exact fun F2 N H e A Q q => ⟨v, .ty T, ty, .type T, b, rfl, .ty T, hr v F1 F2 H h1 e A.ex, hb, q _ F2 H (Same.refl _) A (.bl _)⟩
theorem r_listT [MonoL Rs] (h : Run (t σ) F L (Each [Tp K Rs])) : Run (tCB (rListOf K) t σ) F L (Ln Rs) := r_cb h fun vs F1 e1 hv => by
  obtain ⟨v, rfl, a, ws, rfl, hs, hr⟩ := each1 hv
  exact fun F2 N H e A Q q => ⟨a, ws, rfl, .inr (sqT_up (e.trans A.ex) hs), fun l hl => q _ (upd F2 l _) _ (same_new (A.free hl)) (A.new hl) ⟨l, ws, rfl, upd_same, MonoL.mono _ _ _ (e.trans (same_new (A.free hl))) hr⟩⟩
/-- list(xs) as a list of one's own -/
theorem q_listL {u : TS} {i : Nat} {Nx : L2.St → Hp → Cells → Prop} {Rt : VP} [MonoL Rs] (h : Run (t σ) F L (Each [Ls K Rs])) (k : ∀ p vs F1, Same F F1 → F1 p = none → Each Rs vs F1 → RunS u (σ.set i (some (.ref p))) F1 ((p, .lst vs) :: L) Nx Rt) :
    RunS (tSeq (tAsg (tCB (rListOf K) t) (gName i)) u) σ F L Nx Rt := fun F1 N H e A D q r => h F1 N H e A _ fun vs F2 H2 e2 A2 hv => by
  obtain ⟨v, rfl, a, ws, rfl, hs, hr⟩ := each1 hv
  exact ⟨a, ws, rfl, .inl (sqL_up A2.ex hs), fun p hp =>
    k p ws F2 (e.trans e2) (A2.free hp) hr F2 N _ (Same.refl _) (A2.cell hp) D (fun σ3 F3 L3 H3 e3 A3 n => q σ3 F3 L3 H3 (e2.trans e3) A3 n) fun w F3 H3 e3 A3 n => r w F3 H3 (e2.trans e3) A3 n⟩
theorem r_tupL [MonoL Rs] (h : Run (t σ) F L (Each [Ls K Rs])) : Run (tCB (rTupOf K) t σ) F L (Tp K Rs) := r_cb h fun vs F1 e1 hv => by
  obtain ⟨v, rfl, a, ws, rfl, hs, hr⟩ := each1 hv
  exact fun F2 N H e A Q q => ⟨a, ws, rfl, .inl ⟨sqL_up (e.trans A.ex) hs, fun l hl => q _ (upd F2 l _) _ (same_new (A.free hl)) (A.new hl) ⟨l, ws, rfl, .inl (.inl upd_same), MonoL.mono _ _ _ (e.trans (same_new (A.free hl))) hr⟩⟩⟩
theorem r_tupD {ds : List PyData} (h : Run (t σ) F L (Each [Dt K (.list ds)])) : Run (tCB (rTupOf K) t σ) F L (Dt K (.tuple ds)) :=
  (r_tupL (K := K) (Rs := ds.map (Dt K)) (h.weak fun vs F1 e hv => by
    obtain ⟨v, rfl, h1⟩ := each1 hv
    exact ⟨ls_dt.mpr h1, True.intro⟩)).weak fun v F1 e hv => tp_dt.mp hv
/-- tuple(l), l a list of one's own -/
theorem r_tupC {l : Addr} {xs : List V} [MonoL Rs] (hm : (l, HO.lst xs) ∈ L) (h : Run (t σ) F L (Each [Eqv (.ref l)])) (hr : Each Rs xs F) : Run (tCB (rTupOf K) t σ) F L (Tp K Rs) := r_cb h fun vs F1 e1 hv => by
  obtain ⟨v, rfl, hv1⟩ := each1 hv
  cases hv1
  exact fun F2 N H e A Q q => ⟨l, xs, rfl, .inl ⟨.inl (.inl (A.on _ (List.mem_append_left _ hm))), fun p hp => q _ (upd F2 p _) _ (same_new (A.free hp)) (A.new hp) ⟨p, xs, rfl, .inl (.inl upd_same), MonoL.mono _ _ _ ((e1.trans e).trans (same_new (A.free hp))) hr⟩⟩⟩
theorem r_sortedI {ns : List Int} (h : Run (t σ) F L (Each [R])) (hr : ∀ v F1, R v F1 → ∃ a, v = .ref a ∧ SqL K F1 a (ns.map V.int)) (hl : ns.length < 64) (os : List Int) (h1 : os.Perm ns) (h2 : os.Pairwise (· ≤ ·)) : Run (tCB (rSorted K) t σ) F L (Dt K (.list (os.map .int))) := r_cb h fun vs F1 e1 hv => by
  obtain ⟨v, rfl, hv1⟩ := each1 hv
  obtain ⟨a, rfl, hs⟩ := hr v F1 hv1
  refine fun F2 N H e A Q q => ⟨a, ns, rfl, sqL_up (e.trans A.ex) hs, hl, fun ms p hp hm hn => q _ (upd F2 p _) _ (same_new (A.free hn)) (A.new hn) ?_⟩
  have e : ms = os := List.Perm.eq_of_pairwise (le := (· ≤ ·)) (fun a b _ _ x y => Int.le_antisymm x y) hm h2 (hp.trans h1.symm)
  rw [e]
  exact .lst (.inl (.inl upd_same)) ints_vs
/-! ==, in -/
theorem r_eqD {ta tb : TE} {d e : PyData} (ha : Run (ta σ) F L (Dt K d)) (hb : Run (tb σ) F L (Dt K e)) (h1 : SeqAt.shaped d = true) (h2 : SeqAt.shaped e = true) : Run (tOp (rEqD K) ta tb σ) F L (Dt K (.bool (PyData.eqv d e))) :=
  r_op ha hb fun x y F1 e1 hx hy => fun F2 N H e2 A Q q => ⟨d, e, dp_up (e2.trans A.ex) hx, dp_up (e2.trans A.ex) hy, h1, h2, q _ F2 H (Same.refl _) A (.bl _)⟩
theorem r_neD {ta tb : TE} {d e : PyData} (ha : Run (ta σ) F L (Dt K d)) (hb : Run (tb σ) F L (Dt K e)) (h1 : SeqAt.shaped d = true) (h2 : SeqAt.shaped e = true) : Run (tOp (rNeD K) ta tb σ) F L (Dt K (.bool (!PyData.eqv d e))) :=
  r_op ha hb fun x y F1 e1 hx hy => fun F2 N H e2 A Q q => ⟨d, e, dp_up (e2.trans A.ex) hx, dp_up (e2.trans A.ex) hy, h1, h2, q _ F2 H (Same.refl _) A (.bl _)⟩
theorem inV_ints {i : Int} : ∀ {ns : List Int}, inV (.int i) (ns.map V.int) = decide (i ∈ ns)
  | [] => rfl
  | n :: ns => by
    have ih := inV_ints (i := i) (ns := ns)
    unfold inV at ih ⊢
    rw [List.map_cons, List.any_cons, ih]
    have e : eqV (.int n) (.int i) = decide (n = i) := by rfl
    rw [e]
    by_cases h : n = i
    · subst h; simp
    · have h' : ¬ i = n := fun z => h z.symm
      simp [h, h']
theorem flat_ints : ∀ {ns : List Int}, (ns.map V.int).all flatV = true
  | [] => rfl
  | n :: ns => by rw [List.map_cons, List.all_cons, flat_ints (ns := ns)]; rfl
theorem r_in {ta tb : TE} {i : Int} {ns : List Int} (ha : Run (ta σ) F L (Dt K (.int i))) (hb : Run (tb σ) F L R) (hr : ∀ v F1, R v F1 → seqI ns v F1 K) : Run (tOp (rIn K false) ta tb σ) F L (Dt K (.bool (decide (i ∈ ns)))) :=
  r_op ha hb fun x y F1 e1 hx hy => by
    cases hx
    obtain ⟨a, rfl, hs⟩ := hr y F1 hy
    refine fun F2 N H e2 A Q q => ⟨a, _, rfl, hs.imp (sqL_up (e2.trans A.ex)) (sqT_up (e2.trans A.ex)), rfl, flat_ints, q _ F2 H (Same.refl _) A ?_⟩
    rw [if_neg Bool.false_ne_true, inV_ints]
    exact .bl _
theorem r_notIn {ta tb : TE} {i : Int} {ns : List Int} (ha : Run (ta σ) F L (Dt K (.int i))) (hb : Run (tb σ) F L R) (hr : ∀ v F1, R v F1 → seqI ns v F1 K) : Run (tOp (rIn K true) ta tb σ) F L (Dt K (.bool (!decide (i ∈ ns)))) :=
  r_op ha hb fun x y F1 e1 hx hy => by
    cases hx
    obtain ⟨a, rfl, hs⟩ := hr y F1 hy
    refine fun F2 N H e2 A Q q => ⟨a, _, rfl, hs.imp (sqL_up (e2.trans A.ex)) (sqT_up (e2.trans A.ex)), rfl, flat_ints, q _ F2 H (Same.refl _) A ?_⟩
    rw [if_pos rfl, inV_ints]
    exact .bl _
/-! numbers equal -/
theorem r_eqI {ta tb : TE} {i j : Int} (ha : Run (ta σ) F L (Dt K (.int i))) (hb : Run (tb σ) F L (Dt K (.int j))) : Run (tOp rEq ta tb σ) F L (Dt K (.bool (decide (i = j)))) :=
  r_op ha hb fun x y F1 e1 hx hy => by
    cases hx; cases hy
    refine fun F2 N H e2 A Q q => ⟨rfl, q _ F2 H (Same.refl _) A ?_⟩
    have e : decide (V.int i = V.int j) = decide (i = j) := by
      by_cases h : i = j
      · subst h; simp
      · simp [h]
    rw [e]; exact .bl _
theorem r_neI {ta tb : TE} {i j : Int} (ha : Run (ta σ) F L (Dt K (.int i))) (hb : Run (tb σ) F L (Dt K (.int j))) : Run (tOp rNe ta tb σ) F L (Dt K (.bool (!decide (i = j)))) :=
  r_op ha hb fun x y F1 e1 hx hy => by
    cases hx; cases hy
    refine fun F2 N H e2 A Q q => ⟨rfl, q _ F2 H (Same.refl _) A ?_⟩
    have e : decide (V.int i = V.int j) = decide (i = j) := by
      by_cases h : i = j
      · subst h; simp
      · simp [h]
    rw [e]; exact .bl _
/-! items -/
theorem r_ixT {ta tb : TE} {ds : List PyData} {n : Nat} {d : PyData} (ha : Run (ta σ) F L (Dt K (.tuple ds))) (hb : Run (tb σ) F L (Dt K (.int (n : Nat)))) (hd : ds[n]? = some d) : Run (tOp (rIxT K) ta tb σ) F L (Dt K d) :=
  r_op ha hb fun x y F1 e1 hx hy => by
    obtain ⟨a, vs, rfl, hs, hr⟩ := tp_dt.mpr hx
    cases hy
    have hn : n < vs.length := by rw [each_length hr, List.length_map]; exact (List.getElem?_eq_some_iff.mp hd).1
    obtain ⟨R', g1, g2⟩ := each_at hr (List.getElem?_eq_getElem hn)
    rw [List.getElem?_map, hd] at g1
    cases g1
    exact fun F2 N H e2 A Q q => ⟨a, vs, (n : Int), _, rfl, rfl, sqT_up (e2.trans A.ex) hs, atI_nat (List.getElem?_eq_getElem hn), q _ F2 H (Same.refl _) A (dp_up e2 g2)⟩
theorem r_ixL {ta tb : TE} {ds : List PyData} {n : Nat} {d : PyData} (ha : Run (ta σ) F L (Dt K (.list ds))) (hb : Run (tb σ) F L (Dt K (.int (n : Nat)))) (hd : ds[n]? = some d) : Run (tOp (rIxL K) ta tb σ) F L (Dt K d) :=
  r_op ha hb fun x y F1 e1 hx hy => by
    obtain ⟨a, vs, rfl, hs, hr⟩ := ls_dt.mpr hx
    cases hy
    have hn : n < vs.length := by rw [each_length hr, List.length_map]; exact (List.getElem?_eq_some_iff.mp hd).1
    obtain ⟨R', g1, g2⟩ := each_at hr (List.getElem?_eq_getElem hn)
    rw [List.getElem?_map, hd] at g1
    cases g1
    exact fun F2 N H e2 A Q q => ⟨a, vs, (n : Int), _, rfl, rfl, sqL_up (e2.trans A.ex) hs, atI_nat (List.getElem?_eq_getElem hn), q _ F2 H (Same.refl _) A (dp_up e2 g2)⟩
/-- arguments that a star hands on -/
theorem r_star {ta : TE} {ds : List PyData} (ha : Run (ta σ) F L (Dt K (.tuple ds))) (h : Run (t σ) F L (Each Rs)) : Run (tStar K ta t σ) F L (Each (ds.map (Dt K) ++ Rs)) := fun F1 N H e A Q q =>
  ha F1 N H e A _ fun x F2 H2 e2 A2 hx => by
    obtain ⟨a, vs, rfl, hs, hr⟩ := tp_dt.mpr hx
    exact ⟨a, vs, rfl, .inl (sqT_up A2.ex hs), h F2 N H2 (e.trans e2) A2 _ fun ys F3 H3 e3 A3 hy => q _ F3 H3 (e2.trans e3) A3 (each_app (Mono.go hr e3) hy)⟩
/-! comprehensions in short -/
section
variable {ι : Type} {Ri Re : ι → VP} {f : ι → Bool} {xs : List ι} {tt : TT} {wi : TI} {vs : List Nat} {j j1 j2 : Nat}
theorem r_lcN [∀ x, Mono (Re x)] (h : Run (wi σ) F L (fun J F1 => Seqs J (xs.map Ri) F1)) (hz : xs.length ≤ 40000) (hw : ∀ v, wipe ((wipe σ vs).set j (some v)) vs = wipe σ vs)
    (he : ∀ x v F1, Same F F1 → x ∈ xs → Ri x v F1 → Run (te ((wipe σ vs).set j (some v))) F1 L (Re x)) : Run (tLc wi (gName j) tYes te vs σ) F L (Ln (xs.map Re)) := by
  have q := r_lcG (f := fun _ => true) (g := gName j) (tt := tYes) (te := te) (vs := vs) h hz fun x v F1 e hx hv => rg_name (σ := wipe σ vs) fun F2 e2 => ⟨hw v, t_yes, fun _ => (he x v F1 e hx hv).up e2⟩
  rwa [show xs.filter (fun _ => true) = xs from List.filter_eq_self.mpr fun _ _ => rfl] at q
theorem r_lcF [∀ x, Mono (Re x)] (h : Run (wi σ) F L (fun J F1 => Seqs J (xs.map Ri) F1)) (hz : xs.length ≤ 40000) (hw : ∀ v, wipe ((wipe σ vs).set j (some v)) vs = wipe σ vs)
    (ht : ∀ x v F1, Same F F1 → x ∈ xs → Ri x v F1 → Run (tt ((wipe σ vs).set j (some v))) F1 L (Eqv (f x)))
    (he : ∀ x v F1, Same F F1 → x ∈ xs → Ri x v F1 → f x = true → Run (te ((wipe σ vs).set j (some v))) F1 L (Re x)) : Run (tLc wi (gName j) tt te vs σ) F L (Ln ((xs.filter f).map Re)) :=
  r_lcG (f := f) (g := gName j) (tt := tt) (te := te) (vs := vs) h hz fun x v F1 e hx hv => rg_name (σ := wipe σ vs) fun F2 e2 => ⟨hw v, (ht x v F1 e hx hv).up e2, fun hf => (he x v F1 e hx hv hf).up e2⟩
theorem r_lcP {R1 R2 : ι → VP} [∀ x, Mono (Re x)] [∀ x, Mono (R1 x)] [∀ x, Mono (R2 x)] (h : Run (wi σ) F L (fun J F1 => Seqs J (xs.map fun x => Tp K [R1 x, R2 x]) F1)) (hz : xs.length ≤ 40000) (hw : ∀ v u, wipe (((wipe σ vs).set j1 (some v)).set j2 (some u)) vs = wipe σ vs)
    (ht : ∀ x v u F1, Same F F1 → x ∈ xs → R1 x v F1 → R2 x u F1 → Run (tt (((wipe σ vs).set j1 (some v)).set j2 (some u))) F1 L (Eqv (f x)))
    (he : ∀ x v u F1, Same F F1 → x ∈ xs → R1 x v F1 → R2 x u F1 → f x = true → Run (te (((wipe σ vs).set j1 (some v)).set j2 (some u))) F1 L (Re x)) : Run (tLc wi (gTup K 2 (gCons (gName j1) (gCons (gName j2) gNil))) tt te vs σ) F L (Ln ((xs.filter f).map Re)) :=
  r_lcG (f := f) (tt := tt) (te := te) (vs := vs) h hz fun x v F1 e hx hv => rg_pair (σ := wipe σ vs) (R1 := R1 x) (R2 := R2 x) hv fun v1 v2 F2 e2 h1 h2 => ⟨hw v1 v2, ht x v1 v2 F2 (e.trans e2) hx h1 h2, fun hf => he x v1 v2 F2 (e.trans e2) hx h1 h2 hf⟩
theorem pairs_map {R0 : ι → VP} : Pairs K (xs.map R0) = xs.zipIdx.map fun p => Tp K [Dt K (.int ((p.2 : Nat) : Int)), R0 p.1] := by
  unfold Pairs
  rw [List.mapIdx_eq_zipIdx_map, List.zipIdx_map, List.map_map]
  rfl
end
end
end Rs

/-! Rs6: kinds of data, equality of rows. -/
namespace Rs
open PySem PySem.Spec PyProof.Rows L2 SlX StX
def tyName : PyData → String
  | .none => "NoneType" | .bool _ => "bool" | .int _ => "int" | .str _ => "str" | .list _ => "list" | .tuple _ => "tuple" | .dict _ => "dict"
theorem ty_dt {K : PySem.W.Frag} {F : Hp} {d : PyData} {v : V} (h : Dp K F v d) : TyX K F v (.type (tyName d)) := by
  cases h with
  | non => exact .base .non
  | bl b => exact .base (.bl b)
  | int i => exact .base (.int i)
  | str x => exact .base (.str x)
  | lst s t =>
    rcases s with (s | ⟨o, s⟩) | ⟨o, its, n, hk, hc, hd, hs, hz, r⟩
    · exact .base (.lst s)
    · exact .base (.frz s)
    · exact .kList hk hc
  | tup s t =>
    rcases s with (s | ⟨o, s⟩) | ⟨o, its, n, hk, hc, hs, hz, r⟩
    · exact .base (.tup s)
    · exact .fTuple s
    · exact .kTuple hk hc
section
variable {K : PySem.W.Frag} {σ : L2.St} {F : Hp} {L : Cells} {t : TA}
theorem r_isiD {T : String} {d : PyData} {b : Bool} (h : Run (t σ) F L (Each [Dt K d, Eqv (.ty T)])) (hb : kitB (tyName d) T = some b) : Run (tCB (rIsi K) t σ) F L (Dt K (.bool b)) :=
  r_isi h (fun v F1 F2 H hv e1 e2 => ty_dt (dp_up e2 (dp_up e1 hv))) (kit_ty hb)
end
/-! ### rows of ints -/
theorem eqvAll_ints : ∀ {ns ms : List Int}, PyData.eqvAll (ns.map .int) (ms.map .int) = decide (ns = ms)
  | [], [] => rfl
  | [], _ :: _ => rfl
  | _ :: _, [] => rfl
  | n :: ns, m :: ms => by
    have ih := eqvAll_ints (ns := ns) (ms := ms)
    rw [List.map_cons, List.map_cons, PyData.eqvAll, ih, PyData.eqv]
    by_cases h : n = m
    · subst h; simp
    · simp [h]
theorem eqv_listI {ns ms : List Int} : PyData.eqv (.list (ns.map .int)) (.list (ms.map .int)) = decide (ns = ms) := by rw [PyData.eqv]; exact eqvAll_ints
theorem eqv_tupI {ns ms : List Int} : PyData.eqv (.tuple (ns.map .int)) (.tuple (ms.map .int)) = decide (ns = ms) := by rw [PyData.eqv]; exact eqvAll_ints
theorem eqvAll_of {α : Type} {f : α → PyData} [DecidableEq α] (h : ∀ a b, PyData.eqv (f a) (f b) = decide (a = b)) : ∀ {xs ys : List α}, PyData.eqvAll (xs.map f) (ys.map f) = decide (xs = ys)
  | [], [] => by simp [PyData.eqvAll]
  | [], _ :: _ => by simp [PyData.eqvAll]
  | _ :: _, [] => by simp [PyData.eqvAll]
  | n :: ns, m :: ms => by
    have ih := eqvAll_of h (xs := ns) (ys := ms)
    rw [List.map_cons, List.map_cons, PyData.eqvAll, ih, h]
    by_cases h : n = m
    · subst h; simp
    · simp [h]
theorem lay_ints : ∀ {ns : List Int}, PyData.canLayAll0 (ns.map .int) = true
  | [] => rfl
  | n :: ns => by rw [List.map_cons, PyData.canLayAll0, lay_ints]; rfl
theorem dep_ints : ∀ {ns : List Int}, PyData.depthAll (ns.map .int) = 0
  | [] => rfl
  | n :: ns => by rw [List.map_cons, PyData.depthAll, dep_ints]; rfl
theorem lay_all {α : Type} {f : α → PyData} (h : ∀ a, (f a).canLay0 = true) : ∀ {xs : List α}, PyData.canLayAll0 (xs.map f) = true
  | [] => rfl
  | x :: xs => by rw [List.map_cons, PyData.canLayAll0, h, lay_all h]; rfl
theorem dep_all {α : Type} {f : α → PyData} {k : Nat} (h : ∀ a, (f a).depth ≤ k) : ∀ {xs : List α}, PyData.depthAll (xs.map f) ≤ k
  | [] => Nat.zero_le _
  | x :: xs => by
    rw [List.map_cons, PyData.depthAll]
    exact Nat.max_le.mpr ⟨h x, dep_all h⟩
theorem shaped_of {d : PyData} (h1 : d.canLay0 = true) (h2 : d.depth ≤ 64) : SeqAt.shaped d = true := by
  unfold SeqAt.shaped; rw [h1, Bool.true_and]; exact decide_eq_true h2
theorem sh_listI {ns : List Int} : SeqAt.shaped (.list (ns.map .int)) = true := shaped_of (by rw [PyData.canLay0]; exact lay_ints) (by rw [PyData.depth, dep_ints]; decide)
theorem sh_tupI {ns : List Int} : SeqAt.shaped (.tuple (ns.map .int)) = true := shaped_of (by rw [PyData.canLay0]; exact lay_ints) (by rw [PyData.depth, dep_ints]; decide)
end Rs

/-! Rs7: runs that change cells; dicts of one's own. -/
namespace Rs
open PySem PySem.Spec PyProof.Rows L2 SlX StX
/-- k runs, the cells may be others behind it -/
def RunX {α : Type} (k : Hp → (α → Hp → Prop) → Prop) (F : Hp) (L : Cells) (P : α → Hp → Cells → Prop) : Prop :=
  ∀ F1 N H, Same F F1 → At F1 (L ++ N) H → ∀ Q : α → Hp → Prop, (∀ v F2 L2 H2, Same F1 F2 → At F2 (L2 ++ N) H2 → P v F2 L2 → Q v H2) → k H Q
section
variable {α β : Type} {k : Hp → (α → Hp → Prop) → Prop} {F F1 : Hp} {L : Cells} {R : α → Hp → Prop} {P P' : α → Hp → Cells → Prop}
theorem RunX.up (h : RunX k F L P) (e : Same F F1) : RunX k F1 L P := fun F2 N H e2 A Q q => h F2 N H (e.trans e2) A Q q
theorem Run.x (h : Run k F L R) (hp : ∀ v F2, Same F F2 → R v F2 → P v F2 L) : RunX k F L P := fun F1 N H e A Q q => h F1 N H e A Q fun v F2 H2 e2 A2 r => q v F2 L H2 e2 A2 (hp v F2 (e.trans e2) r)
theorem x_bind {k2 : α → Hp → (β → Hp → Prop) → Prop} {S : β → Hp → Cells → Prop} (h1 : RunX k F L P) (h2 : ∀ v F1 L1, Same F F1 → P v F1 L1 → RunX (k2 v) F1 L1 S) : RunX (fun H Q => k H fun v H1 => k2 v H1 Q) F L S := fun F1 N H e A Q q =>
  h1 F1 N H e A _ fun v F2 L2 H2 e2 A2 r => h2 v F2 L2 (e.trans e2) r F2 N H2 (Same.refl _) A2 Q fun w F3 L3 H3 e3 A3 s => q w F3 L3 H3 (e2.trans e3) A3 s
theorem x_ret {v : α} (h : ∀ F1, Same F F1 → P v F1 L) : RunX (fun H Q => Q v H) F L P := fun F1 N H e A Q q => q v F1 L H (Same.refl _) A (h F1 e)
theorem RunX.perm {L' : Cells} (h : RunX k F L' P) (p : L.Perm L') : RunX k F L P := fun F1 N H e A Q q => h F1 N H e (A.perm (List.Perm.append_right N p)) Q q
theorem At.mem {H : Hp} {N : Cells} {p : Addr × HO} (A : At F (L ++ N) H) (h : p ∈ L) : H p.1 = some p.2 := A.on p (List.mem_append_left _ h)
end
section
variable {K : PySem.W.Frag} {σ : L2.St} {F : Hp} {L : Cells} {R : VP} {Rs : List VP} {t tr ta : TA} {te td ty tv : TE} {Px : V → Hp → Cells → Prop} {Pa : List V → Hp → Cells → Prop} {Nx : L2.St → Hp → Cells → Prop} {Rt : VP} {u : TS} {i j : Nat}
theorem x_nil : RunX (tNil σ) F L (fun vs _ L' => vs = [] ∧ L' = L) := x_ret fun _ _ => ⟨rfl, rfl⟩
theorem x_cons {S : List V → Hp → Cells → Prop} (h : RunX (te σ) F L Px) (hr : ∀ v F1 L1, Same F F1 → Px v F1 L1 → RunX (tr σ) F1 L1 (fun vs F2 L2 => S (v :: vs) F2 L2)) : RunX (tCons te tr σ) F L S := fun F1 N H e A Q q =>
  h F1 N H e A _ fun v F2 L2 H2 e2 A2 p => hr v F2 L2 (e.trans e2) p F2 N H2 (Same.refl _) A2 _ fun vs F3 L3 H3 e3 A3 s => q (v :: vs) F3 L3 H3 (e2.trans e3) A3 s
/-- [..], a list of one's own -/
theorem x_lst [MonoL Rs] (h : Run (t σ) F L (Each Rs)) (hl : Rs.length ≤ 100000) : RunX (tLst t σ) F L (fun v F1 L1 => ∃ p vs, v = .ref p ∧ Each Rs vs F1 ∧ L1 = (p, .lst vs) :: L) := fun F1 N H e A Q q =>
  h F1 N H e A _ fun vs F2 H2 e2 A2 hv => ⟨len_ok (by rw [each_length hv]; exact hl), fun p hp => q _ F2 ((p, .lst vs) :: L) _ e2 (A2.cell hp) ⟨p, vs, rfl, hv, rfl⟩⟩
/-- {k: v}, a dict of one's own -/
theorem x_disp1 {n : Int} {v : V} (hk : Run (ty σ) F L (Dt K (.int n))) (hv : Run (tv σ) F L (Eqv v)) : RunX (tDisp [(ty, tv)] σ) F L (fun x F1 L1 => ∃ p, x = .ref p ∧ L1 = (p, .dK [(Sum.inl n, v)]) :: L) := fun F1 N H e A Q q p hp => by
  have A1 : At F1 (L ++ ((p, .dK []) :: N)) (upd H p (.dK [])) := (A.cell (o := .dK []) hp).perm List.perm_middle.symm
  refine hk F1 _ _ e A1 _ fun x F2 H2 e2 A2 hx => hv F2 _ H2 (e.trans e2) A2 _ fun y F3 H3 e3 A3 hy => ?_
  cases hx
  cases hy
  have A4 : At F3 ((p, .dK []) :: (L ++ N)) H3 := A3.perm List.perm_middle
  refine ⟨A4.on1, [(Sum.inl n, v)], rfl, by simp, ?_⟩
  exact q _ F3 ((p, .dK [(Sum.inl n, v)]) :: L) _ (e2.trans e3) A4.put ⟨p, rfl, rfl⟩
theorem s_setX (h : RunX (te σ) F L Px) (k : ∀ v F1 L1, Same F F1 → Px v F1 L1 → Nx (σ.set i (some v)) F1 L1) : RunS (tAsg te (gName i)) σ F L Nx Rt := fun F1 N H e A D q r =>
  h F1 N H e A _ fun v F2 L2 H2 e2 A2 hv => q _ F2 L2 H2 e2 A2 (k v F2 L2 (e.trans e2) hv)
theorem q_setX (h : RunX (te σ) F L Px) (k : ∀ v F1 L1, Same F F1 → Px v F1 L1 → RunS u (σ.set i (some v)) F1 L1 Nx Rt) : RunS (tSeq (tAsg te (gName i)) u) σ F L Nx Rt := fun F1 N H e A D q r =>
  h F1 N H e A _ fun v F2 L2 H2 e2 A2 hv => k v F2 L2 (e.trans e2) hv F2 N H2 (Same.refl _) A2 D (fun σ3 F3 L3 H3 e3 A3 n => q σ3 F3 L3 H3 (e2.trans e3) A3 n) fun w F3 H3 e3 A3 n => r w F3 H3 (e2.trans e3) A3 n
theorem q_dropX (h : RunX (te σ) F L Px) (k : ∀ v F1 L1, Same F F1 → Px v F1 L1 → RunS u σ F1 L1 Nx Rt) : RunS (tSeq (tDrop te) u) σ F L Nx Rt := fun F1 N H e A D q r =>
  h F1 N H e A _ fun v F2 L2 H2 e2 A2 hv => k v F2 L2 (e.trans e2) hv F2 N H2 (Same.refl _) A2 D (fun σ3 F3 L3 H3 e3 A3 n => q σ3 F3 L3 H3 (e2.trans e3) A3 n) fun w F3 H3 e3 A3 n => r w F3 H3 (e2.trans e3) A3 n
theorem s_dropX (h : RunX (te σ) F L Px) (k : ∀ v F1 L1, Same F F1 → Px v F1 L1 → Nx σ F1 L1) : RunS (tDrop te) σ F L Nx Rt := fun F1 N H e A D q r =>
  h F1 N H e A _ fun v F2 L2 H2 e2 A2 hv => q _ F2 L2 H2 e2 A2 (k v F2 L2 (e.trans e2) hv)
theorem q_par {S : V → V → Hp → Cells → Prop} (h : RunX (t σ) F L (fun vs F1 L1 => ∃ v w, vs = [v, w] ∧ S v w F1 L1)) (k : ∀ v w F1 L1, Same F F1 → S v w F1 L1 → RunS u ((σ.set i (some v)).set j (some w)) F1 L1 Nx Rt) : RunS (tSeq (tPar i j t) u) σ F L Nx Rt := fun F1 N H e A D q r =>
  h F1 N H e A _ fun vs F2 L2 H2 e2 A2 ⟨v, w, hvs, hs⟩ => ⟨v, w, hvs, k v w F2 L2 (e.trans e2) hs F2 N H2 (Same.refl _) A2 D (fun σ3 F3 L3 H3 e3 A3 n => q σ3 F3 L3 H3 (e2.trans e3) A3 n) fun w F3 H3 e3 A3 n => r w F3 H3 (e2.trans e3) A3 n⟩
/-- l.pop() -/
theorem x_pop {l : Addr} {xs : List V} {y : V} (hl : Run (te σ) F ((l, .lst (xs ++ [y])) :: L) (Eqv (.ref l))) : RunX (tBM0 K "list" rPop te σ) F ((l, .lst (xs ++ [y])) :: L) (fun v F1 L1 => v = y ∧ L1 = (l, .lst xs) :: L) := fun F1 N H e A Q q =>
  hl F1 N H e A _ fun v F2 H2 e2 A2 hv => by
    cases hv
    refine ⟨.inl ⟨rfl, _, .inl (.inl (At.on1 A2))⟩, l, _, y, rfl, rfl, At.on1 A2, by simp, ?_⟩
    have q2 := q y F2 ((l, .lst xs) :: L) _ e2 (At.put (u := .lst xs) A2) ⟨rfl, rfl⟩
    rwa [List.dropLast_concat]
/-- l.pop(i) -/
theorem x_popAt {l : Addr} {xs : List V} {n : Nat} {y : V} (hl : Run (te σ) F ((l, .lst xs) :: L) (Eqv (.ref l))) (hi : Run (t σ) F ((l, .lst xs) :: L) (Each [Dt K (.int (n : Nat))])) (hn : xs[n]? = some y) (hz : n < 100000) :
    RunX (tBM K "list" rPopAt te t σ) F ((l, .lst xs) :: L) (fun v F1 L1 => v = y ∧ L1 = (l, .lst (xs.eraseIdx n)) :: L) := fun F1 N H e A Q q =>
  hl F1 N H e A _ fun v F2 H2 e2 A2 hv => by
    cases hv
    refine ⟨.inl ⟨rfl, _, .inl (.inl (At.on1 A2))⟩, hi F2 N H2 (e.trans e2) A2 _ fun vs F3 H3 e3 A3 hvs => ?_⟩
    obtain ⟨v, rfl, hv1⟩ := each1 hvs
    cases hv1
    have hlt := (List.getElem?_eq_some_iff.mp hn).1
    refine ⟨l, xs, (n : Int), n, y, rfl, rfl, At.on1 A3, by omega, by omega, ?_, hn, q y F3 ((l, .lst (xs.eraseIdx n)) :: L) _ (e2.trans e3) (At.put A3) ⟨rfl, rfl⟩⟩
    exact (ixN_seq (by unfold ixN; rw [if_pos (by omega), if_pos (by omega)]; simp)).1
/-- k in d, d a dict of one's own -/
theorem r_din {d : Addr} {kvs : List (Key × V)} {n : Int} (hm : (d, HO.dK kvs) ∈ L) (hk : Run (ty σ) F L (Dt K (.int n))) (hd : Run (td σ) F L (Eqv (.ref d))) : Run (tDIn ty td σ) F L (Dt K (.bool (valV kvs (Sum.inl n)).isSome)) := fun F1 N H e A Q q =>
  hk F1 N H e A _ fun x F2 H2 e2 A2 hx => hd F2 N H2 (e.trans e2) A2 _ fun y F3 H3 e3 A3 hy => by
    cases hx
    cases hy
    exact ⟨d, _, rfl, DGet.k (k := Sum.inl n) (At.mem A3 hm), q _ F3 H3 (e2.trans e3) A3 (.bl _)⟩
theorem r_dnotin {d : Addr} {kvs : List (Key × V)} {n : Int} (hm : (d, HO.dK kvs) ∈ L) (hk : Run (ty σ) F L (Dt K (.int n))) (hd : Run (td σ) F L (Eqv (.ref d))) : Run (tDNotIn ty td σ) F L (Dt K (.bool (!(valV kvs (Sum.inl n)).isSome))) := fun F1 N H e A Q q =>
  hk F1 N H e A _ fun x F2 H2 e2 A2 hx => hd F2 N H2 (e.trans e2) A2 _ fun y F3 H3 e3 A3 hy => by
    cases hx
    cases hy
    exact ⟨d, _, rfl, DGet.k (k := Sum.inl n) (At.mem A3 hm), q _ F3 H3 (e2.trans e3) A3 (.bl _)⟩
/-- d[k] = v -/
theorem q_dput {d : Addr} {kvs : List (Key × V)} {n : Int} {v : V} (hv : Run (tv σ) F ((d, .dK kvs) :: L) (Eqv v)) (hd : Run (td σ) F ((d, .dK kvs) :: L) (Eqv (.ref d))) (hk : Run (ty σ) F ((d, .dK kvs) :: L) (Dt K (.int n))) (hl : kvs.length < 100000)
    (k : ∀ F1, Same F F1 → RunS u σ F1 ((d, .dK (putK kvs (Sum.inl n) v)) :: L) Nx Rt) : RunS (tSeq (sDPut td ty tv) u) σ F ((d, .dK kvs) :: L) Nx Rt := fun F1 N H e A D q r =>
  hv F1 N H e A _ fun x F2 H2 e2 A2 hx => hd F2 N H2 (e.trans e2) A2 _ fun y F3 H3 e3 A3 hy => hk F3 N H3 ((e.trans e2).trans e3) A3 _ fun z F4 H4 e4 A4 hz => by
    cases hx
    cases hy
    cases hz
    refine ⟨d, _, rfl, DPut.k (k := Sum.inl n) (At.on1 A4) (len_lt hl), ?_⟩
    exact k F4 (((e.trans e2).trans e3).trans e4) F4 N _ (Same.refl _) (At.put A4) D (fun σ5 F5 L5 H5 e5 A5 n => q σ5 F5 L5 H5 (((e2.trans e3).trans e4).trans e5) A5 n) fun w F5 H5 e5 A5 n => r w F5 H5 (((e2.trans e3).trans e4).trans e5) A5 n
/-- sorted(d), d by ints -/
theorem r_sortedDI {d : Addr} {kvs : List (Key × V)} {ks : List Int} (hm : (d, HO.dK kvs) ∈ L) (h : Run (t σ) F L (Each [Eqv (.ref d)])) (hk : kvs.map (·.1) = ks.map Sum.inl) (hl : ks.length < 64) (os : List Int) (h1 : os.Perm ks) (h2 : os.Pairwise (· ≤ ·)) : Run (tCB rSortedDI t σ) F L (Dt K (.list (os.map .int))) := r_cb h fun vs F1 e1 hv => by
  obtain ⟨v, rfl, hv1⟩ := each1 hv
  cases hv1
  refine fun F2 N H e A Q q => ⟨d, kvs, ks, rfl, .inl (At.mem A hm), hk, hl, fun ms p hp hmm hn => q _ (upd F2 p _) _ (same_new (A.free hn)) (A.new hn) ?_⟩
  have e : ms = os := List.Perm.eq_of_pairwise (le := (· ≤ ·)) (fun a b _ _ x y => Int.le_antisymm x y) hmm h2 (hp.trans h1.symm)
  rw [e]
  exact .lst (.inl (.inl upd_same)) ints_vs
end
end Rs

/-! Rs8: objects with slots: made, told, asked. -/
namespace Rs
open PySem PySem.Spec PyProof.Rows L2 SlX StX
/-- the slots is of vs are xs -/
def Got (is : List Nat) (xs : List V) (vs : List (Option V)) : Prop := is.length = xs.length ∧ ∀ (k i : Nat) (x : V), is[k]? = some i → xs[k]? = some x → vs[i]? = some (some x)
theorem got_nil : Got [] [] [] := ⟨rfl, fun k i x h => by cases h⟩
theorem Got.put {is : List Nat} {xs : List V} {vs : List (Option V)} {i : Nat} {x : V} (g : Got is xs vs) (h : i ∉ is) : Got (is ++ [i]) (xs ++ [x]) (putS i x vs) := by
  refine ⟨by rw [List.length_append, List.length_append, g.1]; rfl, fun k j y hk hy => ?_⟩
  by_cases hl : k < is.length
  · rw [List.getElem?_append_left hl] at hk
    rw [List.getElem?_append_left (by rw [← g.1]; exact hl)] at hy
    have hne : j ≠ i := fun z => h (z ▸ List.mem_of_getElem? hk)
    exact (putS_ne hne).mpr (g.2 k j y hk hy)
  · rw [List.getElem?_append_right (by omega)] at hk
    rw [List.getElem?_append_right (by rw [← g.1]; omega)] at hy
    have e0 : k - is.length = 0 := by
      cases z : k - is.length with
      | zero => rfl
      | succ m => rw [z] at hk; cases hk
    rw [e0] at hk
    rw [← g.1, e0] at hy
    cases hk; cases hy
    exact putS_get i x vs
/-- an object of the class at C with slots stands -/
def Ob (C : Addr) (is : List Nat) (Rs : List VP) : VP := fun v F => ∃ a dx vs xs, v = .ref a ∧ F a = some (SlO a C dx vs) ∧ F dx = some (.xd []) ∧ Got is xs vs ∧ Each Rs xs F
instance {C : Addr} {is : List Nat} {Rs : List VP} [MonoL Rs] : Mono (Ob C is Rs) := ⟨fun _ _ _ e ⟨a, dx, vs, xs, h, h1, h2, g, r⟩ => ⟨a, dx, vs, xs, h, e _ _ h1, e _ _ h2, g, MonoL.mono _ _ _ e r⟩⟩
def IsOb (C : Addr) : VP := fun v F => ∃ a dx vs, v = .ref a ∧ F a = some (SlO a C dx vs) ∧ F dx = some (.xd [])
instance {C : Addr} : Mono (IsOb C) := ⟨fun _ _ _ e ⟨a, dx, vs, h, h1, h2⟩ => ⟨a, dx, vs, h, e _ _ h1, e _ _ h2⟩⟩
theorem Ob.is {C : Addr} {is : List Nat} {Rs : List VP} {v : V} {F : Hp} (h : Ob C is Rs v F) : IsOb C v F := by
  obtain ⟨a, dx, vs, xs, h, h1, h2, _⟩ := h
  exact ⟨a, dx, vs, h, h1, h2⟩
theorem at_slt {C a dx : Addr} {vs : List (Option V)} {F H : Hp} {L : Cells} (A : At F L H) (h1 : F a = some (SlO a C dx vs)) (h2 : F dx = some (.xd [])) : Slt H a C dx vs := .inr ⟨A.ex _ _ h1, A.ex _ _ h2⟩
/-- a slot of the text -/
def SlF (K : PySem.W.Frag) (C : Addr) (f : Str) (i : Nat) : Prop := SCls K C ∧ ∃ p, Slot1 K C f p i
section
variable {K : PySem.W.Frag} {σ : L2.St} {F : Hp} {L : Cells} {Nx : L2.St → Hp → Cells → Prop} {Rt R : VP} {Rs : List VP} {t u : TS} {ta tv te : TE} {tt : TA} {C : Addr} {is : List Nat} {f : Str} {i : Nat} {E : XK}
theorem r_fld [MonoL Rs] {k : Nat} (s : SlF K C f i) (h : Run (ta σ) F L (Ob C is Rs)) (hk : is[k]? = some i) (hR : Rs[k]? = some R) : Run (tSl K ta f σ) F L R := fun F1 N H e A Q q => by
  refine h F1 N H e A _ fun v F2 H2 e2 A2 hv => ?_
  obtain ⟨a, dx, vs, xs, rfl, h1, h2, g, r⟩ := hv
  obtain ⟨sc, p, sp⟩ := s
  have hl : k < xs.length := by rw [← g.1]; exact (List.getElem?_eq_some_iff.mp hk).1
  obtain ⟨R', hR', hx⟩ := each_at r (List.getElem?_eq_getElem hl)
  rw [hR] at hR'
  cases hR'
  exact ⟨a, C, dx, p, vs, i, xs[k], rfl, at_slt A2 h1 h2, sc, sp, g.2 k i _ hk (List.getElem?_eq_getElem hl), q _ F2 H2 e2 A2 hx⟩
/-- of an object that is still one's own -/
theorem r_sown {a dx : Addr} {vs : List (Option V)} {v : V} [Mono R] (s : SlF K C f i) (h : Run (ta σ) F L (Eqv (.ref a))) (m1 : (a, SlO a C dx vs) ∈ L) (m2 : (dx, HO.xd []) ∈ L) (hv : vs[i]? = some (some v)) (hR : R v F) : Run (tSl K ta f σ) F L R := fun F1 N H e A Q q => by
  refine h F1 N H e A _ fun v F2 H2 e2 A2 hv' => ?_
  obtain rfl : v = .ref a := hv'
  obtain ⟨sc, p, sp⟩ := s
  exact ⟨a, C, dx, p, vs, i, _, rfl, .inr ⟨A2.mem m1, A2.mem m2⟩, sc, sp, hv, q _ F2 H2 e2 A2 (Mono.go hR (e.trans e2))⟩
inductive SCell (a C dx : Addr) : List (Option V) → HO → HO → Prop
  | new : SCell a C dx [] (.ins C dx []) (.own a)
  | old (vs : List (Option V)) : SCell a C dx vs (SlO a C dx vs) (.xd [])
theorem SCell.slt {a C dx : Addr} {vs : List (Option V)} {o o2 : HO} {H : Hp} (c : SCell a C dx vs o o2) (h1 : H a = some o) (h2 : H dx = some o2) : Slt H a C dx vs := by
  cases c with
  | new => exact .inl ⟨h1, rfl⟩
  | old => exact .inr ⟨h1, h2⟩
theorem s_slset [Mono R] {a dx : Addr} {vs : List (Option V)} {o o2 : HO} (s : SlF K C f i) (hc : SCell a C dx vs o o2) (ho : Run (ta σ) F ((a, o) :: (dx, o2) :: L) (Eqv (.ref a))) (hv : Run (tv σ) F ((a, o) :: (dx, o2) :: L) R)
    (k : ∀ v F1, Same F F1 → R v F1 → Nx σ F1 ((a, SlO a C dx (putS i v vs)) :: (dx, .xd []) :: L)) : RunS (sSl K ta tv f) σ F ((a, o) :: (dx, o2) :: L) Nx Rt := fun F1 N H e A D q r => by
  refine hv F1 N H e A _ fun v F2 H2 e2 A2 hv => ?_
  refine (ho.up (e.trans e2)) F2 N H2 (Same.refl _) A2 _ fun x F3 H3 e3 A3 hx => ?_
  obtain rfl : x = .ref a := hx
  obtain ⟨sc, p, sp⟩ := s
  refine ⟨a, C, dx, p, vs, i, rfl, hc.slt (A3.on _ List.mem_cons_self) (A3.on _ (List.mem_cons_of_mem _ List.mem_cons_self)), sc, sp, ?_⟩
  have A4 : At F3 ((a, SlO a C dx (putS i v vs)) :: (dx, .xd []) :: (L ++ N)) (slH H3 a C dx (putS i v vs)) := At.put (((A3.perm (List.Perm.swap _ _ _)).put (u := .xd [])).perm (List.Perm.swap _ _ _)) (by intro _ z; unfold SlO at z; nomatch z)
  exact q σ F3 _ _ (e2.trans e3) A4 (k v F3 (e.trans (e2.trans e3)) (Mono.go hv e3))
theorem q_slset [Mono R] {a dx : Addr} {vs : List (Option V)} {o o2 : HO} (s : SlF K C f i) (hc : SCell a C dx vs o o2) (ho : Run (ta σ) F ((a, o) :: (dx, o2) :: L) (Eqv (.ref a))) (hv : Run (tv σ) F ((a, o) :: (dx, o2) :: L) R)
    (k : ∀ v F1, Same F F1 → R v F1 → RunS u σ F1 ((a, SlO a C dx (putS i v vs)) :: (dx, .xd []) :: L) Nx Rt) : RunS (tSeq (sSl K ta tv f) u) σ F ((a, o) :: (dx, o2) :: L) Nx Rt :=
  s_seq (Mid := fun σ' F' L' => ∃ v, σ' = σ ∧ R v F' ∧ L' = (a, SlO a C dx (putS i v vs)) :: (dx, .xd []) :: L) (s_slset s hc ho hv fun v F1 e hr => ⟨v, rfl, hr, rfl⟩) fun σ' F' L' e ⟨v, h1, h2, h3⟩ => by
    subst h1; subst h3; exact k v F' e h2
/-! made -/
def SpI {γ : Type} (C : Addr) (pre : γ → Prop) (Rs : γ → List VP) (R : γ → VP) : Sp := fun vs H Q _ => ∃ g F N a dx ws, vs = .ref a :: ws ∧ pre g ∧ At F ((a, .ins C dx []) :: (dx, .own a) :: N) H ∧ Each (Rs g) ws F ∧ ∀ F' H', Same F F' → At F' N H' → R g (.ref a) F' → Q .non H'
theorem r_mk {γ : Type} {pre : γ → Prop} {Rs : γ → List VP} {R : γ → VP} (g : γ) (hp : pre g) [MonoL (Rs g)] (h : Run (tt σ) F L (Each (Rs g))) : Run (tMake C (SpI C pre Rs R) [] E tt σ) F L (R g) := run_bind (k := tt σ) h fun vs F1 e1 hv => fun F2 N H e2 A Q q x dx h1 h2 h3 => by
  rw [List.append_nil]
  refine ⟨g, F2, L ++ N, x, dx, vs, rfl, hp, ?_, MonoL.mono _ _ _ e2 hv, fun F' H' e' A' hr => ⟨rfl, q _ F' H' e' A' hr⟩⟩
  refine (A.cell (o := .own x) h2).cell (o := .ins C dx []) (a := x) ?_
  rw [upd_ne h3.symm]; exact h1
end
structure MkF (P : Program) (w : World) (K : PySem.W.Frag) (mg : Str → Option Value) (base : Heap) (k : Nat) (x : Str) (C : Addr) (sp : Sp) : Prop where
  ex : ∃ f fd ps, Mk K C f ∧ FnOk P w K mg base CX0 k f fd ps sp ∧ mg x = some (.ref C) ∧ Binds K fd ps []
section
variable {X : Cx} {e o : Expr} {es : List Expr} {t : TA} {ta : TE} {p pos apos : Pos} {f x m : Str}
theorem p_mk {k j : Nat} {C : Addr} {sp : Sp} (c : MkF X.prog X.w X.K X.mg X.base k x C sp) (hr : Room j X.A) (hk : k + 1 ≤ j) (ha : PA X (e :: es) t) (hg : Gl X x := by rfl)
    (hdb : (x == ("__debug__" : Str)) = false := by decide) (he : starEach (e :: es) X.env = (false, eval e X.env) :: starEach es X.env := by rfl) (hpl : (backTo pos (starEach es X.env)).any (·.1) = false := by rfl) :
    PE X (.Call (.Name x p) (e :: es) [] pos) (tMake C sp [] E0 t) := by
  obtain ⟨f, fd, ps, M, F, hm, b⟩ := c.ex
  exact pe_make M F (hr.mono hk) hg hm b .nil pass0 ha hdb he hpl
theorem p_met0 {k j : Nat} {C : Addr} {sp : Sp} {pl : Sem Bool} (c : MetS X.prog X.w X.K X.mg X.base k C m sp) (hr : Room j X.A) (hk : k ≤ j) (he : PE X o ta)
    (ht : eval (.Call (.Attribute o m apos) [] [] pos) X.env = (do
      let ov ← eval o X.env
      standAt apos.atName
      let (f, first) ← holding [ov] (getMethod ov m pl)
      callWith pos f first (backTo pos (starEach [] X.env)) (backToKw pos (keywordEach [] X.env))) := by rfl) :
    PE X (.Call (.Attribute o m apos) [] [] pos) (tMethSl C sp E0 ta tNil) := by
  obtain ⟨g, sc, me, F⟩ := c.ex
  exact pe_methSl0 (pl := pl) he sc me F (hr.mono hk) pass0 ht
end
section
variable {P : Program} {w : World} {K : PySem.W.Frag} {mg : Str → Option Value} {base : Heap}
theorem init_ok {x qual : Str} {st : Stmt} {f C : Addr} {fd : FuncData} {N ps : List Str} {k : Nat} {γ : Type} {pre : γ → Prop} {Rs : γ → List VP} {R : γ → VP} (F : Fun K x qual st f fd) (S : FnScope N ps (defScope st)) (len : ∀ g, (Rs g).length + 1 = ps.length)
    (body : ∀ (cdv : Value) (A : Around) (outer : List Env) (s : Shared) (H : Hp) (E : XK) (g : γ) (a dx : Addr) (vs : List V) (F0 : Hp), Room k (A.deeper (envOfC qual (defScope st) s.heap.objs.size f cdv)) → pre g → Each (Rs g) vs F0 →
      ∃ t, PSs (cxOf CX0 P w K mg base N qual (defScope st) f cdv A outer s H E).nox (defBody st) t ∧ RunS t (start N (.ref a :: vs)) F0 [(a, .ins C dx []), (dx, .own a)] (fun _ F' L' => ∃ o o2, L' = [(a, o), (dx, o2)] ∧ ∀ F2, Same F' F2 → F2 a = some o → F2 dx = some o2 → R g (.ref a) F2) (fun _ _ => False)) :
    FnOk P w K mg base CX0 (k + 1) f fd ps (SpI C pre Rs R) := by
  refine F.ok S (fun vs H Q E ⟨g, F0, N0, a, dx, ws, e, hp, A, hv, q⟩ => ?_) fun cdv A outer s H vs Q E hr ⟨g, F0, N0, a, dx, ws, e, hp, A0, hv, q⟩ => ?_
  · subst e
    rw [List.length_cons, each_length hv]; exact len g
  · subst e
    obtain ⟨t, h1, h2⟩ := body cdv A outer s H E g a dx ws F0 hr hp hv
    refine ⟨t, h1, h2 F0 N0 H (Same.refl _) A0 _ (fun _ F' L' H' e' A' n => ?_) fun v F' H' e' A' r => r.elim⟩
    obtain ⟨o, o2, rfl, n⟩ := n
    have A1 : At (upd F' a o) ((dx, o2) :: N0) H' := At.keep A'
    have A2 : At (upd (upd F' a o) dx o2) N0 H' := At.keep A1
    have hne : a ≠ dx := fun z => by
      have := A1.off1
      rw [z, upd_same] at this; cases this
    have s1 : Same F' (upd (upd F' a o) dx o2) := (same_new A'.off1).trans (same_new A1.off1)
    exact q _ H' (e'.trans s1) A2 (n _ s1 (by rw [upd_ne hne, upd_same]) upd_same)
/-- by values alone -/
theorem fnr_mk {f : Addr} {fd : FuncData} {ps : List Str} {k : Nat} {sp : Sp} (G : FnOk P w K mg base CX0 k f fd ps sp) (b : Binds K fd ps []) : FnR P w K mg base CX0 k f sp :=
  (G.raw b .nil).imp fun vs H Q E h => by rw [List.append_nil]; exact h
end
section
variable {K : PySem.W.Frag} {σ : L2.St} {F : Hp} {L : Cells} {γ : Type} {pre : γ → Prop} {Rs : γ → List VP} {R : γ → VP} {S : VP} {Ss : List VP} {ta : TE} {tt : TA} {C : Addr} {E : XK}
theorem r_met (g : γ) (hp : pre g) [MonoL (Rs g)] [Mono S] (hg : Rs g = S :: Ss) (ho : Run (ta σ) F L S) (hS : ∀ v F1, S v F1 → IsOb C v F1) (h : Run (tt σ) F L (Each Ss)) : Run (tMethSl C (SpF pre Rs R) E ta tt σ) F L (R g) := fun F1 N H e A Q q => by
  refine ho F1 N H e A _ fun v F2 H2 e2 A2 hv => ?_
  obtain ⟨a, dx, vs, rfl, h1, h2⟩ := hS _ _ hv
  refine ⟨a, dx, vs, rfl, at_slt A2 h1 h2, ?_⟩
  refine (h.up (e.trans e2)) F2 N H2 (Same.refl _) A2 _ fun ws F3 H3 e3 A3 hw => ?_
  refine ⟨g, F3, L ++ N, hp, A3, ?_, fun v F4 H4 e4 A4 r => q v F4 H4 (e2.trans (e3.trans e4)) A4 r⟩
  rw [hg]
  exact ⟨Mono.go hv e3, hw⟩
theorem r_prp (g : γ) (hp : pre g) (hg : Rs g = [S]) (ho : Run (ta σ) F L S) (hS : ∀ v F1, S v F1 → IsOb C v F1) : Run (tPropSl C (SpF pre Rs R) E ta σ) F L (R g) := fun F1 N H e A Q q => by
  refine ho F1 N H e A _ fun v F2 H2 e2 A2 hv => ?_
  obtain ⟨a, dx, vs, rfl, h1, h2⟩ := hS _ _ hv
  refine ⟨a, dx, vs, rfl, at_slt A2 h1 h2, ?_⟩
  refine ⟨g, F2, L ++ N, hp, A2, ?_, fun v F4 H4 e4 A4 r => q v F4 H4 (e2.trans e4) A4 r⟩
  rw [hg]
  exact ⟨hv, True.intro⟩
end
end Rs

/-! Rs9: a comprehension of two fors. -/
namespace Rs
open PySem PySem.Spec PyProof.Rows L2 SlX StX
def flat {ι κ : Type} (ys : ι → List κ) (xs : List ι) : List (ι × κ) := xs.flatMap fun x => (ys x).map fun y => (x, y)
theorem flat_take {ι κ : Type} {ys : ι → List κ} {xs : List ι} {i : Nat} {x : ι} (h : xs[i]? = some x) : flat ys (xs.take (i + 1)) = flat ys (xs.take i) ++ (ys x).map fun y => (x, y) := by
  unfold flat
  rw [List.take_succ, h, List.flatMap_append]
  simp
theorem flat_le {ι κ : Type} {ys : ι → List κ} {xs : List ι} {i : Nat} : (flat ys (xs.take i)).length ≤ (flat ys xs).length := by
  conv => rhs; rw [← List.take_append_drop i xs]
  unfold flat
  rw [List.flatMap_append, List.length_append]
  omega
section
variable {K : PySem.W.Frag} {σ : L2.St} {F : Hp} {L : Cells} {wi wi1 : TI} {g g1 : TG} {te : TE} {vs vs1 : List Nat}
theorem r_lc2 {ι κ : Type} {Ri : ι → VP} {Rj Re : ι → κ → VP} {xs : List ι} {ys : ι → List κ} [∀ x y, Mono (Re x y)] (h : Run (wi σ) F L (fun J F1 => Seqs J (xs.map Ri) F1)) (hz : (flat ys xs).length ≤ 40000)
    (ht : ∀ x v F1, Same F F1 → x ∈ xs → Ri x v F1 → RunG g v (wipe σ vs) F1 L fun σ2 F2 => wipe σ2 vs = wipe σ vs ∧ Run (wi1 σ2) F2 L (fun J F3 => Seqs J ((ys x).map (Rj x)) F3) ∧
      ∀ y u F3, Same F2 F3 → y ∈ ys x → Rj x y u F3 → RunG g1 u (wipe σ2 vs1) F3 L fun σ3 F4 => wipe σ3 vs1 = wipe σ2 vs1 ∧ Run (te σ3) F4 L (Re x y)) :
    Run (tLc2 wi g tYes wi1 g1 tYes te vs vs1 σ) F L (Ln ((flat ys xs).map fun p => Re p.1 p.2)) := fun F1 N H e A Q q =>
  h F1 N H e A _ fun J F2 H2 e2 A2 ⟨G, Y, wk, hG, hY⟩ D hD => by
    rw [List.length_map] at wk
    let Pv : Nat → Hp → Prop := fun i H' => ∃ F' acc, Same F2 F' ∧ At F' ((D, .lst acc) :: (L ++ N)) H' ∧ Each ((flat ys (xs.take i)).map fun p => Re p.1 p.2) acc F'
    refine ⟨fun i m H => m = xs.length - i ∧ i ≤ xs.length ∧ Pv i H, ⟨xs.length, by simp, Nat.zero_le _, F2, [], Same.refl _, A2.cell hD, by simp [flat, Each]⟩, ?_⟩
    rintro i m H0 ⟨rfl, hi0, F', acc, e', A', hacc⟩
    have q0 := hG F' _ H0 e' A'
    by_cases hi : i < xs.length
    · refine .inr ⟨wk.goes i H0 hi q0, Pv (i + 1), fun H' p' => ⟨xs.length - (i + 1), by omega, rfl, hi, p'⟩, fun x H4 y0 => ?_⟩
      have y := wk.yields i H0 x H4 hi q0 y0
      obtain ⟨F3, R, e3, A3, hR, hx⟩ := hY F' _ H0 i x H4 e' A' (by rw [List.length_map]; exact hi) y
      rw [List.getElem?_map] at hR
      have hxi : xs[i]? = some xs[i] := List.getElem?_eq_getElem hi
      rw [hxi] at hR
      cases hR
      have P0 : ∀ ac : List V, ((D, HO.lst ac) :: (L ++ N)).Perm (L ++ ((D, .lst ac) :: N)) := fun ac => List.perm_middle.symm
      refine ht xs[i] x F3 (((e.trans e2).trans e').trans e3) (List.getElem_mem hi) hx F3 ((D, .lst acc) :: N) H4 (Same.refl _) (A3.perm (P0 _)) _ fun σ2 F4 H5 e4 A4 ⟨hw, hi1, hin⟩ => ⟨hw, ?_⟩
      unfold tYes
      refine iteT ?_
      refine hi1 F4 ((D, .lst acc) :: N) H5 (Same.refl _) A4 _ fun J1 F5 H6 e5 A5 ⟨G1, Y1, wk1, hG1, hY1⟩ => ?_
      rw [List.length_map] at wk1
      let Pw : Nat → Hp → Prop := fun j H' => ∃ F' acc, Same F5 F' ∧ At F' ((D, .lst acc) :: (L ++ N)) H' ∧ Each ((flat ys (xs.take i) ++ ((ys xs[i]).take j).map fun y => (xs[i], y)).map fun p => Re p.1 p.2) acc F'
      refine ⟨fun j k H => k = (ys xs[i]).length - j ∧ j ≤ (ys xs[i]).length ∧ Pw j H, ⟨_, rfl, Nat.zero_le _, F5, acc, Same.refl _, A5.perm (P0 _).symm, ?_⟩, ?_⟩
      · rw [List.take_zero, List.map_nil, List.append_nil]
        exact Mono.go hacc ((e3.trans e4).trans e5)
      · rintro j k H7 ⟨rfl, hj0, F7, ac7, e7, A7, hac7⟩
        have q7 := hG1 F7 _ H7 e7 A7
        by_cases hj : j < (ys xs[i]).length
        · refine .inr ⟨wk1.goes j H7 hj q7, Pw (j + 1), fun H' p' => ⟨_, by omega, rfl, hj, p'⟩, fun u H8 y8 => ?_⟩
          have y9 := wk1.yields j H7 u H8 hj q7 y8
          obtain ⟨F8, R, e8, A8, hR, hu⟩ := hY1 F7 _ H7 j u H8 e7 A7 (by rw [List.length_map]; exact hj) y9
          rw [List.getElem?_map] at hR
          have hyj : (ys xs[i])[j]? = some (ys xs[i])[j] := List.getElem?_eq_getElem hj
          rw [hyj] at hR
          cases hR
          refine hin (ys xs[i])[j] u F8 ((e5.trans e7).trans e8) (List.getElem_mem hj) hu F8 ((D, .lst ac7) :: N) H8 (Same.refl _) (A8.perm (P0 _)) _ fun σ3 F9 H9 e9 A9 ⟨hw3, hv⟩ => ⟨hw3, ?_⟩
          refine iteT ?_
          refine hv F9 ((D, .lst ac7) :: N) H9 (Same.refl _) A9 _ fun z F10 H10 e10 A10 hz10 => ?_
          have A11 := A10.perm (P0 _).symm
          have hlen : ac7.length ≤ (flat ys xs).length := by
            rw [each_length hac7, List.length_map]
            refine Nat.le_trans ?_ (flat_le (i := i + 1))
            rw [flat_take hxi, List.length_append, List.length_append, List.length_map, List.length_map, List.length_take]
            omega
          refine ⟨ac7, A11.on1, len_lt (by omega), F10, ac7 ++ [z], ((e7.trans e8).trans e9).trans e10, A11.put, ?_⟩
          rw [List.take_succ, hyj, Option.toList_some, List.map_append, List.map_append, List.map_append, ← List.append_assoc, ← List.map_append]
          exact each_app (Mono.go hac7 ((e8.trans e9).trans e10)) ⟨hz10, True.intro⟩
        · have ej : j = (ys xs[i]).length := by omega
          subst ej
          refine .inl ⟨wk1.stops H7 q7, F7, ac7, (((e'.trans e3).trans e4).trans e5).trans e7, A7, ?_⟩
          rw [flat_take hxi]
          rw [List.take_length] at hac7
          exact hac7
    · have ei : i = xs.length := by omega
      subst ei
      rw [List.take_length] at hacc
      refine .inl ⟨wk.stops H0 q0, ?_⟩
      have A1 : At F' ((D, .lst acc) :: (L ++ N)) H0 := A'
      exact q (.ref D) (upd F' D (.lst acc)) H0 ((e2.trans e').trans (same_new A1.off1)) A1.keep ⟨D, acc, rfl, upd_same, Mono.go hacc (same_new A1.off1)⟩
end
end Rs

/-! Ma: rows of houses, ways. -/
namespace Ma
open PySem
abbrev Rows := List (List Nat)
abbrev nI (n : Nat) : PyData := .int (n : Int)
abbrev dRow (r : List Nat) : PyData := .tuple (r.map nI)
abbrev dRows (rs : Rows) : PyData := .tuple (rs.map dRow)
abbrev Asc (r : List Nat) : Prop := r.Pairwise (· < ·)
/-- the rows of a web -/
structure Ok (rs : Rows) : Prop where
  pos : 1 ≤ rs.length
  le : rs.length ≤ 5
  asc : ∀ r ∈ rs, Asc r
  lt : ∀ r ∈ rs, ∀ x ∈ r, x < rs.length
  ne : ∀ (i : Nat) r, rs[i]? = some r → i ∉ r
abbrev row (rs : Rows) (y : Nat) : List Nat := rs.getD y []
theorem row_get {rs : Rows} {y : Nat} {r : List Nat} (h : rs[y]? = some r) : row rs y = r := by
  rw [row, List.getD_eq_getElem?_getD, h]; rfl
theorem get_row {rs : Rows} {y : Nat} (h : y < rs.length) : rs[y]? = some (row rs y) := by
  rw [row, List.getD_eq_getElem?_getD, List.getElem?_eq_getElem h]; rfl
theorem Ok.row_asc {rs : Rows} (o : Ok rs) (y : Nat) : Asc (row rs y) := by
  by_cases h : y < rs.length
  · exact o.asc _ (List.mem_of_getElem? (get_row h))
  · rw [row, List.getD_eq_getElem?_getD, List.getElem?_eq_none (by omega)]; exact .nil
theorem Ok.row_lt {rs : Rows} (o : Ok rs) {y x : Nat} (h : x ∈ row rs y) : x < rs.length := by
  by_cases hy : y < rs.length
  · exact o.lt _ (List.mem_of_getElem? (get_row hy)) x h
  · rw [row, List.getD_eq_getElem?_getD, List.getElem?_eq_none (by omega)] at h; cases h
theorem Ok.row_ne {rs : Rows} (o : Ok rs) {y : Nat} : y ∉ row rs y := by
  by_cases hy : y < rs.length
  · exact o.ne y _ (get_row hy)
  · rw [row, List.getD_eq_getElem?_getD, List.getElem?_eq_none (by omega)]; simp
/-- ways lead from h to y -/
inductive Reach (rs : Rows) (h : Nat) : Nat → Prop
  | refl : Reach rs h h
  | step {x y : Nat} : Reach rs h x → y < rs.length → x ∈ row rs y → Reach rs h y
open Classical in
noncomputable def reachL (rs : Rows) (h : Nat) : List Nat := (List.range rs.length).filter fun y => decide (Reach rs h y)
open Classical in
theorem mem_reachL {rs : Rows} {h y : Nat} : y ∈ reachL rs h ↔ y < rs.length ∧ Reach rs h y := by
  unfold reachL
  rw [List.mem_filter, List.mem_range, decide_eq_true_eq]
theorem asc_range (n : Nat) : Asc (List.range n) := List.pairwise_lt_range
theorem asc_reachL {rs : Rows} {h : Nat} : Asc (reachL rs h) := (asc_range _).filter _
theorem asc_nodup {l : List Nat} (h : Asc l) : l.Nodup := h.imp fun x => Nat.ne_of_lt x
theorem asc_one {l m : List Nat} (h1 : Asc l) (h2 : Asc m) (h : ∀ k, k ∈ l ↔ k ∈ m) : l = m :=
  List.Perm.eq_of_pairwise (le := (· < ·)) (fun a b _ _ x y => absurd x (Nat.lt_asymm y)) h1 h2 ((List.perm_ext_iff_of_nodup (asc_nodup h1) (asc_nodup h2)).mpr h)
theorem len_reachL {rs : Rows} {h : Nat} : (reachL rs h).length ≤ rs.length := by
  unfold reachL
  exact Nat.le_trans (List.length_filter_le _ _) (by rw [List.length_range]; exact Nat.le_refl _)
/-! ### the search -/
open Classical in
/-- who hears here among the first i houses, and is not found -/
noncomputable def newOf (rs : Rows) (here : Nat) (f : List Nat) (i : Nat) : List Nat := (List.range i).filter fun y => decide (here ∈ row rs y ∧ y ∉ f)
theorem mem_new {rs : Rows} {here : Nat} {f : List Nat} {i y : Nat} : y ∈ newOf rs here f i ↔ y < i ∧ here ∈ row rs y ∧ y ∉ f := by
  unfold newOf
  rw [List.mem_filter, List.mem_range, decide_eq_true_eq]
theorem new_yes {rs : Rows} {here : Nat} {f : List Nat} {i : Nat} (h : here ∈ row rs i ∧ i ∉ f) : newOf rs here f (i + 1) = newOf rs here f i ++ [i] := by
  unfold newOf
  rw [List.range_succ, List.filter_append]
  congr 1
  rw [List.filter_cons, decide_eq_true h]; rfl
theorem new_no {rs : Rows} {here : Nat} {f : List Nat} {i : Nat} (h : ¬ (here ∈ row rs i ∧ i ∉ f)) : newOf rs here f (i + 1) = newOf rs here f i := by
  unfold newOf
  rw [List.range_succ, List.filter_append, List.filter_cons, decide_eq_false h]
  simp
structure Dfs (rs : Rows) (h : Nat) (f wt : List Nat) : Prop where
  nd : f.Nodup
  mem : h ∈ f
  lt : ∀ x ∈ f, x < rs.length
  re : ∀ x ∈ f, Reach rs h x
  sub : ∀ x ∈ wt, x ∈ f
  cl : ∀ x ∈ f, x ∉ wt → ∀ y, y < rs.length → x ∈ row rs y → y ∈ f
theorem Dfs.start {rs : Rows} {h : Nat} (hh : h < rs.length) : Dfs rs h [h] [h] :=
  ⟨by simp, by simp, by simp [hh], fun x hx => by rw [List.mem_singleton.mp hx]; exact .refl, fun x hx => hx, fun x hx hn => absurd hx hn⟩
theorem Dfs.next {rs : Rows} {h here : Nat} {f wt : List Nat} (D : Dfs rs h f (wt ++ [here])) : Dfs rs h (f ++ newOf rs here f rs.length) (wt ++ newOf rs here f rs.length) := by
  have hf : here ∈ f := D.sub _ (by simp)
  refine ⟨?_, List.mem_append_left _ D.mem, fun x hx => ?_, fun x hx => ?_, fun x hx => ?_, fun x hx hn y hy hxy => ?_⟩
  · refine List.nodup_append.mpr ⟨D.nd, ?_, fun a ha b hb e => ?_⟩
    · unfold newOf; exact List.nodup_range.filter _
    · subst e; exact (mem_new.mp hb).2.2 ha
  · rcases List.mem_append.mp hx with z | z
    · exact D.lt x z
    · exact (mem_new.mp z).1
  · rcases List.mem_append.mp hx with z | z
    · exact D.re x z
    · have q := mem_new.mp z
      exact .step (D.re _ hf) q.1 q.2.1
  · rcases List.mem_append.mp hx with z | z
    · exact List.mem_append_left _ (D.sub x (List.mem_append_left _ z))
    · exact List.mem_append_right _ z
  · rw [List.mem_append, not_or] at hn
    rcases List.mem_append.mp hx with z | z
    · by_cases e : x = here
      · subst e
        by_cases hyf : y ∈ f
        · exact List.mem_append_left _ hyf
        · exact List.mem_append_right _ (mem_new.mpr ⟨hy, hxy, hyf⟩)
      · refine List.mem_append_left _ (D.cl x z (fun w => ?_) y hy hxy)
        rcases List.mem_append.mp w with w | w
        · exact hn.1 w
        · exact e (List.mem_singleton.mp w)
    · exact absurd z hn.2
theorem nodup_len : ∀ (n : Nat) (f : List Nat), f.Nodup → (∀ x ∈ f, x < n) → f.length ≤ n
  | 0, [], _, _ => Nat.le_refl _
  | 0, x :: _, _, h => absurd (h x List.mem_cons_self) (Nat.not_lt_zero _)
  | n + 1, f, h1, h2 => by
    have ih := nodup_len n (f.erase n) (h1.erase n) fun x hx => by
      have q := (List.Nodup.mem_erase_iff h1).mp hx
      have := h2 x q.2
      omega
    rw [List.length_erase] at ih
    split at ih <;> omega
theorem Dfs.len {rs : Rows} {h : Nat} {f wt : List Nat} (D : Dfs rs h f wt) : f.length ≤ rs.length := nodup_len _ _ D.nd D.lt
theorem Dfs.done {rs : Rows} {h : Nat} {f : List Nat} (D : Dfs rs h f []) {x : Nat} : x ∈ f ↔ x ∈ reachL rs h := by
  rw [mem_reachL]
  constructor
  · exact fun hx => ⟨D.lt x hx, D.re x hx⟩
  · rintro ⟨h0, r⟩
    clear h0
    induction r with
    | refl => exact D.mem
    | step r hy hxy ih => exact D.cl _ ih (by simp) _ hy hxy
theorem Dfs.perm {rs : Rows} {h : Nat} {f : List Nat} (D : Dfs rs h f []) : (reachL rs h).Perm f :=
  (List.perm_ext_iff_of_nodup (asc_nodup asc_reachL) D.nd).mpr fun x => D.done.symm
end Ma

/-! Rn: runs over rows of houses. -/
namespace Rs
open PySem PySem.Spec PyProof.Rows L2 SlX StX Ma
abbrev cI (r : List Nat) : List Int := r.map fun (n : Nat) => (n : Int)
theorem row_int {r : List Nat} : r.map nI = (cI r).map PyData.int := by rw [List.map_map]; rfl
theorem dRow_int {r : List Nat} : dRow r = .tuple ((cI r).map PyData.int) := congrArg PyData.tuple row_int
theorem mem_cI {r : List Nat} {n : Nat} : ((n : Int) ∈ cI r) ↔ n ∈ r := by
  rw [cI, List.mem_map]
  constructor
  · rintro ⟨a, h, e⟩
    have e' : a = n := by omega
    rw [← e']; exact h
  · exact fun h => ⟨n, h, rfl⟩
theorem asc_cI {r : List Nat} (h : Asc r) : (cI r).Pairwise (· < ·) := List.pairwise_map.mpr (h.imp fun x => by omega)
theorem cI_inj {r q : List Nat} : cI r = cI q ↔ r = q := by
  constructor
  · intro h
    have := congrArg (List.map Int.toNat) h
    simpa [cI, List.map_map, Function.comp_def] using this
  · intro h; rw [h]
section
variable {K : PySem.W.Frag} {w : World} {σ : L2.St} {F : Hp} {L : Cells} {R : VP} {Rs : List VP} {t : TA} {te ta tb : TE}
theorem seqI_row {r : List Nat} {v : V} {F1 : Hp} (h : Dt K (dRow r) v F1) : seqI (cI r) v F1 K := seqI_t (dRow_int ▸ h)
theorem r_inN {i : Nat} {r : List Nat} (ha : Run (ta σ) F L (Dt K (nI i))) (hb : Run (tb σ) F L (Dt K (dRow r))) : Run (tOp (rIn K false) ta tb σ) F L (Dt K (.bool (decide (i ∈ r)))) :=
  r_is (r_in ha hb fun v F1 h => seqI_row h) (congrArg PyData.bool (decide_eq_decide.mpr mem_cI))
theorem r_notInN {i : Nat} {r : List Nat} (ha : Run (ta σ) F L (Dt K (nI i))) (hb : Run (tb σ) F L (Dt K (dRow r))) : Run (tOp (rIn K true) ta tb σ) F L (Dt K (.bool (!decide (i ∈ r)))) :=
  r_is (r_notIn ha hb fun v F1 h => seqI_row h) (congrArg (fun b => PyData.bool (!b)) (decide_eq_decide.mpr mem_cI))
theorem r_eqN {i j : Nat} (ha : Run (ta σ) F L (Dt K (nI i))) (hb : Run (tb σ) F L (Dt K (nI j))) : Run (tOp rEq ta tb σ) F L (Dt K (.bool (decide (i = j)))) :=
  r_is (r_eqI ha hb) (congrArg PyData.bool (decide_eq_decide.mpr (by omega)))
theorem r_neN {i j : Nat} (ha : Run (ta σ) F L (Dt K (nI i))) (hb : Run (tb σ) F L (Dt K (nI j))) : Run (tOp rNe ta tb σ) F L (Dt K (.bool (!decide (i = j)))) :=
  r_is (r_neI ha hb) (congrArg (fun b => PyData.bool (!b)) (decide_eq_decide.mpr (by omega)))
theorem r_lnN {α : Type} {f : α → PyData} {xs : List α} (h : Run (t σ) F L (Each [Dt K (.tuple (xs.map f))])) : Run (tCB (rLn K) t σ) F L (Dt K (nI xs.length)) := by
  have q := r_lnTD h
  rwa [List.length_map] at q
/-- the row of a house -/
theorem r_rowN {rs : Rows} {n : Nat} (ha : Run (ta σ) F L (Dt K (dRows rs))) (hb : Run (tb σ) F L (Dt K (nI n))) (hn : n < rs.length) : Run (tOp (rIxT K) ta tb σ) F L (Dt K (dRow (row rs n))) :=
  r_ixT ha hb (by rw [List.getElem?_map, get_row hn]; rfl)
theorem pairs_get {ds : List PyData} {i : Nat} {S : VP} (h : (Pairs K (ds.map (Dt K)))[i]? = some S) : ∃ d, ds[i]? = some d ∧ S = Tp K [Dt K (nI i), Dt K d] := by
  unfold Pairs at h
  rw [List.getElem?_mapIdx, List.getElem?_map] at h
  cases e : ds[i]? with
  | none => rw [e] at h; cases h
  | some d =>
    rw [e] at h
    cases h
    exact ⟨d, rfl, rfl⟩
theorem pairs_len {Rs : List VP} : (Pairs K Rs).length = Rs.length := by unfold Pairs; rw [List.length_mapIdx]
end
/-! ### dicts by houses -/
def kvT (f : List Nat) : List (Key × V) := f.map fun (x : Nat) => ((Sum.inl (x : Int) : Key), V.bl true)
theorem kvT_val {f : List Nat} {n : Nat} : (valV (kvT f) (Sum.inl (n : Int))).isSome = decide (n ∈ f) := by
  induction f with
  | nil => rfl
  | cons a f ih =>
    show (valV (((Sum.inl (a : Int) : Key), V.bl true) :: kvT f) _).isSome = _
    by_cases h : a = n
    · subst h; rw [valV_pos rfl]; simp
    · rw [valV_neg (fun z => h (by have := Sum.inl.inj z; omega)), ih]
      have h' : ¬ n = a := fun z => h z.symm
      simp [h']
theorem kvT_put {f : List Nat} {n : Nat} (h : n ∉ f) : putK (kvT f) (Sum.inl (n : Int)) (V.bl true) = kvT (f ++ [n]) := by
  rw [putK_new _ (by
    cases e : valV (kvT f) (Sum.inl (n : Int) : Key) with
    | none => rfl
    | some v =>
      have q := kvT_val (f := f) (n := n)
      rw [e, decide_eq_false h] at q
      cases q)]
  unfold kvT
  rw [List.map_append]; rfl
theorem kvT_len {f : List Nat} : (kvT f).length = f.length := by unfold kvT; rw [List.length_map]
abbrev vN (w : List Nat) : List V := w.map fun (n : Nat) => V.int (n : Int)
end Rs

/-! Rw: what a web is. -/
namespace Rs
open PySem PySem.Spec PyProof.Rows L2 SlX StX Ma
noncomputable def reachs (rs : Rows) : Rows := (List.range rs.length).map (reachL rs)
noncomputable def rootsN (rs : Rows) : List Nat := (List.range rs.length).filter fun h => decide ((reachL rs h).length = rs.length)
def pairsN (rs : Rows) : List (Nat × Nat) := (flat (fun p : List Nat × Nat => p.1) rs.zipIdx).map fun q => (q.1.2, q.2)
abbrev dPair (p : Nat × Nat) : PyData := .tuple [nI p.1, nI p.2]
abbrev wIx : List Nat := [0, 4, 2, 3, 1]
noncomputable def webVs (K : PySem.W.Frag) (rs : Rows) : List VP := [Dt K (dRows rs), Dt K (nI rs.length), Dt K (dRows (reachs rs)), Dt K (dRow (rootsN rs)), Dt K (.tuple ((pairsN rs).map dPair))]
instance {K : PySem.W.Frag} {rs : Rows} : MonoL (webVs K rs) := by unfold webVs; infer_instance
noncomputable def webP (C : Addr) (K : PySem.W.Frag) (rs : Rows) : VP := fun v F => Ok rs ∧ Ob C wIx (webVs K rs) v F
instance {C : Addr} {K : PySem.W.Frag} {rs : Rows} : Mono (webP C K rs) := ⟨fun _ _ _ e h => ⟨h.1, Mono.go h.2 e⟩⟩
structure WebK (K : PySem.W.Frag) (C : Addr) : Prop where
  sc : SCls K C
  si : SIsi K C
  kit : PySem.W.kitOne K (.ref C) (.ref C) = some true
  heard : SlF K C "own_heard" 0
  size : SlF K C "own_size" 4
  reached : SlF K C "own_reached" 2
  roots : SlF K C "own_roots" 3
  pairs : SlF K C "own_pairs" 1
section
variable {K : PySem.W.Frag} {w : World} {σ : L2.St} {F : Hp} {L : Cells} {R : VP} {Rs : List VP} {t : TA} {te ta tb : TE} {C : Addr} {rs : Rows}
theorem each_map_dt {α : Type} {f : α → PyData} {xs : List α} {vs : List V} {F : Hp} : Each (xs.map fun x => Dt K (f x)) vs F ↔ Each ((xs.map f).map (Dt K)) vs F := by
  rw [List.map_map]; rfl
theorem r_tpD {α : Type} {f : α → PyData} {xs : List α} (h : Run (te σ) F L (Tp K (xs.map fun x => Dt K (f x)))) : Run (te σ) F L (Dt K (.tuple (xs.map f))) :=
  h.weak fun v F1 e hv => tp_dt.mp (by rw [List.map_map]; exact hv)
theorem r_lnD {α : Type} {f : α → PyData} {xs : List α} (h : Run (te σ) F L (Ln (xs.map fun x => Dt K (f x)))) : Run (te σ) F L (Dt K (.list (xs.map f))) :=
  h.weak fun v F1 e hv => ls_dt.mp (Ln.ls (by rw [List.map_map]; exact hv))
theorem r_tupLn {α : Type} {f : α → PyData} {xs : List α} (h : Run (te σ) F L (Ln (xs.map fun x => Dt K (f x)))) : Run (tCB (rTupOf K) (tCons te tNil) σ) F L (Dt K (.tuple (xs.map f))) :=
  r_tpD (r_tupL (r_cons (r_ls h) r_nil))
theorem i_enumRows {α : Type} {f : α → PyData} {xs : List α} (h : Run (te σ) F L (Dt K (.tuple (xs.map f)))) : Run (iEnumT K (tCons te tNil) σ) F L (fun J F1 => Seqs J (xs.zipIdx.map fun p => Tp K [Dt K (nI p.2), Dt K (f p.1)]) F1) := by
  have q := i_enumT (Rs := xs.map fun x => Dt K (f x)) (r_cons (h.weak fun v F1 e hv => by have := tp_dt.mpr hv; rwa [List.map_map] at this) r_nil)
  rwa [pairs_map] at q
theorem i_rangeN {n : Nat} (h : Run (te σ) F L (Dt K (nI n))) (hn : n ≤ 1000) : Run (iRng1 (tCons te tNil) σ) F L (fun J F1 => Seqs J ((List.range n).map fun i => Dt K (nI i)) F1) :=
  i_range (n := (n : Int)) (r_cons h r_nil) (by omega) (by omega)
theorem i_tupN {α : Type} {f : α → PyData} {xs : List α} (h : Run (te σ) F L (Dt K (.tuple (xs.map f)))) : Run (iTup K te σ) F L (fun J F1 => Seqs J (xs.map fun x => Dt K (f x)) F1) :=
  i_tup (h.weak fun v F1 e hv => by have := tp_dt.mpr hv; rwa [List.map_map] at this)
theorem i_lstN {α : Type} {f : α → PyData} {xs : List α} (h : Run (te σ) F L (Dt K (.list (xs.map f)))) : Run (iList K te σ) F L (fun J F1 => Seqs J (xs.map fun x => Dt K (f x)) F1) :=
  i_lst (h.weak fun v F1 e hv => by have := ls_dt.mpr hv; rwa [List.map_map] at this)
/-! what a web tells -/
theorem r_heard (W : WebK K C) (h : Run (ta σ) F L (webP C K rs)) : Run (tSl K ta "own_heard" σ) F L (Dt K (dRows rs)) := r_fld (k := 0) W.heard (h.weak fun _ _ _ q => q.2) rfl rfl
theorem r_size (W : WebK K C) (h : Run (ta σ) F L (webP C K rs)) : Run (tSl K ta "own_size" σ) F L (Dt K (nI rs.length)) := r_fld (k := 1) W.size (h.weak fun _ _ _ q => q.2) rfl rfl
theorem r_reached (W : WebK K C) (h : Run (ta σ) F L (webP C K rs)) : Run (tSl K ta "own_reached" σ) F L (Dt K (dRows (reachs rs))) := r_fld (k := 2) W.reached (h.weak fun _ _ _ q => q.2) rfl rfl
theorem r_roots (W : WebK K C) (h : Run (ta σ) F L (webP C K rs)) : Run (tSl K ta "own_roots" σ) F L (Dt K (dRow (rootsN rs))) := r_fld (k := 3) W.roots (h.weak fun _ _ _ q => q.2) rfl rfl
theorem r_pairs (W : WebK K C) (h : Run (ta σ) F L (webP C K rs)) : Run (tSl K ta "own_pairs" σ) F L (Dt K (.tuple ((pairsN rs).map dPair))) := r_fld (k := 4) W.pairs (h.weak fun _ _ _ q => q.2) rfl rfl
theorem webP.is {v : V} {F : Hp} (h : webP C K rs v F) : IsOb C v F := h.2.is
end
theorem reachs_data {rs : Rows} : PyData.tuple ((List.range rs.length).map fun i => dRow (reachL rs i)) = dRows (reachs rs) := by
  unfold reachs dRows; rw [List.map_map]; rfl
theorem reachs_len {rs : Rows} : (reachs rs).length = rs.length := by unfold reachs; rw [List.length_map, List.length_range]
theorem reachs_row {rs : Rows} {h : Nat} (hh : h < rs.length) : row (reachs rs) h = reachL rs h := row_get (by unfold reachs; rw [List.getElem?_map, List.getElem?_range hh]; rfl)
theorem zip_range {α : Type} {g : Nat → α} {n : Nat} : ((List.range n).map g).zipIdx = (List.range n).map fun i => (g i, i) := by
  apply List.ext_getElem
  · simp
  · intro i h1 h2
    simp
theorem roots_zip {rs : Rows} : ((reachs rs).zipIdx.filter fun p => decide (p.1.length = rs.length)).map (·.2) = rootsN rs := by
  unfold reachs rootsN
  rw [zip_range, List.filter_map, List.map_map]
  show List.map (fun x => x) _ = _
  rw [List.map_id']
  rfl
theorem roots_data {rs : Rows} : PyData.tuple (((reachs rs).zipIdx.filter fun p => decide (p.1.length = rs.length)).map fun p => nI p.2) = dRow (rootsN rs) := by
  rw [← roots_zip, dRow, List.map_map]; rfl
theorem pairs_flat {rs : Rows} : ((flat (fun p : List Nat × Nat => p.1) rs.zipIdx).map fun q => dPair (q.1.2, q.2)) = (pairsN rs).map dPair := by
  unfold pairsN; rw [List.map_map]; rfl
theorem flat_len {rs : Rows} (ok : Ok rs) : (flat (fun p : List Nat × Nat => p.1) rs.zipIdx).length ≤ 40000 := by
  unfold flat
  rw [List.length_flatMap]
  have h1 : ∀ x ∈ rs.zipIdx.map fun p : List Nat × Nat => (p.1.map fun y => (p, y)).length, x ≤ 5 := by
    intro x hx
    obtain ⟨p, hp, rfl⟩ := List.mem_map.mp hx
    rw [List.length_map]
    have hm : p.1 ∈ rs := by
      have := List.mem_zipIdx hp
      simp only [Nat.zero_le, Nat.sub_zero, true_and] at this
      rw [this.2]; exact List.getElem_mem _
    exact Nat.le_trans (nodup_len _ _ (asc_nodup (ok.asc _ hm)) (ok.lt _ hm)) ok.le
  have h2 : ∀ (l : List Nat), (∀ x ∈ l, x ≤ 5) → l.sum ≤ 5 * l.length := by
    intro l
    induction l with
    | nil => intro _; simp
    | cons a l ih =>
      intro h
      have := ih fun x hx => h x (List.mem_cons_of_mem _ hx)
      have := h a List.mem_cons_self
      simp only [List.sum_cons, List.length_cons]
      omega
  have h3 := h2 _ h1
  rw [List.length_map, List.length_zipIdx] at h3
  show (List.map (fun p : List Nat × Nat => (p.1.map fun y => (p, y)).length) rs.zipIdx).sum ≤ 40000
  have := ok.le
  omega
end Rs

/-! RsK: the words with K told, for blocks within a block. -/
namespace Rs
open PySem PySem.Spec PyProof.Rows L2 SlX StX
section
variable {X : Cx} {e o : Expr} {es : List Expr} {ta te : TE} {t : TA} {p pos apos : Pos} {f m x : Str} {tg l : Expr}

theorem p_lenK (K : PySem.W.Frag) (B : Bf X.mg) (ha : PA X (e :: es) t) (hg : Gl X "len" := by rfl) (he : starEach (e :: es) X.env = (false, eval e X.env) :: starEach es X.env := by rfl) (hpl : (backTo pos (starEach es X.env)).any (·.1) = false := by rfl) (hK : X.K = K := by rfl) :
    PE X (.Call (.Name "len" p) (e :: es) [] pos) (tCB (rLn K) t) := by
  subst hK; exact p_len B ha hg he hpl

theorem p_allK (K : PySem.W.Frag) (hc : X.calm = true) (B : Bf X.mg) (ha : PA X (e :: es) t) (hg : Gl X "all" := by rfl) (he : starEach (e :: es) X.env = (false, eval e X.env) :: starEach es X.env := by rfl) (hpl : (backTo pos (starEach es X.env)).any (·.1) = false := by rfl) (hK : X.K = K := by rfl) :
    PE X (.Call (.Name "all" p) (e :: es) [] pos) (tCB (rAll K) t) := by
  subst hK; exact p_all hc B ha hg he hpl

theorem p_isiK (K : PySem.W.Frag) (B : Bf X.mg) (ha : PA X (e :: es) t) (hg : Gl X "isinstance" := by rfl) (he : starEach (e :: es) X.env = (false, eval e X.env) :: starEach es X.env := by rfl) (hpl : (backTo pos (starEach es X.env)).any (·.1) = false := by rfl) (hK : X.K = K := by rfl) :
    PE X (.Call (.Name "isinstance" p) (e :: es) [] pos) (tCB (rIsi K) t) := by
  subst hK; exact p_isi B ha hg he hpl

theorem p_isiSK (K : PySem.W.Frag) (u : Value) (B : Bf X.mg) (ha : PA X (e :: es) t) (hg : Gl X "isinstance" := by rfl) (he : starEach (e :: es) X.env = (false, eval e X.env) :: starEach es X.env := by rfl) (hpl : (backTo pos (starEach es X.env)).any (·.1) = false := by rfl) (hK : X.K = K := by rfl) :
    PE X (.Call (.Name "isinstance" p) (e :: es) [] pos) (tCB (fun xs H Q => rIsi K xs H Q ∨ rIsiSl K u xs H Q) t) := by
  subst hK; exact p_isiS u B ha hg he hpl

theorem p_setK (K : PySem.W.Frag) (hc : X.calm = true) (B : Bf X.mg) (ha : PA X (e :: es) t) (hg : Gl X "set" := by rfl) (he : starEach (e :: es) X.env = (false, eval e X.env) :: starEach es X.env := by rfl) (hpl : (backTo pos (starEach es X.env)).any (·.1) = false := by rfl) (hK : X.K = K := by rfl) :
    PE X (.Call (.Name "set" p) (e :: es) [] pos) (tCB (rSetI K X.w) t) := by
  subst hK; exact p_set hc B ha hg he hpl

theorem p_sortedSetK (K : PySem.W.Frag) (hc : X.calm = true) (B : Bf X.mg) (ha : PA X (e :: es) t) (hg : Gl X "sorted" := by rfl) (he : starEach (e :: es) X.env = (false, eval e X.env) :: starEach es X.env := by rfl) (hpl : (backTo pos (starEach es X.env)).any (·.1) = false := by rfl) (hK : X.K = K := by rfl) :
    PE X (.Call (.Name "sorted" p) (e :: es) [] pos) (tCB (rSortedSet X.w) t) := by
  subst hK; exact p_sortedSet hc B ha hg he hpl

theorem p_sortedLK (K : PySem.W.Frag) (B : Bf X.mg) (ha : PA X (e :: es) t) (hg : Gl X "sorted" := by rfl) (he : starEach (e :: es) X.env = (false, eval e X.env) :: starEach es X.env := by rfl) (hpl : (backTo pos (starEach es X.env)).any (·.1) = false := by rfl) (hK : X.K = K := by rfl) :
    PE X (.Call (.Name "sorted" p) (e :: es) [] pos) (tCB (rSorted K) t) := by
  subst hK; exact p_sortedL B ha hg he hpl

theorem p_listK (K : PySem.W.Frag) (B : Bf X.mg) (ha : PA X (e :: es) t) (hg : Gl X "list" := by rfl) (he : starEach (e :: es) X.env = (false, eval e X.env) :: starEach es X.env := by rfl) (hpl : (backTo pos (starEach es X.env)).any (·.1) = false := by rfl) (hK : X.K = K := by rfl) :
    PE X (.Call (.Name "list" p) (e :: es) [] pos) (tCB (rListOf K) t) := by
  subst hK; exact p_list B ha hg he hpl

theorem p_tupleK (K : PySem.W.Frag) (B : Bf X.mg) (ha : PA X (e :: es) t) (hg : Gl X "tuple" := by rfl) (he : starEach (e :: es) X.env = (false, eval e X.env) :: starEach es X.env := by rfl) (hpl : (backTo pos (starEach es X.env)).any (·.1) = false := by rfl) (hK : X.K = K := by rfl) :
    PE X (.Call (.Name "tuple" p) (e :: es) [] pos) (tCB (rTupOf K) t) := by
  subst hK; exact p_tuple B ha hg he hpl

theorem pi_tupK (K : PySem.W.Frag) (hl : PE X l ta) (hK : X.K = K := by rfl) : PI X tg l (iTup K ta) := by
  subst hK; exact pi_tup hl
theorem pi_listK (K : PySem.W.Frag) (hl : PE X l ta) (hK : X.K = K := by rfl) : PI X tg l (iList K ta) := by
  subst hK; exact pi_list hl
theorem pi_enumTK (K : PySem.W.Frag) {tpos : Pos} {elts : List Expr} {kk : Nat} (hg : Gl X "enumerate") (hm : X.mg "enumerate" = none) (ha : PA X [e] t) (hs : starEach [e] X.env = [(false, eval e X.env)] := by rfl) (hK : X.K = K := by rfl) :
    PI X (.Tuple elts kk tpos) (.Call (.Name "enumerate" p) [e] [] pos) (iEnumT K t) := by
  subst hK; exact pi_enumT hg hm ha hs
theorem ix_tupK (K : PySem.W.Frag) (hK : X.K = K := by rfl) : IxR X (rIxT K) := by subst hK; exact ix_tup
theorem ix_listK (K : PySem.W.Frag) (hK : X.K = K := by rfl) : IxR X (rIxL K) := by subst hK; exact ix_list
theorem op_in_seqK (K : PySem.W.Frag) (hK : X.K = K := by rfl) : OpR X (compareOp .In) (rIn K false) := by subst hK; exact op_in_seq
theorem op_notIn_seqK (K : PySem.W.Frag) (hK : X.K = K := by rfl) : OpR X (compareOp .NotIn) (rIn K true) := by subst hK; exact op_notIn_seq
theorem op_eqDK (K : PySem.W.Frag) (hu : X.A.units + 64 < cLine) (hK : X.K = K := by rfl) : OpR X (compareOp .Eq) (rEqD K) := by subst hK; exact op_eqD hu
theorem op_neDK (K : PySem.W.Frag) (hu : X.A.units + 64 < cLine) (hK : X.K = K := by rfl) : OpR X (compareOp .NotEq) (rNeD K) := by subst hK; exact op_neD hu
theorem pa_starK (K : PySem.W.Frag) (he : PE X e te) (hr : PA X es t) (hs : starEach (.Starred e p :: es) X.env = (true, eval e X.env) :: starEach es X.env := by rfl) (hK : X.K = K := by rfl) : PA X (.Starred e p :: es) (tStar K te t) := by
  subst hK; exact pa_star he hr hs
theorem pe_slK (K : PySem.W.Frag) (he : PE X e ta) (hb : attributeBase e f X.env (eval e X.env) = eval e X.env := by rfl) (hK : X.K = K := by rfl) : PE X (.Attribute e f pos) (tSl K ta f) := by
  subst hK; exact pe_sl he hb
end
end Rs

/-! RsT: tuple * int, once too. -/
namespace L2
open PySem PySem.Spec PyProof.Rows
theorem tuple_mul1 (l : Addr) (items : Array Value) (n : Nat) (dd : Option Addr) (sl : Array (Option Value)) (u : Tok) :
    Meets (Builtin.«tuple.__mul__» ⟨[.ref l, .int 1 u], []⟩) (fun _ R s => s.heap.get? l = some { cls := .type "tuple", dict := dd, data := .seq items n, slots := sl } ∧
      ∀ tk, R (.ok (.ret (Value.ref l))) { s with toks := tk }) :=
  .of_wp fun prog w A R s h => by
    obtain ⟨hp, g, d, tk, os⟩ := s
    obtain ⟨hl, h⟩ := h
    have f1 := AutoSeq1.idx_int
    wp_walk using wpAny_loadPart' hl
    repeat (first
      | exact ⟨_, rfl, h _⟩
      | (refine wpAny_ite_false (by decide) ?_; wp_walk using wpAny_loadPart' hl)
      | (refine wpAny_ite_true (by simp) ?_; wp_walk using wpAny_loadPart' hl))
def rRep1 (K : PySem.W.Frag) : R2 := fun x y H Q => ∃ l xs, x = .ref l ∧ y = .int 1 ∧ SqT K H l xs ∧ Q (.ref l) H
section
variable {X : Cx}
theorem op_rep1 : OpR X (binaryOp .Mult) (rRep1 X.K) := by
  intro pins s σ H x y v u Q I rx ry h
  obtain ⟨l, xs, rfl, rfl, hT, q⟩ := h
  cases rx
  obtain ⟨t, rfl⟩ := ry
  obtain ⟨its, r, ⟨⟨cls, dd, data, sl⟩, ho, hc, n, hd⟩, hs⟩ := I.tuple hT
  simp only at hc hd
  subst hc hd
  refine wpAny_binaryOp_repeat_ref (T := "tuple") (U := "int") (by decide) ⟨_, ho, rfl⟩ (fun s' => typeIs_int s' 1 t) noFill_tuple_mul F.fills_int_mul F.slot_int_rmul repeat_tuple F.slot_int_index.lookup
    (call_meets F.slot_int_rmul (typeIs_int s 1 t) F.entry_int_rmul (F.args_int_rmul_2 _ _) (int_rmul_tuple 1 t l its.toArray n dd sl)
      ⟨ho, rfl, ⟨_, ho, rfl⟩, call_meets F.slot_tuple_mul ⟨_, ho, rfl⟩ F.entry_tuple_mul (F.args_tuple_mul_2 _ _) (tuple_mul1 l its.toArray n dd sl t) ⟨ho, fun tk => ?_⟩⟩)
  exact ⟨.ref l, H, I.tok _, rfl, q⟩
def rRepTA (K : PySem.W.Frag) : R2 := fun x y H Q => rRepT K x y H Q ∨ rRep1 K x y H Q
theorem op_repTA : OpR X (binaryOp .Mult) (rRepTA X.K) := fun pins s σ H x y v u Q I rx ry h => h.elim (op_repT pins s σ H x y v u Q I rx ry) (op_rep1 pins s σ H x y v u Q I rx ry)
end
end L2
namespace Rs
open PySem PySem.Spec PyProof.Rows L2 SlX StX
section
variable {K : PySem.W.Frag} {σ : L2.St} {F : Hp} {L : Cells} {ta tb : TE}
theorem rep_flat {α : Type} {k : Nat} {x : α} : (List.replicate k [x]).flatten = List.replicate k x := by
  induction k with
  | zero => rfl
  | succ k ih => rw [List.replicate_succ, List.flatten_cons, ih]; rfl
/-- (x,) * k -/
theorem r_rep1 {d : PyData} {k : Nat} (ha : Run (ta σ) F L (Dt K (.tuple [d]))) (hb : Run (tb σ) F L (Dt K (.int (k : Nat)))) (h1 : 1 ≤ k) (h2 : k ≤ 1000) : Run (tOp (rRepTA K) ta tb σ) F L (Dt K (.tuple (List.replicate k d))) :=
  r_op ha hb fun x y F1 e hx hy => by
    cases hy
    obtain ⟨a, vs, rfl, hs, hr⟩ := tp_dt.mpr hx
    obtain ⟨v, rfl, hv⟩ := each1 hr
    by_cases hk : k = 1
    · subst hk
      refine fun F2 N H e2 A Q q => .inr ⟨a, [v], rfl, rfl, sqT_up (e2.trans A.ex) hs, q _ F2 H (Same.refl _) A (dp_up e2 hx)⟩
    · refine fun F2 N H e2 A Q q => .inl ⟨a, (k : Int), [v], rfl, rfl, sqT_up (e2.trans A.ex) hs, by simp, by omega, by omega, by simp, fun p hp => q _ (upd F2 p _) _ (same_new (A.free hp)) (A.new hp) ?_⟩
      refine tp_dt.mp ⟨p, List.replicate k v, rfl, .inl ?_, ?_⟩
      · exact .inl (by rw [upd_same, Int.toNat_natCast, rep_flat])
      · have hv' := dp_up (e2.trans (same_new (o := .tup (List.replicate (k : Int).toNat [v]).flatten) (A.free hp))) hv
        have : ∀ m : Nat, Each ((List.replicate m d).map (Dt K)) (List.replicate m v) (upd F2 p (.tup (List.replicate (k : Int).toNat [v]).flatten)) := by
          intro m
          induction m with
          | zero => exact True.intro
          | succ m ih => exact ⟨hv', ih⟩
        exact this k
end
end Rs

/-! Mb: rounds one behind the other. -/
namespace Ma
open PySem Rs
/-- whom h hears, with itself -/
def hbL (rs : Rows) (h : Nat) : List Nat := (List.range rs.length).filter fun x => decide (x ∈ row rs h ∨ x = h)
theorem mem_hb {rs : Rows} (ok : Ok rs) {h x : Nat} (hh : h < rs.length) : x ∈ hbL rs h ↔ x ∈ row rs h ∨ x = h := by
  unfold hbL
  rw [List.mem_filter, List.mem_range, decide_eq_true_eq]
  refine ⟨fun z => z.2, fun z => ⟨?_, z⟩⟩
  rcases z with z | z
  · exact ok.row_lt z
  · rw [z]; exact hh
theorem hb_lt {rs : Rows} {h x : Nat} (hx : x ∈ hbL rs h) : x < rs.length := List.mem_range.mp (List.mem_filter.mp hx).1
theorem asc_hb {rs : Rows} {h : Nat} : Asc (hbL rs h) := (asc_range _).filter _
theorem hb_len {rs : Rows} {h : Nat} : (hbL rs h).length ≤ rs.length := by
  unfold hbL
  exact Nat.le_trans (List.length_filter_le _ _) (by rw [List.length_range]; exact Nat.le_refl _)
theorem hb_perm {rs : Rows} (ok : Ok rs) {h : Nat} (hh : h < rs.length) : (hbL rs h).Perm (row rs h ++ [h]) := by
  refine (List.perm_ext_iff_of_nodup (asc_nodup asc_hb) ?_).mpr fun x => by rw [mem_hb ok hh, List.mem_append, List.mem_singleton]
  rw [List.nodup_append]
  refine ⟨asc_nodup (ok.row_asc h), by simp, fun a ha b hb => ?_⟩
  rw [List.mem_singleton] at hb
  subst hb
  exact fun z => ok.row_ne (z ▸ ha)
/-- what is told to h by qs and, before, by rs -/
def toldL (rs qs : Rows) (h : Nat) : List Nat := (flat (fun near => hbL rs near) (hbL qs h)).map (·.2)
theorem mem_told {rs qs : Rows} {h x : Nat} : x ∈ toldL rs qs h ↔ ∃ n ∈ hbL qs h, x ∈ hbL rs n := by
  unfold toldL flat
  simp only [List.mem_map, List.mem_flatMap]
  constructor
  · rintro ⟨p, ⟨a, ha, y, hy, rfl⟩, rfl⟩
    exact ⟨a, ha, hy⟩
  · rintro ⟨n, hn, hx⟩
    exact ⟨(n, x), ⟨n, hn, x, hx, rfl⟩, rfl⟩
theorem told_len {rs qs : Rows} {h : Nat} (h1 : rs.length ≤ 5) (h2 : qs.length ≤ 5) : (flat (fun near => hbL rs near) (hbL qs h)).length ≤ 25 := by
  have q : ∀ l : List Nat, (flat (fun near => hbL rs near) l).length ≤ 5 * l.length := by
    intro l
    induction l with
    | nil => simp [flat]
    | cons a l ih =>
      unfold flat at ih ⊢
      rw [List.flatMap_cons, List.length_append, List.length_map, List.length_cons]
      have : ((fun near => hbL rs near) a).length ≤ rs.length := hb_len
      omega
  have := q (hbL qs h)
  have := hb_len (rs := qs) (h := h)
  omega
def allL (rs qs : Rows) (h : Nat) : List Nat := (List.range rs.length).filter fun x => decide (x ∈ toldL rs qs h)
theorem mem_all {rs qs : Rows} {h x : Nat} : x ∈ allL rs qs h ↔ x ∈ toldL rs qs h := by
  unfold allL
  rw [List.mem_filter, List.mem_range, decide_eq_true_eq]
  refine ⟨fun z => z.2, fun z => ⟨?_, z⟩⟩
  obtain ⟨n, _, hx⟩ := mem_told.mp z
  exact hb_lt hx
theorem asc_all {rs qs : Rows} {h : Nat} : Asc (allL rs qs h) := (asc_range _).filter _
theorem all_len {rs qs : Rows} {h : Nat} : (allL rs qs h).length ≤ rs.length := by
  unfold allL
  exact Nat.le_trans (List.length_filter_le _ _) (by rw [List.length_range]; exact Nat.le_refl _)
def thenRow (rs qs : Rows) (h : Nat) : List Nat := (allL rs qs h).filter fun x => !decide (x = h)
/-- rs and then qs -/
def thenR (rs qs : Rows) : Rows := (List.range rs.length).map (thenRow rs qs)
theorem then_len {rs qs : Rows} : (thenR rs qs).length = rs.length := by unfold thenR; rw [List.length_map, List.length_range]
theorem then_row {rs qs : Rows} {h : Nat} (hh : h < rs.length) : row (thenR rs qs) h = thenRow rs qs h := row_get (by unfold thenR; rw [List.getElem?_map, List.getElem?_range hh]; rfl)
theorem mem_thenRow {rs qs : Rows} {h x : Nat} : x ∈ thenRow rs qs h ↔ (∃ n ∈ hbL qs h, x ∈ hbL rs n) ∧ x ≠ h := by
  unfold thenRow
  rw [List.mem_filter, mem_all, mem_told, Bool.not_eq_true', decide_eq_false_iff_not]
theorem then_ok {rs qs : Rows} (o : Ok rs) : Ok (thenR rs qs) := by
  refine ⟨by rw [then_len]; exact o.pos, by rw [then_len]; exact o.le, ?_, ?_, ?_⟩
  · intro r hr
    obtain ⟨h, _, rfl⟩ := List.mem_map.mp hr
    exact asc_all.filter _
  · intro r hr x hx
    obtain ⟨h, _, rfl⟩ := List.mem_map.mp hr
    obtain ⟨⟨n, _, hx⟩, _⟩ := mem_thenRow.mp hx
    rw [then_len]; exact hb_lt hx
  · intro i r hr hi
    have hl : i < rs.length := by
      have := (List.getElem?_eq_some_iff.mp hr).1
      rwa [then_len] at this
    rw [← row_get hr, then_row hl] at hi
    exact (mem_thenRow.mp hi).2 rfl
def silentR (n : Nat) : Rows := List.replicate n []
theorem silent_ok {n : Nat} (h1 : 1 ≤ n) (h2 : n ≤ 5) : Ok (silentR n) := by
  unfold silentR
  refine ⟨by rw [List.length_replicate]; exact h1, by rw [List.length_replicate]; exact h2, fun r hr => ?_, fun r hr x hx => ?_, fun i r hr hi => ?_⟩
  · rw [(List.mem_replicate.mp hr).2]; exact .nil
  · rw [(List.mem_replicate.mp hr).2] at hx; cases hx
  · rw [(List.mem_replicate.mp (List.mem_of_getElem? hr)).2] at hi; cases hi
theorem silent_len {n : Nat} : (silentR n).length = n := List.length_replicate
end Ma

/-! RsD: dicts by tuples of ints: put, sorted. -/
namespace L2
open PySem PySem.Spec PyProof.Rows
def dI (k : List Int) : PyData := .tuple (k.map .int)
theorem alike_rows {bs : List (Addr × List Int)} : PySem.W.AllAlike (bs.map fun z => dI z.2) := PySem.W.AllAlike.of fun a b => by
  show PySem.W.alike (.tuple _) (.tuple _) = true
  rw [PySem.W.alike]; exact PySem.W.alike_ints _ _
theorem dataLe_tups {β : Type} (x : β → List Int) : PySem.W.dataLe false (fun b => dI (x b)) = fun p q => decide (x p ≤ x q) := by
  funext p q
  show (!PySem.W.dataLt (.tuple ((x q).map .int)) (.tuple ((x p).map .int))) = _
  rw [PySem.W.dataLt_tuple]
  show (!PySem.W.rowLt ((x q).map .int) ((x p).map .int)) = _
  rw [PySem.W.dataLt_ints]
  by_cases h : x q < x p
  · have h' : ¬ x p ≤ x q := fun r => List.not_lt.mpr r h
    simp [h, h']
  · have h' : x p ≤ x q := List.not_lt.mp h
    simp [h, h']
def rSortedDT : List V → Hp → VK → Prop := fun xs H Q => ∃ (a : Addr) (kvs : List (List Key × V)) (ks : List (List Int)), xs = [.ref a] ∧ H a = some (.dT kvs) ∧ kvs.map (·.1) = ks.map (fun k => k.map Sum.inl) ∧ ks.length < 64 ∧ (∀ k ∈ ks, k ≠ []) ∧
    ∀ (bs : List (Addr × List Int)) (p : Addr), (∀ z ∈ bs, H z.1 = some (.tup (z.2.map V.int))) → (bs.map (·.2)).Perm ks → (bs.map (·.2)).Pairwise (· ≤ ·) → H p = none → Q (.ref p) (upd H p (.lst (bs.map fun z => V.ref z.1)))
section
variable {X : Cx}
theorem reads_ints {h : Heap} : ∀ {ks : List Int} {its : List Value}, Vals (ks.map V.int) its → ReadsAll h its (ks.map PyData.int) []
  | [], _, r => by cases r; exact .nil
  | k :: ks, _, r => by
    cases r with
    | cons r1 r2 =>
      obtain ⟨t, rfl⟩ := r1
      exact ReadsAll.cons (.int _ _) (reads_ints r2)
theorem kV_ints {k : List Int} : (k.map (Sum.inl : Int → Key)).map kV = k.map V.int := by rw [List.map_map]; rfl
theorem isKeys_zip {H : Hp} : ∀ {kvs : List (List Key × V)} {bs : List Addr} {ks : List (List Int)}, IsKeys H kvs bs → kvs.map (·.1) = ks.map (fun k => k.map Sum.inl) → bs.length = ks.length ∧ ∀ z ∈ bs.zip ks, H z.1 = some (.tup (z.2.map V.int))
  | [], _, ks, h, e => by
    cases h
    cases ks with
    | nil => exact ⟨rfl, fun z hz => by cases hz⟩
    | cons a l => cases e
  | p :: kvs, _, ks, h, e => by
    cases h with
    | cons h1 h2 =>
      cases ks with
      | nil => cases e
      | cons a l =>
        rw [List.map_cons, List.map_cons] at e
        injection e with e1 e2
        obtain ⟨q1, q2⟩ := isKeys_zip h2 e2
        refine ⟨by rw [List.length_cons, List.length_cons, q1], fun z hz => ?_⟩
        rw [List.zip_cons_cons] at hz
        rcases List.mem_cons.mp hz with rfl | hz
        · rw [h1]
          show some (HO.tup (p.1.map kV)) = _
          rw [e1, kV_ints]
        · exact q2 z hz
theorem eachIs_refs : ∀ {bs : List (Addr × List Int)}, PySem.W.EachIs (fun (v : Value) (z : Addr × List Int) => v = .ref z.1) (bs.map fun z => Value.ref z.1) bs
  | [] => .nil
  | _ :: _ => .cons rfl eachIs_refs
theorem eachIs_out : ∀ {bs : List (Addr × List Int)} {out : List Value}, PySem.W.EachIs (fun (v : Value) (z : Addr × List Int) => v = .ref z.1) out bs → out = bs.map fun z => Value.ref z.1
  | _, _, .nil => rfl
  | _, _, .cons h t => by rw [h, eachIs_out t]; rfl
theorem vals_refs2 : ∀ {bs : List (Addr × List Int)}, Vals (bs.map fun z => V.ref z.1) (bs.map fun z => Value.ref z.1)
  | [] => .nil
  | _ :: _ => .cons rfl vals_refs2
theorem call_sortedDT (hcalm : X.calm = true) (hu : X.A.units + 64 < cLine) : CallR X (.builtin "sorted") rSortedDT := by
  intro pins s σ H xs us Q I r q
  obtain ⟨a, kvs, ks, ex, hd, hks, h64, hne, q⟩ := q
  subst ex
  obtain ⟨u, eu, rx⟩ := vals1 r
  subst eu
  cases rx
  obtain ⟨z, lo, xs', pr, o, es, ep, ho, hx, hdt, he, hn⟩ := (show ObjOk X.prog X.w H s.heap a (.dT kvs) from I.hok a _ hd)
  have l1 : es.size = xs'.length := size_of_entries he
  have l2 : kvs.length = xs'.length := Paired.length pr
  have hk0 : IsKeys H kvs (xs'.map fun x => x.2.1) := isKeys_of pr
  obtain ⟨lz, hz⟩ := isKeys_zip hk0 hks
  rw [List.length_map] at lz
  refine Calls.call_function_entry PyProof.Rows.kind_sorted PyProof.Rows.plain_sorted PyProof.Rows.entry_sorted (PyProof.Rows.args_sorted1 _) ?_
  unfold Builtin.«sorted»
  refine wpAny_bind (m := checkCount "sorted" 1 1 _) (wpAny_pure ?_)
  refine wpAny_bind (PySem.W.kdu_collect (A := X.A.in1) (kdl_raw lo hx hdt) (I.ok.hd hcalm) ho (by omega) fun h' tk acc hk hacc => ?_)
  have ea : acc.toList = (xs'.map fun x => x.2.1).map Value.ref := by
    rw [List.map_map]
    have hl : acc.toList.length = xs'.length := by rw [Array.length_toList, hacc.1]; exact l1
    apply List.ext_getElem?
    intro j
    rw [List.getElem?_map]
    cases hj : acc.toList[j]? with
    | none =>
      have h1 := List.getElem?_eq_none_iff.mp hj
      rw [List.getElem?_eq_none (by omega)]
      rfl
    | some v =>
      obtain ⟨en, hen, hv⟩ := hacc.2 j v (by rw [← Array.getElem?_toList]; exact hj)
      have qe := entry_at he j
      rw [hen] at qe
      cases hb : xs'[j]? with
      | none =>
        rw [hb] at qe
        exact nomatch (show some en = none from qe)
      | some b =>
        rw [hb] at qe
        have e2 : en = entryOfKey (tupleKind (mixKind X.prog X.w)) b := Option.some.inj qe
        rw [hv, e2]
        rfl
  generalize hbs : (xs'.map fun x => x.2.1).zip ks = bs at hz
  have eb : acc.toList = bs.map fun z => Value.ref z.1 := by
    have e0 : (bs.map fun z => Value.ref z.1) = (bs.map Prod.fst).map Value.ref := by rw [List.map_map]; rfl
    rw [e0, ea, ← hbs, List.map_fst_zip (by rw [List.length_map]; omega)]
  have e2 : bs.map (·.2) = ks := by rw [← hbs, List.map_snd_zip (by rw [List.length_map]; omega)]
  have hlb : bs.length = ks.length := by rw [← e2, List.length_map]
  have I1 : Inv X pins σ H { s with heap := h', toks := tk } := I.kept hk
  have hal : acc.toList.length = ks.length := by rw [eb, List.length_map, hlb]
  refine wpAny_bind (wpAny_newList ?_ (by rw [hal, sizeLine_eq]; omega))
  have hoL : (h'.push (seqObj "list" acc.toList.toArray 0)).get? h'.objs.size = some (seqObj "list" acc.toList.toArray 0) := Heap.get?_push_size _ rfl
  have kb : ∀ b o, h'.get? b = some o → (h'.push (seqObj "list" acc.toList.toArray 0)).get? b = some o := fun b o e => Heap.get?_push_of_some _ e
  show wpAny _ _ _ _ _ { s with heap := h'.push (seqObj "list" acc.toList.toArray 0), toks := tk }
  refine wpAny_bind (wpAny_holding (PySem.W.list_sort_data (s := { s with heap := h'.push (seqObj "list" acc.toList.toArray 0), toks := tk }) (bs := bs) (enc := fun z => dI z.2) (R := fun v z => v = .ref z.1) hoL (eb ▸ eachIs_refs) ?er alike_rows ?so (by rw [hlb, sizeLine_eq]; omega) ?un fun out hlo ho' => ?_))
  case er =>
    have all : ∀ l : List (Addr × List Int), (∀ z ∈ l, z ∈ bs) → PySem.W.EachIs (fun (v : Value) (b : Addr × List Int) => ∃ as, Reads (h'.push (seqObj "list" acc.toList.toArray 0)) v (dI b.2) as ∧ h'.objs.size ∉ as) (l.map fun z => Value.ref z.1) l := by
      intro l
      induction l with
      | nil => intro _; exact .nil
      | cons z l ih =>
        intro hm
        refine .cons ⟨[], ?_, by simp⟩ (ih fun y hy => hm y (List.mem_cons_of_mem _ hy))
        obtain ⟨_, its, rv, ot, hot, hct, nt, hdt⟩ := (show ObjOk X.prog X.w H h' z.1 (.tup (z.2.map V.int)) from I1.hok _ _ (hz z (hm z List.mem_cons_self)))
        exact Reads.tuple (kb _ _ hot) hct hdt (by rw [List.toList_toArray]; exact reads_ints rv)
    have h1 := all bs fun z hz => hz
    rw [← eb] at h1
    exact h1
  case so =>
    refine .inl fun d hd => ?_
    obtain ⟨z, hz, rfl⟩ := List.mem_map.mp hd
    have hm : z.2 ∈ ks := e2 ▸ List.mem_map.mpr ⟨z, hz, rfl⟩
    have hn := hne _ hm
    cases ez : z.2 with
    | nil => exact absurd ez hn
    | cons a l => exact ⟨.int a, l.map .int, rfl⟩
  case un =>
    intro b hb
    have : (dI b.2).depth = 1 := by rw [dI, PyData.depth, PySem.W.depth_ints]
    rw [this]
    show X.A.in1.units + 1 + 1 < cLine
    have h1 : X.A.in1.units ≤ X.A.units + 1 := Nat.le_refl _
    omega
  have eo := eachIs_out ho'
  rw [dataLe_tups] at eo
  generalize hms : bs.mergeSort (fun p q => decide (p.2 ≤ q.2)) = ms at eo
  have hpm : ms.Perm bs := hms ▸ List.mergeSort_perm _ _
  have hmem : ∀ z ∈ ms, H z.1 = some (.tup (z.2.map V.int)) := fun z hm => hz z (hpm.mem_iff.mp hm)
  have hpw : (ms.map (·.2)).Pairwise (· ≤ ·) := by
    rw [List.pairwise_map]
    have := List.pairwise_mergeSort (le := fun (p q : Addr × List Int) => decide (p.2 ≤ q.2)) (fun a b c h1 h2 => by
      simp only [decide_eq_true_eq] at *; exact List.le_trans h1 h2) (fun a b => by
      simp only [Bool.or_eq_true, decide_eq_true_eq]; exact List.le_total _ _) bs
    rw [hms] at this
    exact this.imp fun h => of_decide_eq_true h
  have hml : ms.length = ks.length := by rw [hpm.length_eq, hlb]
  obtain ⟨e', he'⟩ := PyProof.Rows.sortedHeap_at (vs := acc.toList) (out := out.toArray) hoL
  have hlen : (ms.map fun z => V.ref z.1).length ≤ sizeLine := by rw [List.length_map, hml, sizeLine_eq]; omega
  refine wpAny_pure ⟨_, rfl, .ref h'.objs.size, upd H h'.objs.size (.lst (ms.map fun z => V.ref z.1)), I1.laid (t' := tk) (fun b u e => ?_) (Nat.le_refl _)
    (show ObjOk X.prog X.w _ _ _ (.lst (ms.map fun z => V.ref z.1)) from ⟨hlen, out, e', eo ▸ vals_refs2, he'⟩), rfl, q ms _ hmem (by rw [← e2]; exact hpm.map _) hpw (I1.hok.fresh (Nat.le_refl _))⟩
  have hb : b < h'.objs.size := Heap.lt_size e
  rw [PyProof.Rows.sortedHeap_old (Nat.ne_of_lt hb) (by rw [size_push']; exact Nat.lt_succ_of_lt hb)]
  exact Heap.get?_push_of_some _ e
end
end L2

/-! RsE: runs over dicts by tuples of ints. -/
namespace Rs
open PySem PySem.Spec PyProof.Rows L2 SlX StX Ma
section
variable {X : Cx} {e : Expr} {es : List Expr} {t : TA} {p pos : Pos}
theorem p_sortedDT (hc : X.calm = true) (hu : X.A.units + 64 < cLine) (B : Bf X.mg) (ha : PA X (e :: es) t) (hg : Gl X "sorted" := by rfl) (he : starEach (e :: es) X.env = (false, eval e X.env) :: starEach es X.env := by rfl) (hpl : (backTo pos (starEach es X.env)).any (·.1) = false := by rfl) :
    PE X (.Call (.Name "sorted" p) (e :: es) [] pos) (tCB rSortedDT t) := pe_callB (call_sortedDT hc hu) hg B.sorted boot_sorted ha (by decide) (by decide) he hpl
end
/-- a tuple that stands as .tup -/
def Tn (Rs : List VP) : VP := fun v F => ∃ a vs, v = .ref a ∧ F a = some (.tup vs) ∧ Each Rs vs F
instance {Rs : List VP} [MonoL Rs] : Mono (Tn Rs) := ⟨fun _ _ _ e ⟨a, vs, h, s, r⟩ => ⟨a, vs, h, e _ _ s, MonoL.mono _ _ _ e r⟩⟩
section
variable {K : PySem.W.Frag} {σ : L2.St} {F : Hp} {L : Cells} {R : VP} {Rs : List VP} {t : TA} {te ty td tv : TE} {Nx : L2.St → Hp → Cells → Prop} {Rt : VP} {u : TS}
theorem Tn.tp {v : V} {F : Hp} (h : Tn Rs v F) : Tp K Rs v F := by
  obtain ⟨a, vs, rfl, h1, h2⟩ := h
  exact ⟨a, vs, rfl, .inl (.inl h1), h2⟩
theorem r_tupTn [MonoL Rs] (h : Run (t σ) F L (Each [Ls K Rs])) : Run (tCB (rTupOf K) t σ) F L (Tn Rs) := r_cb h fun vs F1 e1 hv => by
  obtain ⟨v, rfl, a, ws, rfl, hs, hr⟩ := each1 hv
  exact fun F2 N H e A Q q => ⟨a, ws, rfl, .inl ⟨sqL_up (e.trans A.ex) hs, fun p hp => q _ (upd F2 p _) _ (same_new (A.free hp)) (A.new hp) ⟨p, ws, rfl, upd_same, MonoL.mono _ _ _ (e.trans (same_new (A.free hp))) hr⟩⟩⟩
theorem x_dnewT {P : V → Hp → Cells → Prop} (h : ∀ p F1, Same F F1 → P (.ref p) F1 ((p, .dT []) :: L)) : RunX (tDNewT σ) F L P := fun F1 N H e A Q q p hp =>
  q (.ref p) F1 ((p, .dT []) :: L) _ (Same.refl _) (A.cell hp) (h p F1 e)
abbrev kT (k : List Int) : List Key := k.map Sum.inl
theorem kT_inj {a b : List Int} (h : kT a = kT b) : a = b := by
  induction a generalizing b with
  | nil => cases b with
    | nil => rfl
    | cons x y => cases h
  | cons x y ih => cases b with
    | nil => cases h
    | cons x' y' =>
      rw [kT, List.map_cons, kT, List.map_cons] at h
      injection h with h1 h2
      rw [Sum.inl.inj h1, ih h2]
theorem s_dputT {d : Addr} {kvs : List (List Key × V)} {k : List Int} {v : V} (hv : Run (tv σ) F ((d, .dT kvs) :: L) (Eqv v)) (hd : Run (td σ) F ((d, .dT kvs) :: L) (Eqv (.ref d))) (hk : Run (ty σ) F ((d, .dT kvs) :: L) R) (hR : ∀ x F1, R x F1 → ∃ b, x = .ref b ∧ F1 b = some (.tup (k.map V.int))) (hl : kvs.length < 100000)
    (c : ∀ F1, Same F F1 → Nx σ F1 ((d, .dT (putK kvs (kT k) v)) :: L)) : RunS (sDPut td ty tv) σ F ((d, .dT kvs) :: L) Nx Rt := fun F1 N H e A D q r =>
  hv F1 N H e A _ fun x F2 H2 e2 A2 hx => hd F2 N H2 (e.trans e2) A2 _ fun y F3 H3 e3 A3 hy => hk F3 N H3 ((e.trans e2).trans e3) A3 _ fun z F4 H4 e4 A4 hz => by
    cases hx
    cases hy
    obtain ⟨b, rfl, hb⟩ := hR _ _ hz
    refine ⟨d, _, rfl, DPut.t (k := kT k) (At.on1 A4) (A4.ex _ _ (by rw [hb, kV_ints])) (len_lt hl), ?_⟩
    exact q _ F4 _ _ ((e2.trans e3).trans e4) (At.put A4) (c F4 (((e.trans e2).trans e3).trans e4))
/-- cells stay apart from tuples: what is told of tuples stays told -/
theorem at_tups {F : Hp} {L : Cells} {H : Hp} (A : At F L H) : ∀ bs : List (Addr × List Int), (∀ z ∈ bs, H z.1 = some (.tup (z.2.map V.int))) → ∃ F', Same F F' ∧ At F' L H ∧ ∀ z ∈ bs, F' z.1 = some (.tup (z.2.map V.int))
  | [], _ => ⟨F, Same.refl F, A, fun z h => by cases h⟩
  | z :: bs, h => by
    obtain ⟨F', e, A', h'⟩ := at_tups A bs fun y hy => h y (List.mem_cons_of_mem _ hy)
    have hz := h z List.mem_cons_self
    have ne : ∀ p ∈ L, p.1 ≠ z.1 := fun p hp q => by
      have h1 := A.on p hp
      rw [q, hz] at h1
      exact A.nt p hp _ (Option.some.inj h1).symm
    have s1 : Same F' (upd F' z.1 (.tup (z.2.map V.int))) := fun b o eb => by
      by_cases hb : b = z.1
      · subst hb
        have := A'.ex _ _ eb
        rw [hz] at this
        rw [upd_same]; exact this
      · rw [upd_ne hb]; exact eb
    refine ⟨upd F' z.1 (.tup (z.2.map V.int)), e.trans s1, ⟨fun b o eb => ?_, A'.on, fun p hp => by rw [upd_ne (ne p hp)]; exact A'.off p hp, A'.nd, A'.nt⟩, fun y hy => ?_⟩
    · by_cases hb : b = z.1
      · subst hb; rw [upd_same] at eb; rw [← eb]; exact hz
      · rw [upd_ne hb] at eb; exact A'.ex b o eb
    · rcases List.mem_cons.mp hy with rfl | hy
      · exact upd_same
      · exact s1 _ _ (h' y hy)
theorem r_sortedDT {d : Addr} {kvs : List (List Key × V)} {ks : List (List Int)} (hm : (d, HO.dT kvs) ∈ L) (h : Run (t σ) F L (Each [Eqv (.ref d)])) (hk : kvs.map (·.1) = ks.map kT) (hl : ks.length < 64) (hne : ∀ k ∈ ks, k ≠ []) (os : List (List Int)) (h1 : os.Perm ks) (h2 : os.Pairwise (· ≤ ·)) :
    Run (tCB rSortedDT t σ) F L (Dt K (.list (os.map dI))) := r_cb h fun vs F1 e1 hv => by
  obtain ⟨v, rfl, hv1⟩ := each1 hv
  cases hv1
  refine fun F2 N H e A Q q => ⟨d, kvs, ks, rfl, At.mem A hm, hk, hl, hne, fun bs p hb hp hw hn => ?_⟩
  obtain ⟨F3, e3, A3, hb3⟩ := at_tups A bs hb
  have e : bs.map (·.2) = os := List.Perm.eq_of_pairwise (le := (· ≤ ·)) (fun a b _ _ x y => List.le_antisymm x y) hw h2 (hp.trans h1.symm)
  refine q _ (upd F3 p _) _ (e3.trans (same_new (A3.free hn))) (A3.new hn) ?_
  have s4 : Same F3 (upd F3 p (.lst (bs.map fun z => V.ref z.1))) := same_new (A3.free hn)
  refine ls_dt.mp ⟨p, _, rfl, .inl (.inl upd_same), ?_⟩
  rw [← e, List.map_map, List.map_map]
  have all : ∀ l : List (Addr × List Int), (∀ z ∈ l, z ∈ bs) → Each (l.map fun z => Dt K (dI z.2)) (l.map fun z => V.ref z.1) (upd F3 p (.lst (bs.map fun z => V.ref z.1))) := by
    intro l
    induction l with
    | nil => intro _; exact True.intro
    | cons z l ih =>
      intro hz
      refine ⟨tp_dt.mp ⟨z.1, _, rfl, .inl (.inl (s4 _ _ (hb3 z (hz z List.mem_cons_self)))), each_dt.mpr ints_vs⟩, ih fun y hy => hz y (List.mem_cons_of_mem _ hy)⟩
  exact all bs fun z hz => hz
end
end Rs

/-! Mc: parts. -/
namespace Ma
open PySem Rs L2
def partOf (re : Rows) (h : Nat) : List Nat := (row re h).filter fun o => decide (h ∈ row re o)
def addK (f : List (List Nat)) (k : List Nat) : List (List Nat) := if k ∈ f then f else f ++ [k]
def keysOf (re : Rows) : Nat → List (List Nat)
  | 0 => []
  | i + 1 => addK (keysOf re i) (partOf re i)
def kvP (f : List (List Nat)) : List (List Key × V) := f.map fun r => (kT (cI r), V.bl true)
theorem kvP_keys {f : List (List Nat)} : (kvP f).map (·.1) = (f.map cI).map kT := by unfold kvP; rw [List.map_map, List.map_map]; rfl
theorem kTcI {a b : List Nat} : kT (cI a) = kT (cI b) ↔ a = b := ⟨fun h => cI_inj.mp (kT_inj h), fun h => by rw [h]⟩
theorem kvP_put {f : List (List Nat)} {r : List Nat} : putK (kvP f) (kT (cI r)) (V.bl true) = kvP (addK f r) := by
  unfold putK addK
  have h1 : ((kvP f).any fun kv => decide (kv.1 = kT (cI r))) = decide (r ∈ f) := by
    unfold kvP
    rw [List.any_map, Bool.eq_iff_iff, List.any_eq_true, decide_eq_true_eq]
    constructor
    · rintro ⟨x, hx, e⟩
      have := kTcI.mp (of_decide_eq_true e)
      rw [← this]; exact hx
    · intro h
      exact ⟨r, h, decide_eq_true rfl⟩
  rw [h1]
  by_cases h : r ∈ f
  · rw [if_pos (decide_eq_true h), if_pos h]
    unfold kvP
    rw [List.map_map]
    apply List.map_congr_left
    intro x _
    show (if kT (cI x) = kT (cI r) then _ else _) = _
    split <;> rfl
  · rw [if_neg (by rw [decide_eq_false h]; decide), if_neg h]
    unfold kvP
    rw [List.map_append]; rfl
theorem keys_len {re : Rows} : ∀ i, (keysOf re i).length ≤ i
  | 0 => Nat.le_refl _
  | i + 1 => by
    unfold keysOf addK
    have := keys_len (re := re) i
    split
    · omega
    · rw [List.length_append, List.length_singleton]; omega
theorem mem_keys {re : Rows} {k : List Nat} : ∀ {i}, k ∈ keysOf re i ↔ ∃ h < i, k = partOf re h
  | 0 => by simp [keysOf]
  | i + 1 => by
    unfold keysOf addK
    have ih := mem_keys (re := re) (k := k) (i := i)
    split
    · rename_i hc
      rw [ih]
      constructor
      · rintro ⟨h, hh, e⟩; exact ⟨h, by omega, e⟩
      · rintro ⟨h, hh, e⟩
        by_cases q : h = i
        · subst q; rw [e]; exact mem_keys.mp hc
        · exact ⟨h, by omega, e⟩
    · rw [List.mem_append, ih, List.mem_singleton]
      constructor
      · rintro (⟨h, hh, e⟩ | e)
        · exact ⟨h, by omega, e⟩
        · exact ⟨i, by omega, e⟩
      · rintro ⟨h, hh, e⟩
        by_cases q : h = i
        · subst q; exact .inr e
        · exact .inl ⟨h, by omega, e⟩
def partsI (re : Rows) : List (List Int) := ((keysOf re re.length).map cI).mergeSort fun a b => decide (a ≤ b)
theorem parts_perm {re : Rows} : (partsI re).Perm ((keysOf re re.length).map cI) := List.mergeSort_perm _ _
theorem parts_sorted {re : Rows} : (partsI re).Pairwise (· ≤ ·) := by
  have := List.pairwise_mergeSort (le := fun (a b : List Int) => decide (a ≤ b)) (fun a b c h1 h2 => by
    simp only [decide_eq_true_eq] at *; exact List.le_trans h1 h2) (fun a b => by
    simp only [Bool.or_eq_true, decide_eq_true_eq]; exact List.le_total _ _) ((keysOf re re.length).map cI)
  exact this.imp fun h => of_decide_eq_true h
theorem part_self {rs : Rows} {h : Nat} (hh : h < rs.length) : h ∈ partOf (reachs rs) h := by
  unfold partOf
  rw [List.mem_filter, reachs_row hh, decide_eq_true_eq]
  have : h ∈ reachL rs h := mem_reachL.mpr ⟨hh, .refl⟩
  exact ⟨this, this⟩
end Ma

/-! Rz: list(zip(a, b, strict=True)) of two tuples. -/
namespace Rz
open PySem PySem.Spec PyProof.Rows
open PySem.Sem (wp)
abbrev kwS : List (Str × Value) := [(Str.ofString "strict", .bool true)]
theorem typeCall_zipS (a b : Value) : checkTypeCall "zip" ⟨[a, b], kwS⟩ = pure () := by kernel_rfl
theorem newCall_zipS (a b : Value) : checkBuiltinCall "zip.__new__" ⟨[.type "zip", a, b], kwS⟩ = pure () := by kernel_rfl
abbrev zH1 (h : Heap) (l1 : Addr) : Heap := h.push { cls := .type "tuple_iterator", data := .fields #[.ref l1, .int 0 0] }
abbrev zH2 (h : Heap) (l1 l2 : Addr) : Heap := (zH1 h l1).push { cls := .type "tuple_iterator", data := .fields #[.ref l2, .int 0 0] }
abbrev zH3 (h : Heap) (l1 l2 : Addr) : Heap := (zH2 h l1 l2).push { cls := .type "tuple", data := .seq #[.ref h.objs.size, .ref (zH1 h l1).objs.size] }
abbrev zH4 (h : Heap) (l1 l2 : Addr) : Heap := (zH3 h l1 l2).push { cls := .type "tuple", data := .seq #[.none, .none] }
abbrev zH5 (h : Heap) (l1 l2 : Addr) : Heap := (zH4 h l1 l2).push { cls := .type "zip", data := .fields #[.none, .bool false, .bool true, .ref (zH2 h l1 l2).objs.size, .ref (zH3 h l1 l2).objs.size] }
theorem meets_zipS (l1 l2 : Addr) (xs ys : Array Value) :
    Meets (Builtin.«zip.__new__» ⟨[.type "zip", .ref l1, .ref l2], kwS⟩) (fun _ R s => s.heap.IsTuple l1 xs ∧ s.heap.IsTuple l2 ys ∧
      ∀ tk, R (.ok (.ret (.ref (zH4 s.heap l1 l2).objs.size))) { s with heap := zH5 s.heap l1 l2, toks := tk }) :=
  .of_wp fun prog w A R s h => by
    obtain ⟨hp, g, d, tk, os⟩ := s; obtain ⟨hl1, hl2, h⟩ := h
    have hsub := sub_zip
    have hL1 : Heap.IsTuple (Shared.heap ⟨hp, g, d, tk, os⟩) l1 xs := hl1
    have hL2 : Heap.IsTuple (Shared.heap ⟨hp.push { cls := .type "tuple_iterator", data := .fields #[.ref l1, .int 0 0] }, g, d, tk, os⟩) l2 ys := Heap.IsTuple.push hl2 _
    wp_walk using wpAny_pyIter_tuple hL1, wpAny_pyIter_tuple hL2
    exact ⟨_, rfl, h _⟩
section
variable {prog : Program} {w : World} {A : Around} {E : Value → Shared → Prop} {s : Shared}
theorem object_init_kw {self : Value} {a b : Value} :
    Meets (Builtin.«object.__init__» ⟨[self, a, b], kwS⟩) (fun _ R s => s.TypeIs self "zip" ∧ R (.ok (.ret .none)) s) := by
  refine Meets.of_wp fun prog w A R s hs => ?_
  obtain ⟨hT, hq⟩ := hs
  have hl := F.called_zip.init.lookup
  have hm := F.called_zip.made
  repeat (any_goals (first | assumption | wp_step))
  exact ⟨_, rfl, hq⟩
theorem args_object_initS (a b c : Value) : argsOk "object.__init__" ⟨[a, b, c], kwS⟩ := by
  unfold argsOk; rw [signature?_of (id := "object.__init__") (n := ['_', '_', 't', 'i', 'n', 'i', '_', '_']) (o := ['t', 'c', 'e', 'j', 'b', 'o']) (by kernel_rfl) F.owner_object]; kernel_rfl
theorem call_zipS0 {l1 l2 : Addr} {xs ys : Array Value} {Q : Value → Shared → Prop} (hl1 : s.heap.IsTuple l1 xs) (hl2 : s.heap.IsTuple l2 ys)
    (h : ∀ tk, Q (.ref (zH4 s.heap l1 l2).objs.size) { s with heap := zH5 s.heap l1 l2, toks := tk }) :
    wpAny (model prog w) A (call (.type "zip") [.ref l1, .ref l2] kwS) Q E s := by
  have ft := F.called_zip
  obtain ⟨c, tl, hmro⟩ := ft.mro
  have hmade := ft.made
  have hsub := ft.sub
  refine wpAny_call (codeAny_of_tree ?_)
  show wpAny _ _ (callAny (.type "zip") _) _ _ _
  refine wpAny_pure ⟨Code.quiet_builtin _ (by decide +kernel), codeAny_builtin F.entry_type_call ?_⟩
  rw [Around.under_plain (show (Code.builtin "type.__call__" ⟨.type "zip" :: [.ref l1, .ref l2], kwS⟩).weight = 0 from rfl) (show (Code.builtin "type.__call__" ⟨.type "zip" :: [.ref l1, .ref l2], kwS⟩).cUnits = 1 from rfl)]
  have h1 := ft.notType
  have h2 := ft.canCreate
  have hct := typeCall_zipS (.ref l1) (.ref l2)
  repeat (any_goals (first | assumption | wp_step))
  refine codeAny_mono (codeAny_call_builtin ft.plain F.entry_zip_new (wpAny_of_eq (newCall_zipS _ _) (meets_zipS l1 l2 xs ys prog w A.in1 (wants (fun obj s₁ => s₁.TypeIs obj "zip" ∧ Q obj s₁) E) s ⟨hl1, hl2, fun tk => ⟨⟨_, Heap.get?_push_size _ rfl, rfl⟩, h tk⟩⟩))) fun r s₁ hr => ?_
  cases r with
  | error e => exact hr
  | ok fl =>
    cases fl with
    | ret obj =>
      obtain ⟨hT, hq⟩ := hr
      have hli := ft.init.lookup
      have hbi := ft.init.bind obj
      repeat (any_goals (first | assumption | wp_step))
      refine codeAny_mono (codeAny_call_builtin ft.init.plain F.entry_object_init (ft.init.check _ _ _ _ _ _ _ _ hT (args_object_initS _ _ _) (object_init_kw prog w A.in1 (wants (fun r s₂ => r = .none ∧ Q obj s₂) E) s₁ ⟨hT, rfl, hq⟩))) fun r₂ s₂ hr₂ => ?_
      cases r₂ with
      | error e => exact hr₂
      | ok fl₂ =>
        cases fl₂ with
        | ret r =>
          obtain ⟨rfl, hq⟩ := hr₂
          repeat (any_goals (first | assumption | wp_step))
        | _ => exact hr₂.elim
    | _ => exact hr.elim
open Builtin.SmallTypes (nextOf nextOrEnd)
theorem nextOrEnd_item {it l : Addr} {i : Nat} {items} {x : Value} {Q : Option Value → Shared → Prop} (hit : s.heap.IsTupleIter it l i) (hl : s.heap.IsTuple l items) (hx : items[i]? = some x)
    (hQ : ∀ h', h'.IsTupleIter it l (i + 1) → Heap.SameBut it s.heap h' → Q (some x) { s with heap := h' }) : wpAny (model prog w) A (nextOrEnd (.ref it)) Q E s := by
  unfold nextOrEnd
  exact wpAny_bind (wpAny_attempt (RZ.nextOf_tuple_item hit hl hx fun h' a b => wpAny_pure (hQ h' a b)))
theorem nextOrEnd_end {it l : Addr} {i : Nat} {items} {Q : Option Value → Shared → Prop} (hh : A.handled = none) (hit : s.heap.IsTupleIter it l i) (hl : s.heap.IsTuple l items) (hx : items[i]? = none)
    (hQ : ∀ h', Heap.ExtBut it s.heap h' → Q none { s with heap := h' }) : wpAny (model prog w) A (nextOrEnd (.ref it)) Q E s := by
  unfold nextOrEnd
  refine wpAny_bind (wpAny_attempt (RZ.nextOf_tuple_end hh hit hl hx fun h' e k ⟨o, ho, hc⟩ => ?_))
  refine wpAny_bind (wpAny_isInstance (T := "StopIteration") (b := true) ⟨o, ho, hc⟩ isSubtype_stop ?_)
  exact wpAny_pure (hQ h' k)
abbrev IsZS (h : Heap) (z TI TO : Addr) (f0 : Value) (f1 : Bool) : Prop :=
  h.get? z = some { cls := .type "zip", dict := none, data := .fields #[f0, .bool f1, .bool true, .ref TI, .ref TO], slots := #[] }
theorem zs_first {z TI TO i1 i2 l1 l2 : Addr} {k1 k2 : Nat} {xs ys : Array Value} {x y a b : Value} {Q : Value → Shared → Prop} (D : ZipApart z TI TO i1 i2 l1 l2)
    (hz : IsZS s.heap z TI TO .none false) (hTI : IsPair s.heap TI (.ref i1) (.ref i2)) (hTO : IsPair s.heap TO a b)
    (h1 : s.heap.IsTupleIter i1 l1 k1) (h2 : s.heap.IsTupleIter i2 l2 k2) (hl1 : s.heap.IsTuple l1 xs) (hl2 : s.heap.IsTuple l2 ys) (hx : xs[k1]? = some x) (hy : ys[k2]? = some y)
    (hQ : ∀ h', IsZS h' z TI TO (rawInt s.heap.objs.size) false → h'.IsTupleIter i1 l1 (k1 + 1) → h'.IsTupleIter i2 l2 (k2 + 1) → IsPair h' s.heap.objs.size x y → h'.objs.size = s.heap.objs.size + 1 →
      (∀ c o, c ≠ z → c ≠ TO → c ≠ i1 → c ≠ i2 → s.heap.get? c = some o → h'.get? c = some o) → Q (.ref s.heap.objs.size) { s with heap := h' }) :
    wpAny (model prog w) A (Builtin.«zip.__next__» ⟨[.ref z], []⟩) (fun fin s' => ∃ v, fin = .done (.ret v) ∧ Q v s') E s := by
  show wpAny _ _ (field (.ref z) 2 >>= _) _ _ _
  refine wpAny_bind (wpAny_field hz rfl (x := .bool true) rfl ?_)
  show wpAny _ _ (field (.ref z) 3 >>= _) _ _ _
  refine wpAny_bind (wpAny_field hz rfl (x := .ref TI) rfl ?_)
  refine wpAny_bind (wpAny_seqItems hTI rfl ?_)
  show wpAny _ _ (Builtin.SmallTypes.ownedTupleIsFree (.ref z) >>= _) _ _ _
  refine wpAny_bind ?_
  unfold Builtin.SmallTypes.ownedTupleIsFree
  refine wpAny_bind (wpAny_field hz rfl (x := .none) rfl (wpAny_pure ?_))
  simp only [if_true]
  refine wpAny_bind (wpAny_rule ?_)
  refine wpAny_bind (wpAny_field hz rfl (x := .ref TO) rfl ?_)
  refine wpAny_bind (wpAny_setField_rec hz (by simp) fun h₁ hz₁ hs₁ => ?_)
  replace hz₁ : IsZS h₁ z TI TO .ellipsis false := hz₁
  refine wpAny_bind ?_
  simp only [List.zipIdx_cons, List.zipIdx_nil, List.forIn_cons, List.forIn_nil]
  refine wpAny_bind (wpAny_bind (wpAny_onRaise ?_))
  show wpAny _ _ (nextOrEnd (.ref i1)) _ _ _
  refine nextOrEnd_item (h1.extBut hs₁.extBut D.i1z) (hl1.extBut hs₁.extBut D.l1z) hx fun h₂ h1₂ hs₂ => ?_
  have hTO₂ : IsPair h₂ TO a b := hs₂.extBut _ _ D.TOi1 (hs₁.extBut _ _ D.TOz hTO)
  refine wpAny_bind (wpAny_seqItems hTO₂ rfl ?_)
  refine wpAny_bind (wpAny_updateSeq_pair hTO₂ fun h₃ hTO₃ hs₃ => ?_)
  replace hTO₃ : IsPair h₃ TO x b := hTO₃
  refine wpAny_bind (wpAny_letGo (wpAny_pure ?_))
  refine wpAny_bind (wpAny_bind (wpAny_onRaise ?_))
  show wpAny _ _ (nextOrEnd (.ref i2)) _ _ _
  refine nextOrEnd_item (((h2.extBut hs₁.extBut D.i2z).extBut hs₂.extBut D.i12.symm).extBut hs₃.extBut D.TOi2.symm)
    (((hl2.extBut hs₁.extBut D.l2z).extBut hs₂.extBut D.l2i1).extBut hs₃.extBut D.l2TO) hy fun h₄ h2₄ hs₄ => ?_
  have hTO₄ : IsPair h₄ TO x b := hs₄.extBut _ _ D.TOi2 hTO₃
  refine wpAny_bind (wpAny_seqItems hTO₄ rfl ?_)
  refine wpAny_bind (wpAny_updateSeq_pair hTO₄ fun h₅ hTO₅ hs₅ => ?_)
  replace hTO₅ : IsPair h₅ TO x y := hTO₅
  refine wpAny_bind (wpAny_letGo (wpAny_pure (wpAny_pure ?_)))
  refine wpAny_bind (wpAny_seqItems hTO₅ rfl ?_)
  refine wpAny_bind (wpAny_newTuple ?_)
  have hsz : h₅.objs.size = s.heap.objs.size := by rw [hs₅.1, hs₄.1, hs₃.1, hs₂.1, hs₁.1]
  have hz₅ : IsZS h₅ z TI TO .ellipsis false := hs₅.extBut _ _ D.TOz.symm (hs₄.extBut _ _ D.i2z.symm (hs₃.extBut _ _ D.TOz.symm (hs₂.extBut _ _ D.i1z.symm hz₁)))
  have hk₅ : ∀ c o, c ≠ z → c ≠ TO → c ≠ i1 → c ≠ i2 → s.heap.get? c = some o → h₅.get? c = some o := fun c o c1 c2 c3 c4 e =>
    hs₅.extBut _ _ c2 (hs₄.extBut _ _ c4 (hs₃.extBut _ _ c2 (hs₂.extBut _ _ c3 (hs₁.extBut _ _ c1 e))))
  have h1₅ : h₅.IsTupleIter i1 l1 (k1 + 1) := ((h1₂.extBut hs₃.extBut D.TOi1.symm).extBut hs₄.extBut D.i12).extBut hs₅.extBut D.TOi1.symm
  have h2₅ : h₅.IsTupleIter i2 l2 (k2 + 1) := h2₄.extBut hs₅.extBut D.TOi2.symm
  have hzlt : z < h₅.objs.size := Heap.lt_size hz₅
  show wpAny _ _ (Builtin.SmallTypes.ownedTupleHandOut (.ref z) (.ref h₅.objs.size) >>= _) _ _ _
  refine wpAny_bind ?_
  unfold Builtin.SmallTypes.ownedTupleHandOut
  have hz₆ : IsZS (h₅.push { cls := .type "tuple", data := .seq #[x, y] }) z TI TO .ellipsis false := Heap.get?_push_of_some _ hz₅
  refine wpAny_bind (wpAny_setField_rec hz₆ (by simp) fun h₇ hz₇ hs₇ => ?_)
  replace hz₇ : IsZS h₇ z TI TO (rawInt h₅.objs.size) false := hz₇
  refine wpAny_setField_rec hz₇ (by simp) fun h₈ hz₈ hs₈ => ?_
  replace hz₈ : IsZS h₈ z TI TO (rawInt h₅.objs.size) false := hz₈
  have up : ∀ c o, c ≠ z → h₅.get? c = some o → h₈.get? c = some o := fun c o c1 e => hs₈.extBut _ _ c1 (hs₇.extBut _ _ c1 (Heap.get?_push_of_some _ e))
  have hT₈ : IsPair h₈ h₅.objs.size x y := hs₈.extBut _ _ (Nat.ne_of_gt hzlt) (hs₇.extBut _ _ (Nat.ne_of_gt hzlt) (Heap.get?_push_size _ rfl))
  have hz8 : h₈.objs.size = h₅.objs.size + 1 := by rw [hs₈.1, hs₇.1, Heap.size_push]
  rw [hsz] at hz₈ hT₈ hz8
  refine wpAny_pure ⟨_, rfl, ?_⟩
  show Q (.ref h₅.objs.size) _
  rw [hsz]
  exact hQ h₈ hz₈ (h1₅.at fun o e => up _ o D.i1z e) (h2₅.at fun o e => up _ o D.i2z e) hT₈ hz8 fun c o c1 c2 c3 c4 e => up c o c1 (hk₅ c o c1 c2 c3 c4 e)
theorem zs_held {z TI TO T : Addr} {f : Bool} {oT : Obj} {Q : Bool → Shared → Prop} (hz : IsZS s.heap z TI TO (rawInt T) f) (hT : s.heap.get? T = some oT)
    (h : ∀ h', IsZS h' z TI TO (rawInt T) true → Heap.SameBut z s.heap h' → Q false { s with heap := h' }) : wpAny (model prog w) A (Builtin.SmallTypes.ownedTupleIsFree (.ref z)) Q E s := by
  unfold Builtin.SmallTypes.ownedTupleIsFree
  refine wpAny_bind (wpAny_field hz rfl (x := rawInt T) rfl ?_)
  show wpAny _ _ (loadIfAlive ((T : Int).toNat) >>= _) _ _ _
  rw [Int.toNat_natCast]
  refine wpAny_bind (PySem.W.kdx_alive hT ?_)
  simp only [Option.isNone_some, Bool.false_eq_true, if_false]
  refine wpAny_bind (wpAny_field hz rfl (x := .bool f) rfl ?_)
  cases f with
  | true =>
    rw [if_neg (show ¬ ((Value.bool true != Value.bool true) = true) from Bool.false_ne_true)]
    exact wpAny_pure (h s.heap hz (Heap.SameBut.refl _ _))
  | false =>
    rw [if_pos (show (Value.bool false != Value.bool true) = true from rfl)]
    exact wpAny_bind (wpAny_setField_rec hz (by simp) fun h₁ hz₁ hs₁ => wpAny_pure (h h₁ hz₁ hs₁))
theorem zs_item {z TI TO T i1 i2 l1 l2 : Addr} {f : Bool} {oT : Obj} {k1 k2 : Nat} {xs ys : Array Value} {x y : Value} {Q : Value → Shared → Prop} (D : ZipApart z TI TO i1 i2 l1 l2)
    (hz : IsZS s.heap z TI TO (rawInt T) f) (hT : s.heap.get? T = some oT) (hTI : IsPair s.heap TI (.ref i1) (.ref i2))
    (h1 : s.heap.IsTupleIter i1 l1 k1) (h2 : s.heap.IsTupleIter i2 l2 k2) (hl1 : s.heap.IsTuple l1 xs) (hl2 : s.heap.IsTuple l2 ys) (hx : xs[k1]? = some x) (hy : ys[k2]? = some y)
    (hQ : ∀ h', IsZS h' z TI TO (rawInt T) true → h'.IsTupleIter i1 l1 (k1 + 1) → h'.IsTupleIter i2 l2 (k2 + 1) → IsPair h' s.heap.objs.size x y → h'.objs.size = s.heap.objs.size + 1 →
      (∀ c o, c ≠ z → c ≠ i1 → c ≠ i2 → s.heap.get? c = some o → h'.get? c = some o) → Q (.ref s.heap.objs.size) { s with heap := h' }) :
    wpAny (model prog w) A (Builtin.«zip.__next__» ⟨[.ref z], []⟩) (fun fin s' => ∃ v, fin = .done (.ret v) ∧ Q v s') E s := by
  show wpAny _ _ (field (.ref z) 2 >>= _) _ _ _
  refine wpAny_bind (wpAny_field hz rfl (x := .bool true) rfl ?_)
  show wpAny _ _ (field (.ref z) 3 >>= _) _ _ _
  refine wpAny_bind (wpAny_field hz rfl (x := .ref TI) rfl ?_)
  refine wpAny_bind (wpAny_seqItems hTI rfl ?_)
  show wpAny _ _ (Builtin.SmallTypes.ownedTupleIsFree (.ref z) >>= _) _ _ _
  refine wpAny_bind (zs_held hz hT fun h₁ hz₁ hs₁ => ?_)
  simp only [Bool.false_eq_true, if_false]
  refine wpAny_bind ?_
  rw [← Array.forIn_toList]
  simp only [List.forIn_cons, List.forIn_nil]
  refine wpAny_bind (wpAny_bind (wpAny_holding ?_))
  show wpAny _ _ (nextOrEnd (.ref i1)) _ _ _
  refine nextOrEnd_item (s := { s with heap := h₁ }) (h1.extBut hs₁.extBut D.i1z) (hl1.extBut hs₁.extBut D.l1z) hx fun h₂ h1₂ hs₂ => ?_
  refine wpAny_pure ?_
  refine wpAny_bind (wpAny_bind (wpAny_holding ?_))
  show wpAny _ _ (nextOrEnd (.ref i2)) _ _ _
  refine nextOrEnd_item (s := { s with heap := h₂ }) ((h2.extBut hs₁.extBut D.i2z).extBut hs₂.extBut D.i12.symm) ((hl2.extBut hs₁.extBut D.l2z).extBut hs₂.extBut D.l2i1) hy fun h₃ h2₃ hs₃ => ?_
  refine wpAny_pure (wpAny_pure ?_)
  show wpAny _ _ (newTuple [x, y] >>= _) _ _ _
  refine wpAny_bind (wpAny_newTuple ?_)
  have hsz : h₃.objs.size = s.heap.objs.size := by rw [hs₃.1, hs₂.1, hs₁.1]
  have hz₃ : IsZS h₃ z TI TO (rawInt T) true := hs₃.extBut _ _ D.i2z.symm (hs₂.extBut _ _ D.i1z.symm hz₁)
  have hk : ∀ c o, c ≠ z → c ≠ i1 → c ≠ i2 → s.heap.get? c = some o → h₃.get? c = some o := fun c o c1 c2 c3 e => hs₃.extBut _ _ c3 (hs₂.extBut _ _ c2 (hs₁.extBut _ _ c1 e))
  have h1₃ : h₃.IsTupleIter i1 l1 (k1 + 1) := h1₂.extBut hs₃.extBut D.i12
  refine wpAny_pure ⟨_, rfl, ?_⟩
  show Q (.ref h₃.objs.size) _
  have hp : IsPair (h₃.push { cls := .type "tuple", data := .seq #[x, y] }) h₃.objs.size x y := Heap.get?_push_size _ rfl
  have hz4 : (h₃.push { cls := .type "tuple", data := .seq #[x, y] }).objs.size = h₃.objs.size + 1 := Heap.size_push ..
  rw [hsz] at hp hz4 ⊢
  exact hQ _ (Heap.get?_push_of_some _ hz₃) (h1₃.at fun o e => Heap.get?_push_of_some _ e) (h2₃.at fun o e => Heap.get?_push_of_some _ e) hp hz4 fun c o c1 c2 c3 e => Heap.get?_push_of_some _ (hk c o c1 c2 c3 e)
theorem zs_end {z TI TO T i1 i2 l1 l2 : Addr} {f : Bool} {oT : Obj} {k1 k2 : Nat} {xs ys : Array Value} {Q : Fin → Shared → Prop} (hh : A.handled = none) (D : ZipApart z TI TO i1 i2 l1 l2)
    (hz : IsZS s.heap z TI TO (rawInt T) f) (hT : s.heap.get? T = some oT) (hTI : IsPair s.heap TI (.ref i1) (.ref i2))
    (h1 : s.heap.IsTupleIter i1 l1 k1) (h2 : s.heap.IsTupleIter i2 l2 k2) (hl1 : s.heap.IsTuple l1 xs) (hl2 : s.heap.IsTuple l2 ys) (hx : xs[k1]? = none) (hy : ys[k2]? = none)
    (hE : ∀ h' e, (∀ c o, c ≠ z → c ≠ i1 → c ≠ i2 → s.heap.get? c = some o → h'.get? c = some o) → (∃ o, h'.get? e = some o ∧ o.cls = .type "StopIteration") → E (.ref e) { s with heap := h' }) :
    wpAny (model prog w) A (Builtin.«zip.__next__» ⟨[.ref z], []⟩) Q E s := by
  show wpAny _ _ (field (.ref z) 2 >>= _) _ _ _
  refine wpAny_bind (wpAny_field hz rfl (x := .bool true) rfl ?_)
  show wpAny _ _ (field (.ref z) 3 >>= _) _ _ _
  refine wpAny_bind (wpAny_field hz rfl (x := .ref TI) rfl ?_)
  refine wpAny_bind (wpAny_seqItems hTI rfl ?_)
  show wpAny _ _ (Builtin.SmallTypes.ownedTupleIsFree (.ref z) >>= _) _ _ _
  refine wpAny_bind (zs_held hz hT fun h₁ hz₁ hs₁ => ?_)
  simp only [Bool.false_eq_true, if_false]
  refine wpAny_bind ?_
  rw [← Array.forIn_toList]
  simp only [List.forIn_cons, List.forIn_nil]
  refine wpAny_bind (wpAny_bind (wpAny_holding ?_))
  show wpAny _ _ (nextOrEnd (.ref i1)) _ _ _
  refine nextOrEnd_end (s := { s with heap := h₁ }) hh (h1.extBut hs₁.extBut D.i1z) (hl1.extBut hs₁.extBut D.l1z) hx fun h₂ hs₂ => ?_
  refine wpAny_bind (wpAny_bind ?_)
  wp_delta
  simp only [List.drop_succ_cons, List.drop_zero, List.zipIdx_cons, List.zipIdx_nil, List.forIn'_cons, List.forIn'_nil]
  refine wpAny_bind (wpAny_bind ?_)
  refine nextOrEnd_end (s := { s with heap := h₂ }) hh ((h2.extBut hs₁.extBut D.i2z).extBut hs₂ D.i12.symm) ((hl2.extBut hs₁.extBut D.l2z).extBut hs₂ D.l2i1) hy fun h₃ hs₃ => ?_
  have hk : ∀ c o, c ≠ z → c ≠ i1 → c ≠ i2 → s.heap.get? c = some o → h₃.get? c = some o := fun c o c1 c2 c3 e => hs₃ c o c3 (hs₂ c o c2 (hs₁.extBut _ _ c1 e))
  simp only [Option.isSome_none, Bool.false_eq_true, if_false]
  refine wpAny_pure (wpAny_pure ?_)
  refine wpAny_bind (wpAny_rule ?_)
  unfold Builtin.SmallTypes.stopIteration
  refine wpAny_bind ?_
  simp only [newExc, newTuple]
  refine wpAny_bind (wpAny_newObj_type ?_ (by size_fits))
  refine wpAny_bind (m := firstArgMember _ _) (wpAny_of_eq (a := Value.none) (by first | rfl | (simp only [firstArgMember]; rfl)) ?_)
  refine wpAny_newObj_type ?_ (by size_fits)
  simp only [raiseNew]
  refine wpAny_bind (wpAny_handled ?_)
  rw [hh]
  refine wpAny_bind (wpAny_pure (wpAny_throw ?_))
  exact hE _ _ (fun c o c1 c2 c3 e => Heap.get?_push_of_some _ (Heap.get?_push_of_some _ (hk c o c1 c2 c3 e))) ⟨_, Heap.get?_push_size _ rfl, rfl⟩
/-- the zip while it is used up: nothing is out yet, or the first pair is -/
def ZSt (h : Heap) (z TI TO i1 i2 l1 l2 S : Addr) (xs ys : Array Value) (k : Nat) : Prop :=
  IsPair h TI (.ref i1) (.ref i2) ∧ h.IsTupleIter i1 l1 k ∧ h.IsTupleIter i2 l2 k ∧ h.IsTuple l1 xs ∧ h.IsTuple l2 ys ∧
  ((k = 0 ∧ IsZS h z TI TO .none false ∧ IsPair h TO .none .none) ∨ ∃ (T : Addr) (f : Bool) (oT : Obj), IsZS h z TI TO (rawInt T) f ∧ h.get? T = some oT ∧ T ≠ z ∧ T ≠ i1 ∧ T ≠ i2 ∧ T ≠ S)
theorem ZSt.keep {h h' : Heap} {z TI TO i1 i2 l1 l2 S : Addr} {xs ys : Array Value} {k : Nat} (Z : ZSt h z TI TO i1 i2 l1 l2 S xs ys k) (D : ZipApart z TI TO i1 i2 l1 l2) (hS : S ≠ z ∧ S ≠ TI ∧ S ≠ TO ∧ S ≠ i1 ∧ S ≠ i2 ∧ S ≠ l1 ∧ S ≠ l2)
    (kp : ∀ b o, b ≠ S → h.get? b = some o → h'.get? b = some o) : ZSt h' z TI TO i1 i2 l1 l2 S xs ys k := by
  obtain ⟨a1, a2, a3, a4, a5, a6⟩ := Z
  refine ⟨kp _ _ hS.2.1.symm a1, a2.at fun o e => kp _ o hS.2.2.2.1.symm e, a3.at fun o e => kp _ o hS.2.2.2.2.1.symm e, ?_, ?_, ?_⟩
  · obtain ⟨o, ho, x⟩ := a4; exact ⟨o, kp _ _ hS.2.2.2.2.2.1.symm ho, x⟩
  · obtain ⟨o, ho, x⟩ := a5; exact ⟨o, kp _ _ hS.2.2.2.2.2.2.symm ho, x⟩
  · rcases a6 with ⟨b1, b2, b3⟩ | ⟨T, f, oT, b1, b2, b3, b4, b5, b6⟩
    · exact .inl ⟨b1, kp _ _ hS.1.symm b2, kp _ _ hS.2.2.1.symm b3⟩
    · exact .inr ⟨T, f, oT, kp _ _ hS.1.symm b1, kp _ _ b6 b2, b3, b4, b5, b6⟩
theorem zs_pyItem {z TI TO i1 i2 l1 l2 S : Addr} {xs ys : Array Value} {k : Nat} {x y : Value} {Q : Option Value → Shared → Prop} (D : ZipApart z TI TO i1 i2 l1 l2) (hS : S < s.heap.objs.size)
    (Z : ZSt s.heap z TI TO i1 i2 l1 l2 S xs ys k) (hx : xs[k]? = some x) (hy : ys[k]? = some y)
    (hQ : ∀ h', ZSt h' z TI TO i1 i2 l1 l2 S xs ys (k + 1) → IsPair h' s.heap.objs.size x y → h'.objs.size = s.heap.objs.size + 1 →
      (∀ c o, c ≠ z → c ≠ TO → c ≠ i1 → c ≠ i2 → s.heap.get? c = some o → h'.get? c = some o) → Q (some (.ref s.heap.objs.size)) { s with heap := h' }) :
    wpAny (model prog w) A (pyNext (.ref z)) Q E s := by
  obtain ⟨a1, a2, a3, a4, a5, a6⟩ := Z
  have tup : ∀ {l : Addr} {zs : Array Value} {h' : Heap}, s.heap.IsTuple l zs → (∀ o, s.heap.get? l = some o → h'.get? l = some o) → h'.IsTuple l zs := fun ⟨o, ho, x⟩ k => ⟨o, k o ho, x⟩
  rcases a6 with ⟨b1, b2, b3⟩ | ⟨T, f, oT, b1, b2, b3, b4, b5, b6⟩
  · have hT : s.TypeIs (.ref z) "zip" := ⟨_, b2, rfl⟩
    have hzl : z < s.heap.objs.size := Heap.lt_size b2
    have hi1 : i1 < s.heap.objs.size := by obtain ⟨_, e, _⟩ := a2; exact Heap.lt_size e
    have hi2 : i2 < s.heap.objs.size := by obtain ⟨_, e, _⟩ := a3; exact Heap.lt_size e
    unfold pyNext
    refine wpAny_bind (wpAny_attempt (wpAny_callSpecial?_slot (name := Str.ofString "__next__") hT F.slot_zip_next
      (wpAny_call_entry F.slot_zip_next hT F.entry_zip_next (zs_first D b2 a1 b3 a2 a3 a4 a5 hx hy fun h' c1 c2 c3 c4 c5 c6 => wpAny_pure (hQ h' ?_ c4 c5 c6)) (F.args_zip_next_1 _))))
    exact ⟨c6 _ _ D.TIz D.TITO D.TIi1 D.TIi2 a1, c2, c3, tup a4 fun o e => c6 _ o D.l1z D.l1TO D.l1i1 D.l1i2 e, tup a5 fun o e => c6 _ o D.l2z D.l2TO D.l2i1 D.l2i2 e,
      .inr ⟨s.heap.objs.size, false, _, c1, c4, Nat.ne_of_gt hzl, Nat.ne_of_gt hi1, Nat.ne_of_gt hi2, Nat.ne_of_gt hS⟩⟩
  · have hT : s.TypeIs (.ref z) "zip" := ⟨_, b1, rfl⟩
    unfold pyNext
    refine wpAny_bind (wpAny_attempt (wpAny_callSpecial?_slot (name := Str.ofString "__next__") hT F.slot_zip_next
      (wpAny_call_entry F.slot_zip_next hT F.entry_zip_next (zs_item D b1 b2 a1 a2 a3 a4 a5 hx hy fun h' c1 c2 c3 c4 c5 c6 => wpAny_pure (hQ h' ?_ c4 c5 fun c o d1 _ d3 d4 e => c6 c o d1 d3 d4 e)) (F.args_zip_next_1 _))))
    exact ⟨c6 _ _ D.TIz D.TIi1 D.TIi2 a1, c2, c3, tup a4 fun o e => c6 _ o D.l1z D.l1i1 D.l1i2 e, tup a5 fun o e => c6 _ o D.l2z D.l2i1 D.l2i2 e,
      .inr ⟨T, true, oT, c1, c6 _ _ b3 b4 b5 b2, b3, b4, b5, b6⟩⟩
theorem zs_pyEnd {z TI TO i1 i2 l1 l2 S : Addr} {xs ys : Array Value} {k : Nat} {Q : Option Value → Shared → Prop} (hh : A.handled = none) (D : ZipApart z TI TO i1 i2 l1 l2)
    (Z : ZSt s.heap z TI TO i1 i2 l1 l2 S xs ys k) (hk : k ≠ 0) (hx : xs[k]? = none) (hy : ys[k]? = none)
    (hQ : ∀ h', (∀ c o, c ≠ z → c ≠ i1 → c ≠ i2 → s.heap.get? c = some o → h'.get? c = some o) → Q none { s with heap := h' }) :
    wpAny (model prog w) A (pyNext (.ref z)) Q E s := by
  obtain ⟨a1, a2, a3, a4, a5, a6⟩ := Z
  rcases a6 with ⟨b1, _⟩ | ⟨T, f, oT, b1, b2, b3, b4, b5, b6⟩
  · exact absurd b1 hk
  have hTy : s.TypeIs (.ref z) "zip" := ⟨_, b1, rfl⟩
  unfold pyNext
  refine wpAny_bind (wpAny_attempt (wpAny_callSpecial?_slot (name := Str.ofString "__next__") hTy F.slot_zip_next
    (wpAny_call_entry F.slot_zip_next hTy F.entry_zip_next (zs_end hh D b1 b2 a1 a2 a3 a4 a5 hx hy fun h' e hk he => ?_) (F.args_zip_next_1 _))))
  obtain ⟨o, ho, hc⟩ := he
  refine wpAny_bind (wpAny_isInstance (T := "StopIteration") (b := true) ⟨o, ho, hc⟩ isSubtype_stop ?_)
  exact wpAny_pure (hQ _ hk)
end
end Rz

/-! Rz2: the list of a strict zip. -/
namespace Rz
open PySem PySem.Spec PyProof.Rows
open PySem.Sem (wp)
theorem nolen_zip : typeLookup (.type "zip") "__len__" = pure none := by rw [typeLookup_type, builtinLookup_eq_fast]; kernel_rfl
theorem nohint_zip : typeLookup (.type "zip") "__length_hint__" = pure none := by rw [typeLookup_type, builtinLookup_eq_fast]; kernel_rfl
def Prs (xs ys : Array Value) (B : Addr) (h : Heap) (as : List Addr) : Prop := as.Pairwise (· < ·) ∧ ∀ (j : Nat) (a : Addr), as[j]? = some a → B ≤ a ∧ ∃ x y, xs[j]? = some x ∧ ys[j]? = some y ∧ IsPair h a x y
structure Zap (z TI TO i1 i2 l1 l2 S B : Addr) : Prop where
  ap : ZipApart z TI TO i1 i2 l1 l2
  z_ : S ≠ z
  TI_ : S ≠ TI
  TO_ : S ≠ TO
  i1_ : S ≠ i1
  i2_ : S ≠ i2
  l1_ : S ≠ l1
  l2_ : S ≠ l2
  Bz : z < B
  BTO : TO < B
  Bi1 : i1 < B
  Bi2 : i2 < B
  BS : S < B
section
variable {prog : Program} {w : World} {A : Around} {E : Value → Shared → Prop} {s : Shared} {R : Result → Shared → Prop} {z TI TO i1 i2 l1 l2 S B : Addr} {xs ys : Array Value}
theorem Zap.ap' (Z : Zap z TI TO i1 i2 l1 l2 S B) : S ≠ z ∧ S ≠ TI ∧ S ≠ TO ∧ S ≠ i1 ∧ S ≠ i2 ∧ S ≠ l1 ∧ S ≠ l2 := ⟨Z.z_, Z.TI_, Z.TO_, Z.i1_, Z.i2_, Z.l1_, Z.l2_⟩
theorem loopZ (hh : A.handled = none) (Z : Zap z TI TO i1 i2 l1 l2 S B) (hxy : xs.size = ys.size) (h0 : xs.size ≠ 0) (hn : xs.size ≤ sizeLine) (res : Value) {h₁ : Heap}
    (hR : ∀ h' tk acc c as, (∀ b o, b ≠ S → b ≠ z → b ≠ TO → b ≠ i1 → b ≠ i2 → h₁.get? b = some o → h'.get? b = some o) → h'.get? S = some { cls := .type "list", dict := none, data := .seq acc c, slots := #[] } → as.length = xs.size → Prs xs ys B h' as →
      acc.toList = as.map Value.ref → R (.ok (.ret res)) { s with heap := h', toks := tk }) :
    ∀ (k i : Nat) (h : Heap) (tk c : Nat) (acc : Array Value) (as : List Addr), xs.size - i = k → i ≤ xs.size → ZSt h z TI TO i1 i2 l1 l2 S xs ys i → (∀ b o, b ≠ S → b ≠ z → b ≠ TO → b ≠ i1 → b ≠ i2 → h₁.get? b = some o → h.get? b = some o) →
      h.get? S = some { cls := .type "list", dict := none, data := .seq acc c, slots := #[] } → acc.toList = as.map Value.ref → as.length = i → Prs xs ys B h as → B ≤ h.objs.size →
      codeAny (model prog w) A (.builtin "list.extend.loop" ⟨[.ref S, .ref z, res], []⟩) R { s with heap := h, toks := tk } := by
  intro k
  induction k with
  | zero =>
    intro i h tk c acc as hk hi hst hkeep hS hacc hal hG hB
    have ei : i = xs.size := by omega
    refine codeAny_builtin PySem.F.entry_extend_loop ?_
    rw [Around.under_plainId PySem.F.plain_extend_loop _]
    show wpAny _ A.in1 (pyNext (.ref z) >>= _) _ _ _
    refine wpAny_bind (zs_pyEnd (s := { s with heap := h, toks := tk }) (A := A.in1) hh Z.ap hst (by omega) (Array.getElem?_eq_none (by omega)) (Array.getElem?_eq_none (by omega)) fun h' he => ?_)
    refine wpAny_pure (hR h' tk acc c as (fun b o h1 h2 h3 h4 h5 e => he b o h2 h4 h5 (hkeep b o h1 h2 h3 h4 h5 e)) (he S _ Z.z_ Z.i1_ Z.i2_ hS) (by omega) ⟨hG.1, fun j a hj => ?_⟩ hacc)
    obtain ⟨g1, x, y, g2, g3, g4⟩ := hG.2 j a hj
    exact ⟨g1, x, y, g2, g3, he a _ (Nat.ne_of_gt (Nat.lt_of_lt_of_le Z.Bz g1)) (Nat.ne_of_gt (Nat.lt_of_lt_of_le Z.Bi1 g1)) (Nat.ne_of_gt (Nat.lt_of_lt_of_le Z.Bi2 g1)) g4⟩
  | succ k ih =>
    intro i h tk c acc as hk hi hst hkeep hS hacc hal hG hB
    have hlt : i < xs.size := by omega
    have hlt2 : i < ys.size := by omega
    have hsz : acc.size = i := by rw [← Array.length_toList, hacc, List.length_map, hal]
    refine codeAny_builtin PySem.F.entry_extend_loop ?_
    rw [Around.under_plainId PySem.F.plain_extend_loop _]
    show wpAny _ A.in1 (pyNext (.ref z) >>= _) _ _ _
    refine wpAny_bind (zs_pyItem (s := { s with heap := h, toks := tk }) (S := S) Z.ap (Heap.lt_size hS) hst (Array.getElem?_eq_getElem hlt) (Array.getElem?_eq_getElem hlt2) fun h' hst' ht hz hkp => ?_)
    dsimp only at ht hz hkp ⊢
    have hS' := hkp S _ Z.z_ Z.TO_ Z.i1_ Z.i2_ hS
    have up : ∀ b o, b ≠ S → h'.get? b = some o → (h'.update S (Obj.mapSeq (·.push (Value.ref h.objs.size)))).get? b = some o := fun b o hb e => (Heap.get?_update_other _ _ (Ne.symm hb)).trans e
    have hSl : S < h.objs.size := Heap.lt_size hS
    have off : ∀ a, B ≤ a → a ≠ S ∧ a ≠ z ∧ a ≠ TO ∧ a ≠ i1 ∧ a ≠ i2 := fun a g => ⟨Nat.ne_of_gt (Nat.lt_of_lt_of_le Z.BS g), Nat.ne_of_gt (Nat.lt_of_lt_of_le Z.Bz g), Nat.ne_of_gt (Nat.lt_of_lt_of_le Z.BTO g), Nat.ne_of_gt (Nat.lt_of_lt_of_le Z.Bi1 g), Nat.ne_of_gt (Nat.lt_of_lt_of_le Z.Bi2 g)⟩
    show wpAny _ A.in1 (updateSeq S (·.push (Value.ref h.objs.size)) >>= _) _ _ _
    refine wpAny_bind ?_
    refine wpAny_updateSeq hS' rfl (wpAny_pure ⟨plainId_quiet PySem.F.plain_extend_loop _, ih (i + 1) _ tk _ (acc.push (Value.ref h.objs.size)) (as ++ [h.objs.size]) (by omega) hlt (hst'.keep Z.ap Z.ap' up)
      (fun b o h1 h2 h3 h4 h5 e => up b o h1 (hkp b o h2 h3 h4 h5 (hkeep b o h1 h2 h3 h4 h5 e))) (Heap.get?_update_self _ hS' rfl) (by rw [Array.toList_push, hacc, List.map_append]; rfl) (by rw [List.length_append, hal]; rfl) ?_ ?_⟩) (by rw [hsz]; omega) (by show (acc.push (Value.ref h.objs.size)).size ≤ sizeLine + 1; rw [Array.size_push, hsz]; omega)
    · refine ⟨List.pairwise_append.mpr ⟨hG.1, List.pairwise_singleton _ _, fun a ha b hb => ?_⟩, ?_⟩
      · rw [List.mem_singleton.mp hb]
        obtain ⟨j, hj⟩ := List.mem_iff_getElem?.mp ha
        obtain ⟨_, _, _, _, _, g4⟩ := hG.2 j a hj
        exact Heap.lt_size g4
      intro j b hj
      rcases Nat.lt_trichotomy j as.length with h1 | h1 | h1
      · rw [List.getElem?_append_left h1] at hj
        obtain ⟨g1, x, y, g2, g3, g4⟩ := hG.2 j b hj
        obtain ⟨o1, o2, o3, o4, o5⟩ := off b g1
        exact ⟨g1, x, y, g2, g3, up b _ o1 (hkp b _ o2 o3 o4 o5 g4)⟩
      · subst h1
        have hb : h.objs.size = b := by simpa using hj
        subst hb
        subst hal
        exact ⟨hB, _, _, Array.getElem?_eq_getElem hlt, Array.getElem?_eq_getElem hlt2, up _ _ (Nat.ne_of_gt hSl) ht⟩
      · have hnone : (as ++ [h.objs.size])[j]? = none := List.getElem?_eq_none (by rw [List.length_append, List.length_singleton]; omega)
        rw [hnone] at hj; cases hj
    · have e : (h'.update S (Obj.mapSeq (·.push (Value.ref h.objs.size)))).get? h.objs.size = _ := up _ _ (Nat.ne_of_gt hSl) ht
      exact Nat.le_trans hB (Nat.le_of_lt (Heap.lt_size e))
theorem zs_iter {f0 : Value} {f1 : Bool} {Q : Value → Shared → Prop} (hz : IsZS s.heap z TI TO f0 f1) (h : Q (.ref z) s) : wpAny (model prog w) A (pyIter (.ref z)) Q E s := by
  have hT : s.TypeIs (.ref z) "zip" := ⟨_, hz, rfl⟩
  refine wpAny_pyIter_slot hT F.slot_zip_iter (wpAny_call_entry F.slot_zip_iter hT F.entry_zip_iter ?_ (F.args_zip_iter_1 _))
  show wpAny _ _ (ret (.ref z)) _ _ s
  exact wpAny_pure ⟨_, rfl, "zip", _, hT, F.slot_zip_next.lookup, h⟩
theorem zs_hint {f0 : Value} {f1 : Bool} {Q : Bool → Shared → Prop} (hz : IsZS s.heap z TI TO f0 f1) (h : Q true s) : wpAny (model prog w) A (Builtin.List.listLengthHint (.ref z)) Q E s := by
  have hT : s.TypeIs (.ref z) "zip" := ⟨_, hz, rfl⟩
  unfold Builtin.List.listLengthHint
  refine wpAny_bind (wpAny_specialOf hT nolen_zip ?_)
  show wpAny _ _ (specialOf (Value.ref z) (Str.ofString "__length_hint__") >>= _) _ _ _
  refine wpAny_bind (wpAny_specialOf hT nohint_zip ?_)
  exact wpAny_pure h
theorem extZ (hh : A.handled = none) (Z : Zap z TI TO i1 i2 l1 l2 S B) (hxy : xs.size = ys.size) (h0 : xs.size ≠ 0) (hn : xs.size ≤ sizeLine) (hB : B ≤ s.heap.objs.size) (hst : ZSt s.heap z TI TO i1 i2 l1 l2 S xs ys 0) (res : Value) (c₀ : Nat) (hS : s.heap.get? S = some { cls := .type "list", data := .seq #[] c₀ })
    (hR : ∀ h' tk acc c as, (∀ b o, b ≠ S → b ≠ z → b ≠ TO → b ≠ i1 → b ≠ i2 → s.heap.get? b = some o → h'.get? b = some o) → h'.get? S = some { cls := .type "list", dict := none, data := .seq acc c, slots := #[] } → as.length = xs.size → Prs xs ys B h' as →
      acc.toList = as.map Value.ref → R (.ok (.ret res)) { s with heap := h', toks := tk }) :
    wpAny (model prog w) A.in1 (Builtin.List.listExtendWith (.ref S) (.ref z) res)
      (fun fin s' => match fin with | .done f => R (.ok f) s' | .again c' => c'.quiet = true ∧ codeAny (model prog w) A c' R s') (fun e s' => R (.error e) s') s := by
  have key : ∀ (h : Heap) (c₁ tk : Nat), (∀ b o, b ≠ S → s.heap.get? b = some o → h.get? b = some o) → h.get? S = some { cls := .type "list", data := .seq #[] c₁ } → B ≤ h.objs.size →
      codeAny (model prog w) A (.builtin "list.extend.loop" ⟨[.ref S, .ref z, res], []⟩) R { s with heap := h, toks := tk } := fun h c₁ tk hk hS₁ hB₁ =>
    loopZ (h₁ := s.heap) hh Z hxy h0 hn res hR xs.size 0 h tk c₁ #[] [] (Nat.sub_zero _) (Nat.zero_le _) (hst.keep Z.ap Z.ap' hk) (fun b o hb _ _ _ _ e => hk b o hb e) hS₁ rfl rfl ⟨.nil, fun j a hj => by simp at hj⟩ hB₁
  obtain ⟨f0, f1, hz0⟩ : ∃ f0 f1, IsZS s.heap z TI TO f0 f1 := by
    rcases hst.2.2.2.2.2 with ⟨_, x, _⟩ | ⟨T, f, oT, x, _⟩
    · exact ⟨_, _, x⟩
    · exact ⟨_, _, x⟩
  unfold Builtin.List.listExtendWith
  refine wpAny_bind (wpAny_typeOf (T := "zip") ⟨_, hz0, rfl⟩ ?_)
  have h1 : Builtin.List.listSameRef (.ref S) (.ref z) = false := by simp [Builtin.List.listSameRef, Z.z_]
  have h2 : (Value.type "zip" == Value.type "list") = false := by decide
  have h3 : (Value.type "zip" == Value.type "tuple") = false := by decide
  simp only [h1, h2, h3, Bool.or_false, Bool.false_eq_true, if_false]
  refine wpAny_bind (zs_iter hz0 ?_)
  refine wpAny_bind (wpAny_holding (zs_hint hz0 ?_))
  show wpAny _ A.in1 (rule "list.extend.makes-room" >>= fun _ => Builtin.List.listTouch (.ref S) >>= fun _ => again (.builtin "list.extend.loop" ⟨[.ref S, .ref z, res], []⟩)) _ _ _
  refine wpAny_bind (wpAny_rule ?_)
  refine wpAny_bind ?_
  show wpAny _ _ (updateSeq S (·.push .none) >>= fun _ => updateSeq S (·.pop)) _ _ _
  refine wpAny_bind (wpAny_updateSeq hS rfl ?_)
  have hS₂ := Heap.get?_update_self (Obj.mapSeq (·.push Value.none)) hS rfl
  refine wpAny_updateSeq (hz := by seq_fits) hS₂ rfl ?_
  have hS₃ := Heap.get?_update_self (Obj.mapSeq (·.pop)) hS₂ rfl
  refine wpAny_pure ⟨plainId_quiet PySem.F.plain_extend_loop _, key _ _ _ (fun b o hb e => ?_) hS₃ ?_⟩
  · exact (Heap.get?_update_other _ _ (Ne.symm hb)).trans ((Heap.get?_update_other _ _ (Ne.symm hb)).trans e)
  · rw [Heap.size_update, Heap.size_update]; exact hB
theorem initZ (hh : A.handled = none) (Z : Zap z TI TO i1 i2 l1 l2 S B) (hxy : xs.size = ys.size) (h0 : xs.size ≠ 0) (hn : xs.size ≤ sizeLine) (hB : B ≤ s.heap.objs.size) (hst : ZSt s.heap z TI TO i1 i2 l1 l2 S xs ys 0) (hS : s.heap.get? S = some { cls := .type "list", data := .seq #[] })
    (hR : ∀ h' tk acc c as, (∀ b o, b ≠ S → b ≠ z → b ≠ TO → b ≠ i1 → b ≠ i2 → s.heap.get? b = some o → h'.get? b = some o) → h'.get? S = some { cls := .type "list", dict := none, data := .seq acc c, slots := #[] } → as.length = xs.size → Prs xs ys B h' as →
      acc.toList = as.map Value.ref → R (.ok (.ret .none)) { s with heap := h', toks := tk }) :
    wpAny (model prog w) A.in1 (Builtin.«list.__init__» ⟨[.ref S, .ref z], []⟩)
      (fun fin s' => match fin with | .done f => R (.ok f) s' | .again c' => c'.quiet = true ∧ codeAny (model prog w) A c' R s') (fun e s' => R (.error e) s') s := by
  show wpAny _ _ (do let old ← Builtin.List.listItems (.ref S); Builtin.List.listUpdate (.ref S) (fun _ => #[]); letGo old.toList.reverse; Builtin.List.listExtendWith (.ref S) (.ref z) .none) _ _ s
  refine wpAny_bind ?_
  unfold Builtin.List.listItems
  refine wpAny_bind (wpAny_seqItems hS rfl (wpAny_pure ?_))
  show wpAny _ _ (updateSeq S (fun _ => #[]) >>= fun _ => letGo (#[] : Array Value).toList.reverse >>= fun _ => Builtin.List.listExtendWith (.ref S) (.ref z) .none) _ _ s
  refine wpAny_bind (wpAny_updateSeq hS rfl ?_)
  have hS₂ := Heap.get?_update_self (Obj.mapSeq (fun _ => (#[] : Array Value))) hS rfl
  have oth : ∀ b o, b ≠ S → s.heap.get? b = some o → (s.heap.update S (Obj.mapSeq (fun _ => (#[] : Array Value)))).get? b = some o := fun b o hb e => (Heap.get?_update_other _ _ (Ne.symm hb)).trans e
  refine wpAny_bind (wpAny_letGo ?_)
  exact extZ (s := { s with heap := s.heap.update S (Obj.mapSeq (fun _ => (#[] : Array Value))) }) hh Z hxy h0 hn (by show B ≤ (s.heap.update S _).objs.size; rw [Heap.size_update]; exact hB) (hst.keep Z.ap Z.ap' oth) .none _ hS₂ fun h' tk acc c as hk hS' hl hp ha => hR h' tk acc c as (fun b o k1 k2 k3 k4 k5 e => hk b o k1 k2 k3 k4 k5 (oth b o k1 e)) hS' hl hp ha
/-- list(z), z = zip(a, b, strict=True) -/
theorem list_zipS {Q : Value → Shared → Prop} (hh : A.handled = none) (hl1 : s.heap.IsTuple l1 xs) (hl2 : s.heap.IsTuple l2 ys) (hxy : xs.size = ys.size) (h0 : xs.size ≠ 0) (hn : xs.size ≤ sizeLine)
    (hQ : ∀ S h' tk acc c as, s.heap.get? S = none → (∀ b o, s.heap.get? b = some o → h'.get? b = some o) → h'.get? S = some { cls := .type "list", dict := none, data := .seq acc c, slots := #[] } → as.length = xs.size → Prs xs ys (S + 1) h' as → s.heap.objs.size ≤ S →
      acc.toList = as.map Value.ref → Q (.ref S) { s with heap := h', toks := tk }) :
    wpAny (model prog w) A (call (.type "zip") [.ref l1, .ref l2] kwS) (fun v s' => wpAny (model prog w) A (call (.type "list") [v]) Q E s') E s := by
  refine call_zipS0 hl1 hl2 fun tk => ?_
  have z1 : (zH1 s.heap l1).objs.size = s.heap.objs.size + 1 := Heap.size_push ..
  have z2 : (zH2 s.heap l1 l2).objs.size = s.heap.objs.size + 2 := by rw [Heap.size_push, z1]
  have z3 : (zH3 s.heap l1 l2).objs.size = s.heap.objs.size + 3 := by rw [Heap.size_push, z2]
  have z4 : (zH4 s.heap l1 l2).objs.size = s.heap.objs.size + 4 := by rw [Heap.size_push, z3]
  have z5 : (zH5 s.heap l1 l2).objs.size = s.heap.objs.size + 5 := by rw [Heap.size_push, z4]
  have g5 : (zH5 s.heap l1 l2).get? (zH4 s.heap l1 l2).objs.size = some _ := Heap.get?_push_size _ rfl
  have g4 : (zH5 s.heap l1 l2).get? (zH3 s.heap l1 l2).objs.size = some _ := Heap.get?_push_of_some _ (Heap.get?_push_size _ rfl)
  have g3 : (zH5 s.heap l1 l2).get? (zH2 s.heap l1 l2).objs.size = some _ := Heap.get?_push_of_some _ (Heap.get?_push_of_some _ (Heap.get?_push_size _ rfl))
  have g2 : (zH5 s.heap l1 l2).get? (zH1 s.heap l1).objs.size = some _ := Heap.get?_push_of_some _ (Heap.get?_push_of_some _ (Heap.get?_push_of_some _ (Heap.get?_push_size _ rfl)))
  have g1 : (zH5 s.heap l1 l2).get? s.heap.objs.size = some _ := Heap.get?_push_of_some _ (Heap.get?_push_of_some _ (Heap.get?_push_of_some _ (Heap.get?_push_of_some _ (Heap.get?_push_size _ rfl))))
  have old : ∀ b o, s.heap.get? b = some o → (zH5 s.heap l1 l2).get? b = some o := fun b o e => Heap.get?_push_of_some _ (Heap.get?_push_of_some _ (Heap.get?_push_of_some _ (Heap.get?_push_of_some _ (Heap.get?_push_of_some _ e))))
  rw [z2, z3, z4] at g5
  rw [z1, z2] at g3
  rw [z3] at g4
  rw [z1] at g2
  rw [z4]
  obtain ⟨o1, ho1, hc1⟩ := id hl1
  obtain ⟨o2, ho2, hc2⟩ := id hl2
  have k1 : l1 < s.heap.objs.size := Heap.lt_size ho1
  have k2 : l2 < s.heap.objs.size := Heap.lt_size ho2
  generalize hh5 : zH5 s.heap l1 l2 = h5 at g5 g4 g3 g2 g1 old z5 ⊢
  obtain ⟨N, hN⟩ : ∃ N : Nat, N = s.heap.objs.size := ⟨_, rfl⟩
  rw [← hN] at g5 g4 g3 g2 g1 z5 k1 k2 ⊢
  have Z : Zap (N + 4) (N + 2) (N + 3) N (N + 1) l1 l2 (N + 5) (N + 6) := by
    refine ⟨⟨?_, ?_, ?_, ?_, ?_, ?_, ?_, ?_, ?_, ?_, ?_, ?_, ?_, ?_, ?_, ?_, ?_, ?_⟩, ?_, ?_, ?_, ?_, ?_, ?_, ?_, ?_, ?_, ?_, ?_, ?_⟩ <;> first | (show ¬ @Eq Nat _ _; omega) | (show @LT.lt Nat _ _ _; omega) | exact Nat.ne_of_lt k1 | exact Nat.ne_of_lt k2 | exact Nat.ne_of_lt (Nat.lt_of_lt_of_le k1 (Nat.le_add_right N _)) | exact Nat.ne_of_lt (Nat.lt_of_lt_of_le k2 (Nat.le_add_right N _)) | exact Nat.ne_of_gt (Nat.lt_of_lt_of_le k1 (Nat.le_add_right N _)) | exact Nat.ne_of_gt (Nat.lt_of_lt_of_le k2 (Nat.le_add_right N _))
  have hst : ZSt h5 (N + 4) (N + 2) (N + 3) N (N + 1) l1 l2 (N + 5) xs ys 0 := ⟨g3, ⟨_, g1, rfl, rfl⟩, ⟨_, g2, rfl, rfl⟩, ⟨o1, old _ _ ho1, hc1⟩, ⟨o2, old _ _ ho2, hc2⟩, .inl ⟨rfl, g5, g4⟩⟩
  refine callType_codes (Q₁ := fun obj s₁ => obj = .ref (N + 5) ∧ s₁ = { s with heap := h5.push { cls := .type "list", data := .seq #[] }, toks := tk }) PySem.F.called_list (PySem.F.typeCall_list_1 _) PySem.F.entry_list_init
    (code_list_new _ ⟨by rw [show (Shared.heap { s with heap := h5, toks := tk }).objs.size = h5.objs.size from rfl, z5], rfl⟩) fun obj s₁ h₁ => ?_
  obtain ⟨rfl, rfl⟩ := h₁
  have hS : (h5.push { cls := .type "list", data := .seq #[] }).get? (N + 5) = some { cls := .type "list", data := .seq #[] } := by
    rw [← z5]; exact Heap.get?_push_size _ rfl
  refine ⟨⟨_, hS, rfl⟩, PySem.F.args_list_init_2 _ _, initZ (A := A.in1) (s := { s with heap := h5.push { cls := .type "list", data := .seq #[] }, toks := tk }) hh Z hxy h0 hn (by show N + 6 ≤ (h5.push _).objs.size; rw [Heap.size_push, z5]; omega) (hst.keep Z.ap Z.ap' fun b o _ e => Heap.get?_push_of_some _ e) hS (fun h' tk' acc c as hk hS' hl hp ha => ?_)⟩
  refine ⟨rfl, hQ (N + 5) h' tk' acc c as ?_ (fun b o e => ?_) hS' hl hp (by rw [← hN]; omega) ha⟩
  · cases q : s.heap.get? (N + 5) with
    | none => rfl
    | some o =>
      have h9 := Heap.lt_size q
      rw [← hN] at h9
      exact absurd h9 (Nat.not_lt.mpr (Nat.le_add_right N 5))
  · have hb := Heap.lt_size e
    rw [← hN] at hb
    have hb' : ∀ j, b ≠ N + j := fun j => Nat.ne_of_lt (Nat.lt_of_lt_of_le hb (Nat.le_add_right N j))
    exact hk b o (hb' 5) (hb' 4) (hb' 3) (Nat.ne_of_lt hb) (hb' 1) (Heap.get?_push_of_some _ (old b o e))
end
end Rz

/-! Rz3: the word list(zip(a, b, strict=True)). -/
namespace Rz
open PySem PySem.Spec PyProof.Rows L2
section
variable {M : Model} {A : Around} {E : Value → Shared → Prop} {s : Shared} {env : Env}
theorem callWith_typeKw {pos : Pos} {T : String} {e : Expr} {rest : List Expr} {kws : List Keyword} {Q : Value → Shared → Prop}
    (h : wpAny M A (spliced (backTo pos (starEach (e :: rest) env))) (fun vs s₁ => wpAny M A (evalAll ((backToKw pos (keywordEach kws env)).map (·.2)))
      (fun kvs s₂ => wpAny M A (call (.type T) vs (((backToKw pos (keywordEach kws env)).filterMap (·.1)).zip kvs)) Q E s₂) E s₁) E s)
    (he : backTo pos (starEach (e :: rest) env) = (false, eval e env) :: backTo pos (starEach rest env) := by rfl)
    (hplain : (backTo pos (starEach (e :: rest) env)).any (·.1) = false := by rfl)
    (hall : (backToKw pos (keywordEach kws env)).all (·.1.isSome) = true := by rfl)
    (hkw : (backToKw pos (keywordEach kws env)).any (·.1.isNone) = false := by rfl) :
    wpAny M A (callWith pos (.type T) [] (backTo pos (starEach (e :: rest) env)) (backToKw pos (keywordEach kws env))) Q E s := by
  have h1 : wpAny M A (evalArgs (.type T) true (backTo pos (starEach (e :: rest) env)) (backToKw pos (keywordEach kws env))) (fun a s₁ => wpAny M A (call (.type T) ([] ++ a.pos) a.kw) Q E s₁) E s := by
    rw [he] at h ⊢
    exact evalArgs_kwB hall h
  unfold callWith
  refine wpAny_bind (wpAny_holding (wpAny_mono h1 (fun a s₁ h₁ => wpAny_bind (wpAny_standAt ?_)) fun _ _ x => x))
  simp only [hplain, hkw, Bool.or_false]
  refine wpAny_bind (wpAny_pure ?_)
  exact wpAny_bind (wpAny_mono h₁ (fun r s₂ hr => wpAny_bind (wpAny_holding (wpAny_point (wpAny_pure hr)))) fun _ _ x => x)
end
def rLz (K : PySem.W.Frag) : List V → Hp → VK → Prop := fun vs H Q => ∃ (a b : Addr) (xs ys : List V), vs = [.ref a, .ref b] ∧ SqT K H a xs ∧ SqT K H b ys ∧ xs.length = ys.length ∧ xs ≠ [] ∧ xs.length ≤ 1000 ∧
  ∀ (S : Addr) (as : List Addr) (H2 : Hp), H S = none → as.length = xs.length → (∀ b o, upd H S (.lst (as.map V.ref)) b = some o → H2 b = some o) → (∀ (j : Nat) (a : Addr), as[j]? = some a → ∃ x y, xs[j]? = some x ∧ ys[j]? = some y ∧ H a = none ∧ a ≠ S ∧ H2 a = some (.tup [x, y])) → Q (.ref S) H2
def tLz (K : PySem.W.Frag) (t tk : TA) : TE := fun σ H Q => t σ H fun vs H1 => tk σ H1 fun zs H2 => zs = [.bl true] ∧ rLz K vs H2 Q
section
variable {X : Cx}
theorem run_lz {pins : List (Addr × Obj)} {σ : L2.St} {H : Hp} {s : Shared} {vs : List V} {us : List Value} {Q : VK} (hc : X.calm = true) (I : Inv X pins σ H s) (r : Vals vs us) (h : rLz X.K vs H Q) :
    wpAny (model X.prog X.w) X.A (call (.type "zip") us kwS) (fun v s' => wpAny (model X.prog X.w) X.A (call (.type "list") [v]) (EP X pins σ Q) X.xe s') X.xe s := by
  obtain ⟨a, b, xs, ys, rfl, h1, h2, hxy, hne, hl, q⟩ := h
  obtain ⟨u1, u2, rfl, r1, r2⟩ := r.two
  cases (show u1 = Value.ref a from r1)
  cases (show u2 = Value.ref b from r2)
  obtain ⟨is1, v1, t1, _⟩ := I.tuple h1
  obtain ⟨is2, v2, t2, _⟩ := I.tuple h2
  have l1 : is1.length = xs.length := v1.length.symm
  have l2 : is2.length = ys.length := v2.length.symm
  have hx0 : xs.length ≠ 0 := fun z => hne (List.eq_nil_of_length_eq_zero z)
  refine list_zipS (I.ok.hd hc) t1 t2 (by rw [List.size_toArray, List.size_toArray]; omega) (by rw [List.size_toArray]; omega) (by rw [List.size_toArray, sizeLine_eq]; omega) fun S h' tk acc c as hSn kp hS hal hP hSs hacc => ?_
  rw [List.size_toArray] at hal
  have eb : Vals (as.map V.ref) acc.toList := by rw [hacc]; exact vals_refs _
  have I1 : Inv X pins σ (upd H S (.lst (as.map V.ref))) { s with heap := h', toks := tk } := I.laid (t' := tk) (o := .lst (as.map V.ref)) kp hSs ⟨by rw [List.length_map, sizeLine_eq]; omega, acc.toList, c, eb, by rw [Array.toArray_toList]; exact hS⟩
  have nd : as.Nodup := hP.1.imp fun h => Nat.ne_of_lt h
  have look : ∀ {zs : List V} {its : List Value}, Vals zs its → ∀ (j : Nat) (u : Value), its.toArray[j]? = some u → ∃ z, zs[j]? = some z ∧ RelV z u := by
    intro zs its rv j u hu
    rw [List.getElem?_toArray] at hu
    have hj : j < zs.length := by rw [rv.length]; exact (List.getElem?_eq_some_iff.mp hu).1
    obtain ⟨u', hu', r⟩ := rv.get (List.getElem?_eq_getElem hj)
    rw [hu] at hu'
    cases hu'
    exact ⟨zs[j], List.getElem?_eq_getElem hj, r⟩
  obtain ⟨H2, I2, g, qq⟩ := L2.DX.takeT (P := fun a vs => ∃ (j : Nat) (x y : V), as[j]? = some a ∧ xs[j]? = some x ∧ ys[j]? = some y ∧ vs = [x, y]) I as _ I1 nd fun a ha => by
    obtain ⟨j, hj⟩ := List.mem_iff_getElem?.mp ha
    obtain ⟨g1, x, y, g2, g3, g4⟩ := hP.2 j a hj
    obtain ⟨zx, hzx, rx⟩ := look v1 j x g2
    obtain ⟨zy, hzy, ry⟩ := look v2 j y g3
    have hge : s.heap.objs.size ≤ a := Nat.le_trans hSs (Nat.le_trans (Nat.le_succ S) g1)
    refine ⟨hge, by rw [upd_ne (Nat.ne_of_gt g1)]; exact I.hok.fresh hge, [zx, zy], ⟨j, zx, zy, hj, hzx, hzy, rfl⟩, fun H2 => ⟨by simp [sizeLine_eq], [x, y], .cons rx (.cons ry .nil), ⟨_, g4, rfl, 0, rfl⟩⟩⟩
  refine ⟨.ref S, H2, I2, rfl, q S as H2 (I.hok.fresh hSs) (by omega) g fun j a hj => ?_⟩
  obtain ⟨vs, ⟨j', x, y, e1, e2, e3, e4⟩, hH⟩ := qq a (List.mem_of_getElem? hj)
  subst e4
  have hjj : j = j' := by
    obtain ⟨k1, k2⟩ := List.getElem?_eq_some_iff.mp hj
    obtain ⟨k3, k4⟩ := List.getElem?_eq_some_iff.mp e1
    exact (List.getElem?_inj k1 nd).mp (hj.trans e1.symm)
  subst hjj
  obtain ⟨g1, _⟩ := hP.2 j a hj
  exact ⟨x, y, e2, e3, I.hok.fresh (Nat.le_trans hSs (Nat.le_trans (Nat.le_succ S) g1)), Nat.ne_of_gt g1, hH⟩
variable {e : Expr} {es : List Expr} {kws : List Keyword} {t tk : TA} {p p2 pos pos2 : Pos}
theorem pe_lz (hc : X.calm = true) (hgl : Gl X "list") (hml : X.mg "list" = none) (hgz : Gl X "zip") (hmz : X.mg "zip" = none) (ha : PA X (e :: es) t) (hk : PK X kws tk)
    (hs : starEach [.Call (.Name "zip" p2) (e :: es) kws pos2] X.env = [(false, eval (.Call (.Name "zip" p2) (e :: es) kws pos2) X.env)] := by rfl)
    (he : backTo pos2 (starEach (e :: es) X.env) = (false, eval e X.env) :: backTo pos2 (starEach es X.env) := by rfl) (hpl : (backTo pos2 (starEach (e :: es) X.env)).any (·.1) = false := by rfl)
    (hall : (backToKw pos2 (keywordEach kws X.env)).all (·.1.isSome) = true := by rfl) (hnone : (backToKw pos2 (keywordEach kws X.env)).any (·.1.isNone) = false := by rfl) (hks : (backToKw pos2 (keywordEach kws X.env)).filterMap (·.1) = [Str.ofString "strict"] := by rfl) :
    PE X (.Call (.Name "list" p) [.Call (.Name "zip" p2) (e :: es) kws pos2] [] pos) (tLz X.K t tk) := by
  refine ⟨fun pins s σ H Q I h => ?_⟩
  refine wpAny_Call_Name_kw (ld_blt I hgl hml PyProof.Rows.boot_list ?_ (by decide) (by decide))
  refine PyProof.Rows.callWith_type1 ?_ hs rfl
  rw [hs]
  show wpAny _ _ (spliced ((false, eval (.Call (.Name "zip" p2) (e :: es) kws pos2) X.env) :: backTo pos (starEach [] X.env))) _ _ s
  refine Calls.spliced_cons ?_
  refine wpAny_Call_Name_kw (ld_blt I hgz hmz PyProof.Rows.boot_zip ?_ (by decide) (by decide))
  refine callWith_typeKw (thn (ha.run pos2 pins s σ H _ I h) fun us s1 ⟨vs, H1, I1, r1, q1⟩ => thn (hk.run pos2 pins s1 σ H1 _ I1 q1) fun ws s2 ⟨zs, H2, I2, r2, ez, q2⟩ => ?_) he hpl hall hnone
  subst ez
  rw [hks]
  obtain ⟨w1, rfl, rw1⟩ := vals1 r2
  cases (show w1 = Value.bool true from rw1)
  refine thn (run_lz hc I2 r1 q2) fun v s3 hv => ?_
  exact Calls.spliced_nil hv
end
end Rz
namespace Rs
open PySem PySem.Spec PyProof.Rows L2 SlX StX
section
variable {X : Cx} {e : Expr} {es : List Expr} {kws : List Keyword} {t tk : TA} {p p2 pos pos2 : Pos}
theorem p_lz (hc : X.calm = true) (B : Bf X.mg) (ha : PA X (e :: es) t) (hk : PK X kws tk) (hgl : Gl X "list" := by rfl) (hgz : Gl X "zip" := by rfl)
    (hs : starEach [.Call (.Name "zip" p2) (e :: es) kws pos2] X.env = [(false, eval (.Call (.Name "zip" p2) (e :: es) kws pos2) X.env)] := by rfl)
    (he : backTo pos2 (starEach (e :: es) X.env) = (false, eval e X.env) :: backTo pos2 (starEach es X.env) := by rfl) (hpl : (backTo pos2 (starEach (e :: es) X.env)).any (·.1) = false := by rfl)
    (hall : (backToKw pos2 (keywordEach kws X.env)).all (·.1.isSome) = true := by rfl) (hnone : (backToKw pos2 (keywordEach kws X.env)).any (·.1.isNone) = false := by rfl) (hks : (backToKw pos2 (keywordEach kws X.env)).filterMap (·.1) = [Str.ofString "strict"] := by rfl) :
    PE X (.Call (.Name "list" p) [.Call (.Name "zip" p2) (e :: es) kws pos2] [] pos) (Rz.tLz X.K t tk) := Rz.pe_lz hc hgl B.list hgz B.zip ha hk hs he hpl hall hnone hks
end
section
variable {K : PySem.W.Frag} {σ : L2.St} {F : Hp} {L : Cells} {t tk : TA}
/-- what is told of new things -/
def grow (F : Hp) (S : Addr) (as : List Addr) (H2 : Hp) : Hp := fun b => if b = S then H2 b else if b ∈ as then H2 b else F b
theorem r_lz {ι κ : Type} {f : ι → VP} {g : κ → VP} {xs : List ι} {ys : List κ} [∀ x, Mono (f x)] [∀ x, Mono (g x)] (h : Run (t σ) F L (Each [Tp K (xs.map f), Tp K (ys.map g)])) (hl : xs.length = ys.length) (h0 : xs ≠ []) (hn : xs.length ≤ 1000) :
    Run (Rz.tLz K t (tCons (tC (.bl true)) tNil) σ) F L (Ln ((xs.zip ys).map fun p => Tp K [f p.1, g p.2])) := fun F1 N H e A Q q =>
  h F1 N H e A _ fun vs F2 H2 e2 A2 hv => by
    obtain ⟨v, u, rfl, ⟨a, va, rfl, sa, ra⟩, ⟨b, vb, rfl, sb, rb⟩⟩ := each2 hv
    have la := each_length ra
    have lb := each_length rb
    rw [List.length_map] at la lb
    refine ⟨rfl, a, b, va, vb, rfl, sqT_up A2.ex sa, sqT_up A2.ex sb, by omega, fun z => h0 (List.eq_nil_of_length_eq_zero (by rw [← la, z]; rfl)), by omega, fun S as H3 hS hal kp hp => ?_⟩
    have hS3 : H3 S = some (.lst (as.map V.ref)) := kp _ _ upd_same
    have hat : ∀ c ∈ as, H2 c = none ∧ c ≠ S ∧ ∃ o, H3 c = some o := fun c hc => by
      obtain ⟨j, hj⟩ := List.mem_iff_getElem?.mp hc
      obtain ⟨x, y, _, _, h1, h2, h3⟩ := hp j c hj
      exact ⟨h1, h2, _, h3⟩
    have same : Same F2 (grow F2 S as H3) := fun c o ec => by
      unfold grow
      have hc := A2.ex c o ec
      rw [if_neg (fun z => by rw [z, hS] at hc; cases hc), if_neg (fun z => by rw [(hat c z).1] at hc; cases hc)]
      exact ec
    have k23 : ∀ c o, H2 c = some o → H3 c = some o := fun c o ec => kp c o (by rw [upd_ne (fun z => by rw [z, hS] at ec; cases ec)]; exact ec)
    have A3 : At (grow F2 S as H3) (L ++ N) H3 := by
      refine ⟨fun c o ec => ?_, fun p hm => k23 _ _ (A2.on p hm), fun p hm => ?_, A2.nd, A2.nt⟩
      · unfold grow at ec
        split at ec
        · exact ec
        · split at ec
          · exact ec
          · exact k23 _ _ (A2.ex _ _ ec)
      · have h1 := A2.on p hm
        unfold grow
        rw [if_neg (fun z => by rw [z, hS] at h1; cases h1), if_neg (fun z => by rw [(hat _ z).1] at h1; cases h1)]
        exact A2.off p hm
    refine q _ _ H3 (e2.trans same) A3 ⟨S, as.map V.ref, rfl, by unfold grow; rw [if_pos rfl]; exact hS3, ?_⟩
    -- each pair
    have step : ∀ (n : Nat) (bs : List Addr), (∀ (j : Nat) (c : Addr), bs[j]? = some c → as[n + j]? = some c) → bs.length + n = xs.length → Each (((xs.zip ys).drop n).map fun p => Tp K [f p.1, g p.2]) (bs.map V.ref) (grow F2 S as H3) := by
      intro n bs
      induction bs generalizing n with
      | nil =>
        intro _ hlen
        rw [List.drop_eq_nil_of_le (by rw [List.length_zip]; simp at hlen; omega)]
        exact True.intro
      | cons c bs ih =>
        intro hb hlen
        simp only [List.length_cons] at hlen
        have hx : n < xs.length := by omega
        have hy : n < ys.length := by omega
        have hz : n < (xs.zip ys).length := by rw [List.length_zip]; omega
        rw [List.drop_eq_getElem_cons hz, List.map_cons]
        have hc : as[n]? = some c := by
          have := hb 0 c rfl
          rwa [Nat.add_zero] at this
        obtain ⟨x, y, h1, h2, h3, h4, h5⟩ := hp n c hc
        refine ⟨⟨c, [x, y], rfl, .inl (.inl (by unfold grow; rw [if_neg h4, if_pos (List.mem_of_getElem? hc)]; exact h5)), ?_⟩, ih (n + 1) (fun j d hj => by have := hb (j + 1) d (by rw [List.getElem?_cons_succ]; exact hj); rwa [show n + 1 + j = n + (j + 1) from by omega]) (by omega)⟩
        obtain ⟨p, hp1, hp2⟩ := each_get ra h1
        obtain ⟨p', hp1', hp2'⟩ := each_get rb h2
        rw [List.getElem_zip]
        rw [List.getElem?_eq_getElem hx] at hp1
        rw [List.getElem?_eq_getElem hy] at hp1'
        cases hp1
        cases hp1'
        exact ⟨Mono.go hp2 same, Mono.go hp2' same, True.intro⟩
    exact step 0 as (fun j c hj => by rwa [Nat.zero_add]) (by omega)
end
end Rs

/-! Md: rounds and roots. -/
namespace Ma
open PySem Rs L2
def wholeR (webs : List Rows) (n : Nat) : Rows := webs.foldl thenR (silentR n)
theorem whole_snoc {webs : List Rows} {r : Rows} {n : Nat} : wholeR (webs ++ [r]) n = thenR (wholeR webs n) r := List.foldl_append ..
theorem whole_len {n : Nat} {webs : List Rows} : (wholeR webs n).length = n := by
  unfold wholeR
  have h : ∀ (l : List Rows) (z : Rows), (l.foldl thenR z).length = z.length := by
    intro l
    induction l with
    | nil => intro z; rfl
    | cons a l ih => intro z; rw [List.foldl_cons, ih, then_len]
  rw [h, silent_len]
theorem fold_ok : ∀ (l : List Rows) (z : Rows), Ok z → Ok (l.foldl thenR z)
  | [], _, h => h
  | _ :: l, _, h => by rw [List.foldl_cons]; exact fold_ok l _ (then_ok h)
theorem whole_ok {webs : List Rows} {n : Nat} (h1 : 1 ≤ n) (h2 : n ≤ 5) : Ok (wholeR webs n) := fold_ok _ _ (silent_ok h1 h2)
/-- who hears x, behind a round and then another -/
theorem hb_then {a b : Rows} (oa : Ok a) (ob : Ok b) (hl : b.length = a.length) {h x : Nat} (hh : h < a.length) : x ∈ hbL (thenR a b) h ↔ ∃ m ∈ hbL b h, x ∈ hbL a m := by
  rw [mem_hb (then_ok oa) (by rw [then_len]; exact hh), then_row hh, mem_thenRow]
  constructor
  · rintro (⟨h1, _⟩ | rfl)
    · exact h1
    · exact ⟨x, (mem_hb ob (by omega)).mpr (.inr rfl), (mem_hb oa hh).mpr (.inr rfl)⟩
  · intro h1
    by_cases hx : x = h
    · exact .inr hx
    · exact .inl ⟨h1, hx⟩
theorem hb_silent {n h x : Nat} (h1 : 1 ≤ n) (h2 : n ≤ 5) (hh : h < n) : x ∈ hbL (silentR n) h ↔ x = h := by
  rw [mem_hb (silent_ok h1 h2) (by rw [silent_len]; exact hh)]
  constructor
  · rintro (z | z)
    · exfalso
      unfold silentR row at z
      rw [List.getD_eq_getElem?_getD, List.getElem?_replicate] at z
      split at z <;> cases z
    · exact z
  · exact .inr
theorem rows_ext {a b : Rows} (oa : Ok a) (ob : Ok b) (hl : a.length = b.length) (h : ∀ i, i < a.length → ∀ x, x ∈ hbL a i ↔ x ∈ hbL b i) : a = b := by
  apply List.ext_getElem?
  intro i
  by_cases hi : i < a.length
  · rw [get_row hi, get_row (by omega)]
    congr 1
    refine asc_one (oa.row_asc i) (ob.row_asc i) fun x => ?_
    have h1 := h i hi x
    rw [mem_hb oa hi, mem_hb ob (by omega)] at h1
    constructor
    · intro z
      rcases h1.mp (.inl z) with q | q
      · exact q
      · exact absurd (q ▸ z) oa.row_ne
    · intro z
      rcases h1.mpr (.inl z) with q | q
      · exact q
      · exact absurd (q ▸ z) ob.row_ne
  · rw [List.getElem?_eq_none (by omega), List.getElem?_eq_none (by omega)]
theorem hb_in {a : Rows} {h x : Nat} (hx : x ∈ hbL a h) : x < a.length := hb_lt hx
theorem then_assoc {a b c : Rows} (oa : Ok a) (ob : Ok b) (oc : Ok c) (h1 : b.length = a.length) (h2 : c.length = a.length) : thenR (thenR a b) c = thenR a (thenR b c) := by
  refine rows_ext (then_ok (then_ok oa)) (then_ok oa) (by rw [then_len, then_len, then_len]) fun i hi x => ?_
  rw [then_len, then_len] at hi
  rw [hb_then (then_ok oa) oc (by rw [then_len]; exact h2) (by rw [then_len]; exact hi), hb_then oa (then_ok ob) (by rw [then_len]; exact h1) hi]
  constructor
  · rintro ⟨m, hm, hx⟩
    have hml : m < a.length := by have := hb_in hm; omega
    obtain ⟨k, hk, hx⟩ := (hb_then oa ob h1 hml).mp hx
    exact ⟨k, (hb_then ob oc (by omega) (by omega)).mpr ⟨m, hm, hk⟩, hx⟩
  · rintro ⟨k, hk, hx⟩
    obtain ⟨m, hm, hk⟩ := (hb_then ob oc (by omega) (by omega)).mp hk
    have hml : m < a.length := by have := hb_in hm; omega
    exact ⟨m, hm, (hb_then oa ob h1 hml).mpr ⟨k, hk, hx⟩⟩
theorem then_silent {a : Rows} (oa : Ok a) : thenR a (silentR a.length) = a := by
  refine rows_ext (then_ok oa) oa then_len fun i hi x => ?_
  rw [then_len] at hi
  rw [hb_then oa (silent_ok oa.pos oa.le) silent_len hi]
  constructor
  · rintro ⟨m, hm, hx⟩
    rw [hb_silent oa.pos oa.le hi] at hm
    exact hm ▸ hx
  · intro hx
    exact ⟨i, (hb_silent oa.pos oa.le hi).mpr rfl, hx⟩
theorem fold_len : ∀ (l : List Rows) (z : Rows), (l.foldl thenR z).length = z.length
  | [], _ => rfl
  | _ :: l, z => by rw [List.foldl_cons, fold_len l, then_len]
theorem fold_then {n : Nat} : ∀ (l : List Rows) (a z : Rows), Ok a → Ok z → a.length = n → z.length = n → (∀ r ∈ l, Ok r ∧ r.length = n) → l.foldl thenR (thenR a z) = thenR a (l.foldl thenR z)
  | [], _, _, _, _, _, _, _ => rfl
  | r :: l, a, z, oa, oz, ha, hz, hl => by
    obtain ⟨or_, hr⟩ := hl r List.mem_cons_self
    rw [List.foldl_cons, List.foldl_cons, then_assoc oa oz or_ (by omega) (by omega)]
    exact fold_then l a (thenR z r) oa (then_ok oz) ha (by rw [then_len]; exact hz) fun q hq => hl q (List.mem_cons_of_mem _ hq)
/-- rounds are put together in any way -/
theorem whole_app {l1 l2 : List Rows} {n : Nat} (h1 : 1 ≤ n) (h2 : n ≤ 5) (hl : ∀ r ∈ l2, Ok r ∧ r.length = n) : thenR (wholeR l1 n) (wholeR l2 n) = wholeR (l1 ++ l2) n := by
  have ok := whole_ok (webs := l1) h1 h2
  have h := fold_then l2 (wholeR l1 n) (silentR n) ok (silent_ok h1 h2) whole_len silent_len hl
  have e : thenR (wholeR l1 n) (silentR n) = wholeR l1 n := by
    have := then_silent ok
    rwa [whole_len] at this
  rw [e] at h
  unfold wholeR at h ⊢
  rw [List.foldl_append]
  exact h.symm
/-! ### who has heard -/
theorem hb_self {a : Rows} (oa : Ok a) {h : Nat} (hh : h < a.length) : h ∈ hbL a h := (mem_hb oa hh).mpr (.inr rfl)
theorem hb_reach {rs : Rows} (o : Ok rs) {x y : Nat} (hy : y < rs.length) (h : x ∈ hbL rs y) : Reach rs x y := by
  rcases (mem_hb o hy).mp h with h | h
  · exact .step .refl hy h
  · rw [h]; exact .refl
theorem Reach.trans {rs : Rows} {x y z : Nat} (h1 : Reach rs x y) (h2 : Reach rs y z) : Reach rs x z := by
  induction h2 with
  | refl => exact h1
  | step _ a b ih => exact .step ih a b
open Classical in
/-- who is reached from x and has heard of it behind the webs l -/
noncomputable def got (rs : Rows) (l : List Rows) (x : Nat) : List Nat := (List.range rs.length).filter fun o => decide (Reach rs x o ∧ x ∈ hbL (wholeR l rs.length) o)
open Classical in
theorem mem_got {rs : Rows} {l : List Rows} {x o : Nat} : o ∈ got rs l x ↔ o < rs.length ∧ Reach rs x o ∧ x ∈ hbL (wholeR l rs.length) o := by
  unfold got
  rw [List.mem_filter, List.mem_range, decide_eq_true_eq]
theorem got_asc {rs : Rows} {l : List Rows} {x : Nat} : Asc (got rs l x) := (asc_range _).filter _
theorem len_le {a b : List Nat} (ha : a.Nodup) (h : ∀ x ∈ a, x ∈ b) : a.length ≤ b.length := by
  induction a generalizing b with
  | nil => exact Nat.zero_le _
  | cons x a ih =>
    have hx := h x List.mem_cons_self
    rw [List.nodup_cons] at ha
    have h1 : ∀ y ∈ a, y ∈ b.erase x := fun y hy => (List.mem_erase_of_ne (fun z : y = x => ha.1 (by rw [← z]; exact hy))).mpr (h y (List.mem_cons_of_mem _ hy))
    have h2 := ih ha.2 h1
    have h3 := List.length_erase_of_mem hx
    have h4 : 0 < b.length := List.length_pos_of_mem hx
    rw [List.length_cons]
    omega
theorem len_lt' {a b : List Nat} (ha : a.Nodup) (h : ∀ x ∈ a, x ∈ b) {y : Nat} (hy : y ∈ b) (hn : y ∉ a) : a.length < b.length := by
  have := len_le (a := y :: a) (b := b) (List.nodup_cons.mpr ⟨hn, ha⟩) fun z hz => by
    rcases List.mem_cons.mp hz with rfl | hz
    · exact hy
    · exact h z hz
  rw [List.length_cons] at this
  exact this
theorem got_mono {rs : Rows} (o : Ok rs) {l : List Rows} {r : Rows} (or_ : Ok r) (hr : r.length = rs.length) {x y : Nat} (h : y ∈ got rs l x) : y ∈ got rs (l ++ [r]) x := by
  obtain ⟨h1, h2, h3⟩ := mem_got.mp h
  refine mem_got.mpr ⟨h1, h2, ?_⟩
  rw [whole_snoc, hb_then (whole_ok o.pos o.le) or_ (by rw [whole_len]; exact hr) (by rw [whole_len]; exact h1)]
  exact ⟨y, hb_self or_ (by omega), h3⟩
theorem got_self {rs : Rows} (o : Ok rs) {l : List Rows} {x : Nat} (hx : x < rs.length) : x ∈ got rs l x :=
  mem_got.mpr ⟨hx, .refl, hb_self (whole_ok o.pos o.le) (by rw [whole_len]; exact hx)⟩
/-- while some of the reached have not heard, a round of rs brings one more -/
theorem got_more {rs : Rows} (o : Ok rs) {l : List Rows} {x y : Nat} (hx : x < rs.length) (hy : Reach rs x y) (hn : y ∉ got rs l x) : ∃ z ∈ got rs (l ++ [rs]) x, z ∉ got rs l x := by
  induction hy with
  | refl => exact absurd (got_self o hx) hn
  | @step u v h1 h2 h3 ih =>
    by_cases hu : u ∈ got rs l x
    · refine ⟨v, mem_got.mpr ⟨h2, .step h1 h2 h3, ?_⟩, hn⟩
      obtain ⟨_, _, h4⟩ := mem_got.mp hu
      rw [whole_snoc, hb_then (whole_ok o.pos o.le) o whole_len.symm (by rw [whole_len]; exact h2)]
      exact ⟨u, (mem_hb o h2).mpr (.inl h3), h4⟩
    · exact ih hu
theorem got_count {rs : Rows} (o : Ok rs) {x y : Nat} (hx : x < rs.length) (hy : Reach rs x y) (hyl : y < rs.length) : ∀ (l : List Rows), (∀ r ∈ l, Ok r ∧ r.length = rs.length) → y ∉ got rs l x → l.count rs + 1 ≤ (got rs l x).length := by
  intro l
  induction h : l.length generalizing l with
  | zero =>
    intro _ _
    have : l = [] := List.eq_nil_of_length_eq_zero h
    subst this
    rw [List.count_nil]
    exact List.length_pos_of_mem (got_self o hx)
  | succ k ih =>
    intro hl hn
    rcases List.eq_nil_or_concat l with z | ⟨l', r, z⟩
    · rw [z] at h; cases h
    · rw [List.concat_eq_append] at z
      subst z
      obtain ⟨or_, hr⟩ := hl r (by simp)
      have hn' : y ∉ got rs l' x := fun q => hn (got_mono o or_ hr q)
      have hk := ih l' (by rw [List.length_append, List.length_singleton] at h; omega) (fun q hq => hl q (List.mem_append_left _ hq)) hn'
      have sub : ∀ z ∈ got rs l' x, z ∈ got rs (l' ++ [r]) x := fun z hz => got_mono o or_ hr hz
      rw [List.count_append, List.count_singleton]
      by_cases hrs : r = rs
      · subst hrs
        obtain ⟨z, hz1, hz2⟩ := got_more o hx hy hn'
        have := len_lt' (asc_nodup got_asc) sub hz1 hz2
        simp
        omega
      · have := len_le (asc_nodup got_asc) sub
        simp [hrs]
        omega
/-- behind n - 1 rounds of rs, with any others between, all that are reached have heard -/
theorem reach_heard {rs : Rows} (o : Ok rs) {x y : Nat} (hx : x < rs.length) (hy : Reach rs x y) (hyl : y < rs.length) {l : List Rows} (hl : ∀ r ∈ l, Ok r ∧ r.length = rs.length) (hc : rs.length - 1 ≤ l.count rs) : x ∈ hbL (wholeR l rs.length) y := by
  by_cases h : y ∈ got rs l x
  · exact (mem_got.mp h).2.2
  · exfalso
    have h1 := got_count o hx hy hyl l hl h
    have h2 := len_lt' (a := got rs l x) (b := List.range rs.length) (asc_nodup got_asc) (fun z hz => List.mem_range.mpr (mem_got.mp hz).1) (List.mem_range.mpr hyl) h
    rw [List.length_range] at h2
    omega
/-- behind rounds of rs alone nobody else has -/
theorem heard_reach {rs : Rows} (o : Ok rs) {x : Nat} : ∀ (k : Nat) {y : Nat}, y < rs.length → x ∈ hbL (wholeR (List.replicate k rs) rs.length) y → Reach rs x y
  | 0, y, hy, h => by
    have := (hb_silent o.pos o.le hy).mp h
    rw [this]; exact .refl
  | k + 1, y, hy, h => by
    rw [List.replicate_succ', whole_snoc, hb_then (whole_ok o.pos o.le) o whole_len.symm (by rw [whole_len]; exact hy)] at h
    obtain ⟨m, hm, hx⟩ := h
    have hml := hb_lt hm
    exact (heard_reach o k hml hx).trans (hb_reach o hy hm)
theorem pow_iff {rs : Rows} (o : Ok rs) {k x y : Nat} (hk : rs.length - 1 ≤ k) (hy : y < rs.length) : x ∈ hbL (wholeR (List.replicate k rs) rs.length) y ↔ x < rs.length ∧ Reach rs x y := by
  constructor
  · intro h
    have := hb_lt h
    rw [whole_len] at this
    exact ⟨this, heard_reach o k hy h⟩
  · rintro ⟨hx, h⟩
    exact reach_heard o hx h hy (fun r hr => by rw [(List.mem_replicate.mp hr).2]; exact ⟨o, rfl⟩) (by rw [List.count_replicate_self]; exact hk)
/-! ### roots -/
theorem mem_roots {rs : Rows} {h : Nat} : h ∈ rootsN rs ↔ h < rs.length ∧ ∀ y, y < rs.length → Reach rs h y := by
  unfold rootsN
  rw [List.mem_filter, List.mem_range, decide_eq_true_eq]
  refine and_congr_right fun hh => ?_
  constructor
  · intro h1 y hy
    by_cases hm : y ∈ reachL rs h
    · exact (mem_reachL.mp hm).2
    · exfalso
      have := len_lt' (a := reachL rs h) (b := List.range rs.length) (asc_nodup asc_reachL) (fun z hz => List.mem_range.mpr (mem_reachL.mp hz).1) (List.mem_range.mpr hy) hm
      rw [List.length_range] at this
      omega
  · intro h1
    have h2 := len_le (a := List.range rs.length) (b := reachL rs h) List.nodup_range fun y hy => mem_reachL.mpr ⟨List.mem_range.mp hy, h1 y (List.mem_range.mp hy)⟩
    rw [List.length_range] at h2
    have := len_reachL (rs := rs) (h := h)
    omega
theorem asc_roots {rs : Rows} : Asc (rootsN rs) := (asc_range _).filter _
theorem asc_part {rs : Rows} {h : Nat} (hh : h < rs.length) : Asc (partOf (reachs rs) h) := by
  unfold partOf
  rw [reachs_row hh]
  exact asc_reachL.filter _
theorem mem_part {rs : Rows} {h y : Nat} (hh : h < rs.length) : y ∈ partOf (reachs rs) h ↔ y < rs.length ∧ Reach rs h y ∧ Reach rs y h := by
  unfold partOf
  rw [List.mem_filter, reachs_row hh, mem_reachL, decide_eq_true_eq]
  constructor
  · rintro ⟨⟨h1, h2⟩, h3⟩
    rw [reachs_row h1, mem_reachL] at h3
    exact ⟨h1, h2, h3.2⟩
  · rintro ⟨h1, h2, h3⟩
    exact ⟨⟨h1, h2⟩, by rw [reachs_row h1, mem_reachL]; exact ⟨hh, h3⟩⟩
/-- the roots are one of the parts, or none -/
theorem roots_part {rs : Rows} (hne : rootsN rs ≠ []) : rootsN rs ∈ keysOf (reachs rs) (reachs rs).length := by
  obtain ⟨h, hm⟩ := List.exists_mem_of_ne_nil _ hne
  obtain ⟨hh, hall⟩ := mem_roots.mp hm
  refine mem_keys.mpr ⟨h, by rw [reachs_len]; exact hh, asc_one asc_roots (asc_part hh) fun y => ?_⟩
  rw [mem_roots, mem_part hh]
  constructor
  · rintro ⟨h1, h2⟩
    exact ⟨h1, hall y h1, h2 h hh⟩
  · rintro ⟨h1, h2, h3⟩
    exact ⟨h1, fun z hz => h3.trans (hall z hz)⟩
theorem roots_parts {rs : Rows} (hne : rootsN rs ≠ []) : cI (rootsN rs) ∈ partsI (reachs rs) := parts_perm.mem_iff.mpr (List.mem_map.mpr ⟨_, roots_part hne, rfl⟩)
def heraldsL (rs : Rows) : List Nat := (List.range rs.length).filter fun h => decide (((List.range rs.length).filter fun o => !decide (h ∈ hbL rs o)) = [])
theorem mem_heralds {rs : Rows} {h : Nat} : h ∈ heraldsL rs ↔ h < rs.length ∧ ∀ o, o < rs.length → h ∈ hbL rs o := by
  unfold heraldsL
  rw [List.mem_filter, List.mem_range, decide_eq_true_eq, List.filter_eq_nil_iff]
  refine and_congr_right fun hh => ?_
  constructor
  · intro h1 o ho
    have := h1 o (List.mem_range.mpr ho)
    simpa using this
  · intro h1 o ho
    simpa using h1 o (List.mem_range.mp ho)
/-- a house is heard by all behind n - 1 rounds exactly if it is a root -/
theorem heralds_pow {rs : Rows} (o : Ok rs) {k : Nat} (hk : rs.length - 1 ≤ k) : heraldsL (wholeR (List.replicate k rs) rs.length) = rootsN rs := by
  refine asc_one ((asc_range _).filter _) asc_roots fun h => ?_
  rw [mem_heralds, mem_roots, whole_len]
  refine and_congr_right fun hh => ?_
  constructor
  · intro h1 y hy
    exact ((pow_iff o hk hy).mp (h1 y hy)).2
  · intro h1 y hy
    exact (pow_iff o hk hy).mpr ⟨hh, h1 y hy⟩
theorem roots_heralds {rs : Rows} (o : Ok rs) {l : List Rows} (hl : ∀ r ∈ l, Ok r ∧ r.length = rs.length) (hc : rs.length - 1 ≤ l.count rs) {h : Nat} (hm : h ∈ rootsN rs) : h ∈ heraldsL (wholeR l rs.length) := by
  obtain ⟨hh, hall⟩ := mem_roots.mp hm
  rw [mem_heralds, whole_len]
  exact ⟨hh, fun y hy => reach_heard o hh (hall y hy) hy hl hc⟩
/-- roots hear nobody but roots -/
theorem roots_hear {rs : Rows} (o : Ok rs) {h x : Nat} (hm : h ∈ rootsN rs) (hx : x ∈ row rs h) : x ∈ rootsN rs := by
  obtain ⟨hh, hall⟩ := mem_roots.mp hm
  exact mem_roots.mpr ⟨o.row_lt hx, fun y hy => (Reach.step .refl hh hx).trans (hall y hy)⟩
theorem within_left {a b : Rows} (oa : Ok a) (ob : Ok b) (hl : b.length = a.length) (i x : Nat) (hx : x ∈ row a i) : x ∈ row (thenR a b) i := by
  by_cases hi : i < a.length
  · rw [then_row hi, mem_thenRow]
    exact ⟨⟨i, hb_self ob (by omega), (mem_hb oa hi).mpr (.inl hx)⟩, fun z => oa.row_ne (z ▸ hx)⟩
  · rw [row, List.getD_eq_getElem?_getD, List.getElem?_eq_none (by omega)] at hx
    cases hx
theorem within_right {a b : Rows} (oa : Ok a) (ob : Ok b) (hl : b.length = a.length) (i x : Nat) (hx : x ∈ row b i) : x ∈ row (thenR a b) i := by
  by_cases hi : i < a.length
  · rw [then_row hi, mem_thenRow]
    exact ⟨⟨x, (mem_hb ob (by omega)).mpr (.inl hx), hb_self oa (by have := ob.row_lt hx; omega)⟩, fun z => ob.row_ne (z ▸ hx)⟩
  · rw [row, List.getD_eq_getElem?_getD, List.getElem?_eq_none (by omega)] at hx
    cases hx
/-! ### the closure -/
theorem again_then {rs : Rows} (o : Ok rs) : thenR (wholeR (List.replicate rs.length rs) rs.length) rs = wholeR (List.replicate rs.length rs) rs.length := by
  rw [← whole_snoc, ← List.replicate_succ']
  refine rows_ext (whole_ok o.pos o.le) (whole_ok o.pos o.le) (by rw [whole_len, whole_len]) fun i hi x => ?_
  rw [whole_len] at hi
  rw [pow_iff o (by omega) hi, pow_iff o (by omega) hi]
theorem again_reach {rs : Rows} (o : Ok rs) {x y : Nat} (hx : x < rs.length) (hy : y < rs.length) : Reach (wholeR (List.replicate rs.length rs) rs.length) x y ↔ Reach rs x y := by
  have oa : Ok (wholeR (List.replicate rs.length rs) rs.length) := whole_ok o.pos o.le
  constructor
  · intro h
    induction h with
    | refl => exact .refl
    | step h1 h2 h3 ih =>
      rw [whole_len] at h2
      have h4 := oa.row_lt h3
      rw [whole_len] at h4
      have := (pow_iff o (k := rs.length) (by omega) h2).mp ((mem_hb oa (by rw [whole_len]; exact h2)).mpr (.inl h3))
      exact (ih h4).trans this.2
  · intro h
    have := (pow_iff o (k := rs.length) (by omega) hy).mpr ⟨hx, h⟩
    exact hb_reach oa (by rw [whole_len]; exact hy) this
theorem again_reachs {rs : Rows} (o : Ok rs) : reachs (wholeR (List.replicate rs.length rs) rs.length) = reachs rs := by
  unfold reachs
  rw [whole_len]
  apply List.map_congr_left
  intro h hh
  rw [List.mem_range] at hh
  refine asc_one asc_reachL asc_reachL fun y => ?_
  rw [mem_reachL, mem_reachL, whole_len]
  exact and_congr_right fun hy => again_reach o hh hy
theorem again_roots {rs : Rows} (o : Ok rs) : rootsN (wholeR (List.replicate rs.length rs) rs.length) = rootsN rs := by
  refine asc_one asc_roots asc_roots fun h => ?_
  rw [mem_roots, mem_roots, whole_len]
  refine and_congr_right fun hh => ?_
  constructor
  · intro h1 y hy; exact (again_reach o hh hy).mp (h1 y hy)
  · intro h1 y hy; exact (again_reach o hh hy).mpr (h1 y hy)
end Ma

/-! RsC: a list of ints that is written by callees, told as a thing that stays. -/
namespace Rs
open PySem PySem.Spec PyProof.Rows L2 SlX StX Ma
/-- a list of n whole numbers, whichever -/
def ckO (n : Nat) (a : Addr) : HO := .ext fun h => ∃ (xs : List Int) (its : List Value) (c : Nat), xs.length = n ∧ Vals (xs.map V.int) its ∧ h.get? a = some { cls := .type "list", data := .seq its.toArray c }
def Ck (n : Nat) : VP := fun v F => ∃ a, v = .ref a ∧ F a = some (ckO n a)
instance {n : Nat} : Mono (Ck n) := ⟨fun _ _ _ e ⟨a, h, h1⟩ => ⟨a, h, e _ _ h1⟩⟩
section
variable {P : Program} {w : World} {K : PySem.W.Frag} {mg : Str → Option Value} {base : Heap} {A : Around} {outer : List Env} {s s' : Shared} {H H' : Hp} {a : Addr} {n : Nat}
theorem ck_open {h : Heap} (ok : HOk P w H h) (ha : H a = some (ckO n a)) (hn : n ≤ 1000) : ∃ xs : List Int, xs.length = n ∧ HOk P w (upd H a (.lst (xs.map V.int))) h := by
  obtain ⟨⟨xs, its, c, h1, h2, h3⟩, _⟩ := ok a _ ha
  refine ⟨xs, h1, ok.write (by rw [ha]; exact True.intro) (.inl rfl) (fun b u _ e => e) ⟨_, h3⟩ ⟨by rw [List.length_map, sizeLine_eq]; omega, its, c, h2, h3⟩⟩
theorem ck_shut {h : Heap} {xs : List Int} (ok : HOk P w H h) (ha : H a = some (.lst (xs.map V.int))) (hn : xs.length = n) : HOk P w (upd H a (ckO n a)) h := by
  obtain ⟨_, its, c, h2, h3⟩ := ok a _ ha
  refine ok.write (by rw [ha]; exact True.intro) (.inl rfl) (fun b u _ e => e) ⟨_, h3⟩ ⟨⟨xs, its, c, hn, h2, h3⟩, ⟨_, h3⟩, fun h1 h2 ⟨xs, its, c, q1, q2, q3⟩ st => ⟨xs, its, c, q1, q2, st _ q3⟩⟩
theorem un_same {fs : List Addr} {o : HO} {h : Heap} {u : Obj} (mu : Mut (H a)) (hu : h.get? a = some u) : Un fs [] H (upd H a o) h h := Un.write mu (.inl rfl) (fun b u _ e => e) ⟨_, hu⟩
theorem lst_at {h : Heap} {xs : List V} (ok : HOk P w H h) (ha : H a = some (.lst xs)) : ∃ u, h.get? a = some u := by
  obtain ⟨_, its, c, h2, h3⟩ := ok a _ ha
  exact ⟨_, h3⟩
theorem ck_at {h : Heap} (ok : HOk P w H h) (ha : H a = some (ckO n a)) : ∃ u, h.get? a = some u := by
  obtain ⟨_, h3, _⟩ := ok a _ ha
  exact h3
theorem env_cast {o : HO} (e : Env0 P w K mg base A outer s H) (ha : H a ≠ none) (ok : HOk P w (upd H a o) s.heap) : Env0 P w K mg base A outer s (upd H a o) :=
  ⟨e.frames, e.mod, fun b ob q => ⟨(e.bs b ob q).1, by
    have h1 := (e.bs b ob q).2
    rw [upd_ne (fun z : b = a => ha (by rw [← z]; exact h1))]; exact h1⟩, e.bsz, e.funs, fun b hb => by
    have h1 := e.frf b hb
    rw [upd_ne (fun z : b = a => ha (by rw [← z]; exact h1))]; exact h1, ok, e.bare⟩
theorem cr_cast {Q Q' : VK} {E : XK} {H0 : Hp} {r : Result} (u0 : Un (frs outer) [] H H0 s.heap s.heap) (h : CR CX0 outer P w H0 s Q' E r s') (c : ∀ v H', HOk P w H' s'.heap → Q' v H' → ∃ H'', Un (frs outer) [] H' H'' s'.heap s'.heap ∧ HOk P w H'' s'.heap ∧ Q v H'') :
    CR CX0 outer P w H s Q E r s' := by
  cases r with
  | error e => exact (show False from h).elim
  | ok fl =>
    cases fl with
    | ret u =>
      obtain ⟨v, H', e1, e2, e3, e4, e5, e6⟩ := h
      obtain ⟨H'', f1, f2, f3⟩ := c v H' e4 e6
      exact ⟨v, H'', e1, e2, (u0.trans e3).trans f1, f2, e5, f3⟩
    | next => exact h
    | brk => exact h
    | cont => exact h
/-- a def that writes to its first argument, a list of ints of one's own -/
def SpC {γ : Type} (n : Nat) (pre : γ → Prop) (Rs : γ → List VP) (R : γ → VP) : Sp := fun vs H Q _ => ∃ (g : γ) (F : Hp) (N : Cells) (a : Addr) (xs : List Int) (ws : List V), vs = .ref a :: ws ∧ pre g ∧ xs.length = n ∧ At F ((a, .lst (xs.map V.int)) :: N) H ∧ Each (Rs g) ws F ∧
  ∀ v F' H' (xs' : List Int), xs'.length = n → Same F F' → At F' ((a, .lst (xs'.map V.int)) :: N) H' → R g v F' → Q v H'
def del (F : Hp) (a : Addr) : Hp := fun b => if b = a then none else F b
theorem ck_fn {γ : Type} {pre : γ → Prop} {Rs : γ → List VP} {R : γ → VP} {k : Nat} {f : Addr} {fd : FuncData} {ps : List Str} (hn : n ≤ 1000) (hR : ∀ g v F F', R g v F → R g v F') (hRs : ∀ g vs F F', Each (Rs g) vs F → Each (Rs g) vs F')
    (G : FnOk P w K mg base CX0 k f fd ps (SpC n pre Rs R)) (len : ∀ g, (Rs g).length + 1 = ps.length) : FnOk P w K mg base CX0 k f fd ps (SpF pre (fun g => Ck n :: Rs g) R) := by
  refine ⟨fun vs H Q E ⟨g, F0, N0, hp, A, hv, q⟩ => (each_length hv).trans (len g), fun A outer s H args us vs Q E hr e0 hb r hs => ?_⟩
  obtain ⟨g, F, N, hp, hA, hv, q⟩ := hs
  obtain ⟨v, ws, rfl, ⟨a, rfl, ha⟩, hw⟩ := each_cons hv
  have hHa : H a = some (ckO n a) := hA.ex _ _ ha
  obtain ⟨xs, hx, ok1⟩ := ck_open e0.hok hHa hn
  have e1 : Env0 P w K mg base A outer s (upd H a (.lst (xs.map V.int))) := env_cast e0 (by rw [hHa]; intro z; cases z) ok1
  obtain ⟨u, hu⟩ := ck_at e0.hok hHa
  have Nne : ∀ p ∈ N, p.1 ≠ a := fun p hm z => by
    have h1 := hA.off p hm
    rw [z, ha] at h1; cases h1
  refine codeAny_mono (G.run A outer s _ args us _ (fun v H' => ∃ (F' : Hp) (xs' : List Int), xs'.length = n ∧ Same (del F a) F' ∧ At F' ((a, .lst (xs'.map V.int)) :: N) H' ∧ R g v F') E hr e1 hb r
    ⟨g, del F a, N, a, xs, ws, rfl, hp, hx, ?_, hRs g ws F _ hw, fun v F' H' xs' h1 h2 h3 h4 => ⟨F', xs', h1, h2, h3, h4⟩⟩) fun r s' hq => cr_cast (un_same (by rw [hHa]; exact True.intro) hu) hq fun v H' ok' ⟨F', xs', h1, h2, h3, h4⟩ => ?_
  · refine ⟨fun b o eb => ?_, fun p hm => ?_, fun p hm => ?_, ?_, fun p hm => ?_⟩
    · unfold del at eb
      split at eb
      · cases eb
      · rename_i hne
        rw [upd_ne hne]; exact hA.ex _ _ eb
    · rcases List.mem_cons.mp hm with rfl | hm
      · exact upd_same
      · rw [upd_ne (Nne p hm)]; exact hA.on p hm
    · rcases List.mem_cons.mp hm with rfl | hm
      · unfold del; rw [if_pos rfl]
      · unfold del; rw [if_neg (Nne p hm)]; exact hA.off p hm
    · rw [List.map_cons, List.nodup_cons]
      refine ⟨fun z => ?_, hA.nd⟩
      obtain ⟨p, hm, e⟩ := List.mem_map.mp z
      exact Nne p hm e
    · rcases List.mem_cons.mp hm with rfl | hm
      · intro ys z; nomatch z
      · exact hA.nt p hm
  · have hH' : H' a = some (.lst (xs'.map V.int)) := h3.on1
    obtain ⟨u', hu'⟩ := lst_at ok' hH'
    refine ⟨upd H' a (ckO n a), un_same (by rw [hH']; exact True.intro) hu', ck_shut ok' hH' h1, ?_⟩
    have A4 : At (upd F' a (ckO n a)) N (upd H' a (ckO n a)) := (At.put (u := ckO n a) h3 (by intro ys z; unfold ckO at z; nomatch z)).keep
    refine q v (upd F' a (ckO n a)) _ (fun b o eb => ?_) A4 (hR g v F' _ h4)
    by_cases hba : b = a
    · subst hba; rw [upd_same, ← ha]; exact eb
    · rw [upd_ne hba]
      refine h2 b o ?_
      unfold del; rw [if_neg hba]; exact eb
/-- a def that hands out a new list of ints -/
theorem ck_new {γ : Type} {pre : γ → Prop} {Rs : γ → List VP} {k : Nat} {x qual : Str} {st : Stmt} {f : Addr} {fd : FuncData} {N ps : List Str} (F : Fun K x qual st f fd) (S : FnScope N ps (defScope st)) (len : ∀ g, (Rs g).length = ps.length)
    (body : ∀ (cdv : Value) (A : Around) (outer : List Env) (s : Shared) (H : Hp) (E : XK) (g : γ) (vs : List V) (F0 : Hp), Room k (A.deeper (envOfC qual (defScope st) s.heap.objs.size f cdv)) → pre g → Each (Rs g) vs F0 →
      ∃ t, PSs (cxOf CX0 P w K mg base N qual (defScope st) f cdv A outer s H E).nox (defBody st) t ∧ RunS t (start N vs) F0 [] (fun _ _ _ => False) (fun v F' => ∃ (a : Addr) (xs : List Int), v = .ref a ∧ F' a = some (.lst (xs.map V.int)) ∧ xs.length = n ∧ F0 a = none)) :
    FnOk P w K mg base CX0 (k + 1) f fd ps (SpF pre Rs (fun _ => Ck n)) := by
  have G : FnOk P w K mg base CX0 (k + 1) f fd ps (fun vs H Q _ => ∃ g F N, pre g ∧ At F N H ∧ Each (Rs g) vs F ∧ ∀ v F' H', Same F F' → At F' N H' → (∃ (a : Addr) (xs : List Int), v = .ref a ∧ F' a = some (.lst (xs.map V.int)) ∧ xs.length = n ∧ F a = none) → Q v H') := by
    refine F.ok S (fun vs H Q E ⟨g, F0, N0, hp, A, hv, q⟩ => (each_length hv).trans (len g)) fun cdv A outer s H vs Q E hr ⟨g, F0, N0, hp, A0, hv, q⟩ => ?_
    obtain ⟨t, h1, h2⟩ := body cdv A outer s H E g vs F0 hr hp hv
    exact ⟨t, h1, h2 F0 N0 H (Same.refl _) A0 _ (fun _ F' L' H' e' A' n => n.elim) fun v F' H' e' A' r => q v F' H' e' A' r⟩
  refine ⟨fun vs H Q E ⟨g, F0, N0, hp, A, hv, q⟩ => (each_length hv).trans (len g), fun A outer s H args us vs Q E hr e0 hb r hs => ?_⟩
  obtain ⟨g, F, N, hp, hA, hv, q⟩ := hs
  refine codeAny_mono (G.run A outer s _ args us _ (fun v H' => ∃ (F' : Hp) (a : Addr) (xs : List Int), v = .ref a ∧ Same F F' ∧ At F' N H' ∧ F' a = some (.lst (xs.map V.int)) ∧ xs.length = n ∧ F a = none) E hr e0 hb r
    ⟨g, F, N, hp, hA, hv, fun v F' H' h1 h2 ⟨a, xs, h3, h4, h5, h6⟩ => ⟨F', a, xs, h3, h1, h2, h4, h5, h6⟩⟩) fun r s' hq => cr_cast (Un.refl) hq fun v H' ok' ⟨F', a, xs, h3, h1, h2, h4, h5, h6⟩ => ?_
  have hH' : H' a = some (.lst (xs.map V.int)) := h2.ex _ _ h4
  obtain ⟨u', hu'⟩ := lst_at ok' hH'
  subst h3
  refine ⟨upd H' a (ckO n a), un_same (by rw [hH']; exact True.intro) hu', ck_shut ok' hH' h5, q (.ref a) (upd F' a (ckO n a)) _ (fun b o eb => ?_) ?_ ⟨a, rfl, upd_same⟩⟩
  · rw [upd_ne (fun z => by rw [z, h6] at eb; cases eb)]; exact h1 b o eb
  · have Nne : ∀ p ∈ N, p.1 ≠ a := fun p hm z => by
      have := h2.off p hm
      rw [z, h4] at this; cases this
    refine ⟨fun b o eb => ?_, fun p hm => by rw [upd_ne (Nne p hm)]; exact h2.on p hm, fun p hm => by rw [upd_ne (Nne p hm)]; exact h2.off p hm, h2.nd, h2.nt⟩
    by_cases hba : b = a
    · subst hba; rw [upd_same] at eb ⊢; exact eb
    · rw [upd_ne hba] at eb ⊢; exact h2.ex b o eb
end
end Rs

/-! RsN: own == and !=, in of tuples of data, powers. -/
namespace Nq
open PySem PySem.Spec PyProof.Rows L2 SlX
section
variable {prog : Program} {w : World} {A : Around} {E : Value → Shared → Prop} {s : Shared} {K : PySem.W.Frag} {x C L f : Addr} {h₀ : Heap} {m : Str → Option Value} {ox : Obj} {od : Option Obj} {b tb : Value}
theorem bound_ne {M : Model} {args : List Value} {Q : Option Value → Shared → Prop} (X : K.In s.heap) (I : PySem.W.InstAt s.heap x ox C od) (hs : PySem.W.findIn K (.ref C) "__ne__" = some (some (.builtin "object.__ne__")))
    (h : wpAny M A (call (.builtin "object.__ne__") (.ref x :: args)) (fun v => Q (some v)) E s) : wpAny M A (callSpecialIfBound? (.ref x) "__ne__" args) Q E s := by
  simp only [callSpecialIfBound?, bindSpecialIfBound?]
  refine wpAny_holding (wpAny_bind (wpAny_bind (wpAny_bind (I.type.here ((PySem.W.looks_findIn X hs).here ?_)))))
  simp only [F.cmp_object.ne.bind]
  refine wpAny_bind (wpAny_askSetting (wpAny_ite ?_))
  have fin : wpAny M A (call (.builtin "object.__ne__") ([.ref x] ++ args) >>= fun v => pure (some v)) Q E s := wpAny_bind (wpAny_mono h (fun v s' h' => wpAny_pure h') fun _ _ h' => h')
  split
  · exact wpAny_bind (wpAny_pure (wpAny_pure (by exact fin)))
  · exact wpAny_tryCatch (wpAny_bind (wpAny_pure (wpAny_pure (by exact fin))))
theorem ne_body {Q : Fin → Shared → Prop} (hu : A.units < cLine) (X : K.In s.heap) (I : PySem.W.InstAt s.heap x ox C od) (hs : PySem.W.findIn K (.ref C) "__eq__" = some (some (.ref f))) (hf : PySem.W.isFn K (.ref f) = true)
    (h : wpAny (model prog w) A (call (.ref f) [.ref x, b]) (fun v s' => ∃ c, v = .bool c ∧ Q (.done (.ret (.bool (!c)))) s') E s) : wpAny (model prog w) A (Builtin.«object.__ne__» ⟨[.ref x, b], []⟩) Q E s := by
  show wpAny _ _ (cRoomFor "comparison" [.ref x, b] >>= _) _ _ _
  refine wpAny_bind (wpAny_cRoomFor hu ?_)
  refine wpAny_bind (PySem.W.ifBound_K X I hs hf (wpAny_mono h (fun v s' hv => ?_) fun _ _ e => e))
  obtain ⟨c, rfl, q⟩ := hv
  show wpAny _ _ (truthy (.bool c) >>= _) _ _ _
  exact wpAny_bind (wpAny_truthy_bool (wpAny_pure q))
theorem ne_K {Q : Value → Shared → Prop} (hu : A.units + 1 < cLine) (F : Fr h₀ L s.heap m) (X₀ : K.In h₀) (I : PySem.W.InstAt s.heap x ox C od) (hb : PySem.W.Looks (model prog w) s.heap (typeOf b) tb) (hn : PySem.W.notFirst K C tb = true)
    (hs : PySem.W.findIn K (.ref C) "__ne__" = some (some (.builtin "object.__ne__"))) (hsub : PySem.W.mroIn K C (.type "object") = some true) (he : PySem.W.findIn K (.ref C) "__eq__" = some (some (.ref f))) (hf : PySem.W.isFn K (.ref f) = true)
    (h : wpAny (model prog w) A.in1 (call (.ref f) [.ref x, b]) (fun v s' => ∃ c, v = .bool c ∧ Q (.bool (!c)) s') E s) : wpAny (model prog w) A (richCompare .NotEq (.ref x) b) Q E s := by
  have X := X₀.keeps F.keep
  have one : wpAny (model prog w) A (tryCompare (.ref x) (cmpInfo .NotEq).2.1 b) (fun r s' => ∃ v, r = some v ∧ Q v s') E s := by
    unfold tryCompare
    refine wpAny_bind (bound_ne X I hs (wpAny_call (codeAny_call_builtin PySem.F.cmp_object.ne.plain PySem.F.cmpEntry_ne (PySem.W.check_slot PySem.F.cmpKind_ne PySem.F.cmpSplit_ne (I.type.andThen (PySem.W.looks_mroIn X hsub)) (PySem.F.cmpArgs_ne _ _)
      (ne_body (A := A.in1) (by show A.units + 1 < cLine; exact hu) X I he hf (wpAny_mono h (fun v s' hv => ?_) fun _ _ e => e))))))
    obtain ⟨c, rfl, q⟩ := hv
    first | exact ⟨c, rfl, wpAny_pure ⟨_, rfl, q⟩⟩ | exact ⟨c, rfl, ⟨_, rfl, q⟩⟩
  unfold richCompare
  simp only [oneThing_ref]
  refine wpAny_holding (wpAny_bind (wpAny_cRoomFor (by omega) ?_))
  refine wpAny_bind (I.type.here (wpAny_bind (hb.here ?_)))
  split
  · rename_i q
    have e : PySem.W.subIn K tb (.ref C) = some false := by
      rcases Bool.or_eq_true_iff.mp hn with e | e
      · rw [beq_iff_eq.mp e] at q; simp at q
      · exact beq_iff_eq.mp e
    refine wpAny_bind ((PySem.W.looks_subIn X e).here ?_)
    simp only [Bool.false_eq_true, if_false]
    refine wpAny_bind (wpAny_mono one (fun r s' z => ?_) fun _ _ e => e)
    obtain ⟨v, rfl, hq⟩ := z
    exact wpAny_pure hq
  · refine wpAny_bind (wpAny_pure ?_)
    simp only [Bool.false_eq_true, if_false]
    refine wpAny_bind (wpAny_mono one (fun r s' z => ?_) fun _ _ e => e)
    obtain ⟨v, rfl, hq⟩ := z
    exact wpAny_pure hq
end
/-- x != y by the class's own == -/
def rNeOwn (K : PySem.W.Frag) (C : Addr) (sp : Sp) (E : XK) : R2 := fun x y H Q => ∃ a dx vs b C' dy ws, x = .ref a ∧ y = .ref b ∧ Slt H a C dx vs ∧ Slt H b C' dy ws ∧ PySem.W.notFirst K C (.ref C') = true ∧ sp [x, y] H (fun v H' => ∃ c, v = .bl c ∧ Q (.bl (!c)) H') E
section
variable {X : Cx} {CX : CXT} {C g : Addr} {n : Nat} {sp : Sp} {E : XK}
theorem op_neOwn (hs : PySem.W.findIn X.K (.ref C) "__ne__" = some (some (.builtin "object.__ne__"))) (hsub : PySem.W.mroIn X.K C (.type "object") = some true) (he : PySem.W.findIn X.K (.ref C) "__eq__" = some (some (.ref g))) (hf : PySem.W.isFn X.K (.ref g) = true) (F : FnR X.prog X.w X.K X.mg X.base CX n g sp)
    (hr : Room (n + 1) X.A) (hx : Passes CX X E) : OpR X (compareOp .NotEq) (rNeOwn X.K C sp E) := by
  intro pins s σ H x y v u Q I rx ry h
  obtain ⟨a, dx, vs, b, C', dy, ws, rfl, rfl, ha, hb, hn, q⟩ := h
  cases (show v = Value.ref a from rx)
  cases (show u = Value.ref b from ry)
  obtain ⟨sl, od, _, J, _⟩ := slt_inst I ha
  obtain ⟨sl', od', _, J', _⟩ := slt_inst I hb
  obtain ⟨m, hF⟩ := I.fr
  have hu := hr.units
  unfold compareOp
  refine ne_K (by omega) hF I.ok.mod.kin J J'.type hn hs hsub he hf ?_
  refine wpAny_mono (wpAny_call (SlX.run_at (us := [.ref a, .ref b]) (ws := [.ref a, .ref b]) F hr.in1 I.env0.in1 hx I (.cons rfl (.cons rfl .nil)) q)) (fun w s' z => ?_) fun _ _ x => x
  obtain ⟨z', H', I', rz, c, rfl, qz⟩ := z
  obtain rfl : w = Value.bool c := rz
  exact ⟨c, rfl, .bl (!c), H', I', rfl, qz⟩
def rInDT (K : PySem.W.Frag) (neg : Bool) : R2 := fun x y H Q => ∃ d ds, Dp K H x d ∧ Dp K H y (.tuple ds) ∧ SeqAt.shaped d = true ∧ SeqAt.shaped (.tuple ds) = true ∧ Q (.bl (if neg then !ds.any (fun z => PyData.eqv z d) else ds.any fun z => PyData.eqv z d)) H
theorem roomT {A : Around} {d : PyData} {ds : List PyData} (sd : SeqAt.shaped d = true) (hu : A.units + 65 < cLine) : A.units + 1 + min (PyData.depthAll ds) d.depth < cLine := room_in_shaped sd hu
theorem op_inDT (hu : X.A.units + 65 < cLine) : OpR X (compareOp .In) (rInDT X.K false) := by
  intro pins s σ H x y v u Q I rx ry h
  obtain ⟨d, ds, hd, he, sd, se, q⟩ := h
  obtain ⟨as, r1⟩ := Dp.reads I d x v hd rx
  obtain ⟨bs, r2⟩ := Dp.reads I (.tuple ds) y u he ry
  exact SeqAt.in_tuple_reads r2 r1 (SeqAt.canLay_of_shaped se) (SeqAt.canLay_of_shaped sd) (roomT sd hu) ⟨.bl _, H, I, rfl, q⟩
theorem op_notInDT (hu : X.A.units + 65 < cLine) : OpR X (compareOp .NotIn) (rInDT X.K true) := by
  intro pins s σ H x y v u Q I rx ry h
  obtain ⟨d, ds, hd, he, sd, se, q⟩ := h
  obtain ⟨as, r1⟩ := Dp.reads I d x v hd rx
  obtain ⟨bs, r2⟩ := Dp.reads I (.tuple ds) y u he ry
  exact SeqAt.notIn_tuple_reads r2 r1 (SeqAt.canLay_of_shaped se) (SeqAt.canLay_of_shaped sd) (roomT sd hu) ⟨.bl _, H, I, rfl, q⟩
def CPowX (i j : Int) : Prop := 0 ≤ j ∧ (Builtin.Int.intBits i : Int) * j ≤ 2 ^ 27
theorem op_powX : OpR X (binaryOp .Pow) (rI CPowX fun i j => .int (i ^ j.toNat)) := opI fun _ _ _ _ _ _ _ hc q => pow_int hc.1 hc.2 q
end
end Nq

/-! RsO: runs over lists of objects, own == and !=, written lists. -/
namespace Rs
open PySem PySem.Spec PyProof.Rows L2 SlX StX Ma
structure EqS (P : Program) (w : World) (K : PySem.W.Frag) (mg : Str → Option Value) (base : Heap) (k : Nat) (C : Addr) (sp : Sp) : Prop where
  ex : ∃ g, PySem.W.findIn K (.ref C) "__ne__" = some (some (.builtin "object.__ne__")) ∧ PySem.W.mroIn K C (.type "object") = some true ∧ PySem.W.findIn K (.ref C) "__eq__" = some (some (.ref g)) ∧ PySem.W.isFn K (.ref g) = true ∧ FnR P w K mg base CX0 k g sp
section
variable {X : Cx}
theorem op_eqO {k j : Nat} {C : Addr} {sp : Sp} (c : EqS X.prog X.w X.K X.mg X.base k C sp) (hr : Room j X.A) (hk : k + 1 ≤ j) : OpR X (compareOp .Eq) (rOwn X.K C sp E0) := by
  obtain ⟨g, h1, h2, h3, h4, F⟩ := c.ex
  exact op_own (op := .Eq) (fun _ _ => rfl) h3 h4 F (hr.mono (by omega)) pass0
theorem op_neO {k j : Nat} {C : Addr} {sp : Sp} (c : EqS X.prog X.w X.K X.mg X.base k C sp) (hr : Room j X.A) (hk : k + 1 ≤ j) : OpR X (compareOp .NotEq) (Nq.rNeOwn X.K C sp E0) := by
  obtain ⟨g, h1, h2, h3, h4, F⟩ := c.ex
  exact Nq.op_neOwn h1 h2 h3 h4 F (hr.mono hk) pass0
end
section
variable {K : PySem.W.Frag} {σ : L2.St} {F : Hp} {L : Cells} {R : VP} {ta tb te : TE} {C : Addr} {E : XK} {S1 S2 : VP}
theorem r_eqOwn {γ : Type} {pre : γ → Prop} {Rs : γ → List VP} {R : γ → VP} (g : γ) (hp : pre g) [Mono S1] [Mono S2] (hg : Rs g = [S1, S2]) (hn : PySem.W.notFirst K C (.ref C) = true) (h1 : ∀ v F1, S1 v F1 → IsOb C v F1) (h2 : ∀ v F1, S2 v F1 → IsOb C v F1)
    (ha : Run (ta σ) F L S1) (hb : Run (tb σ) F L S2) : Run (tOp (rOwn K C (SpF pre Rs R) E) ta tb σ) F L (R g) :=
  r_op ha hb fun x y F1 e hx hy => fun F2 N H e2 A Q q => by
    obtain ⟨a, dx, vs, rfl, q1, q2⟩ := h1 _ _ hx
    obtain ⟨b, dy, ws, rfl, q3, q4⟩ := h2 _ _ hy
    refine ⟨a, dx, vs, b, C, dy, ws, rfl, rfl, at_slt A (e2 _ _ q1) (e2 _ _ q2), at_slt A (e2 _ _ q3) (e2 _ _ q4), hn, g, F2, L ++ N, hp, A, ?_, fun v F3 H3 e3 A3 r => q v F3 H3 e3 A3 r⟩
    rw [hg]
    exact ⟨Mono.go hx e2, Mono.go hy e2, True.intro⟩
theorem r_neOwn {γ : Type} {pre : γ → Prop} {Rs : γ → List VP} {c : γ → Bool} (g : γ) (hp : pre g) [Mono S1] [Mono S2] (hg : Rs g = [S1, S2]) (hn : PySem.W.notFirst K C (.ref C) = true) (h1 : ∀ v F1, S1 v F1 → IsOb C v F1) (h2 : ∀ v F1, S2 v F1 → IsOb C v F1)
    (ha : Run (ta σ) F L S1) (hb : Run (tb σ) F L S2) : Run (tOp (Nq.rNeOwn K C (SpF pre Rs fun g => Dt K (.bool (c g))) E) ta tb σ) F L (Dt K (.bool (!c g))) :=
  r_op ha hb fun x y F1 e hx hy => fun F2 N H e2 A Q q => by
    obtain ⟨a, dx, vs, rfl, q1, q2⟩ := h1 _ _ hx
    obtain ⟨b, dy, ws, rfl, q3, q4⟩ := h2 _ _ hy
    refine ⟨a, dx, vs, b, C, dy, ws, rfl, rfl, at_slt A (e2 _ _ q1) (e2 _ _ q2), at_slt A (e2 _ _ q3) (e2 _ _ q4), hn, g, F2, L ++ N, hp, A, ?_, fun v F3 H3 e3 A3 r => ⟨c g, dt_bl r, q _ F3 H3 e3 A3 (.bl _)⟩⟩
    rw [hg]
    exact ⟨Mono.go hx e2, Mono.go hy e2, True.intro⟩
theorem r_inDT {d : PyData} {ds : List PyData} (ha : Run (ta σ) F L (Dt K d)) (hb : Run (tb σ) F L (Dt K (.tuple ds))) (s1 : SeqAt.shaped d = true) (s2 : SeqAt.shaped (.tuple ds) = true) : Run (tOp (Nq.rInDT K false) ta tb σ) F L (Dt K (.bool (ds.any fun z => PyData.eqv z d))) :=
  r_op ha hb fun x y F1 e hx hy => fun F2 N H e2 A Q q => ⟨d, ds, dp_up (e2.trans A.ex) hx, dp_up (e2.trans A.ex) hy, s1, s2, q _ F2 H (Same.refl _) A (.bl _)⟩
theorem r_notInDT {d : PyData} {ds : List PyData} (ha : Run (ta σ) F L (Dt K d)) (hb : Run (tb σ) F L (Dt K (.tuple ds))) (s1 : SeqAt.shaped d = true) (s2 : SeqAt.shaped (.tuple ds) = true) : Run (tOp (Nq.rInDT K true) ta tb σ) F L (Dt K (.bool (!ds.any fun z => PyData.eqv z d))) :=
  r_op ha hb fun x y F1 e hx hy => fun F2 N H e2 A Q q => ⟨d, ds, dp_up (e2.trans A.ex) hx, dp_up (e2.trans A.ex) hy, s1, s2, q _ F2 H (Same.refl _) A (.bl _)⟩
/-! lists -/
theorem each_rep {α : Type} {f : α → VP} {xs : List α} {vs : List V} (h : Each (xs.map f) vs F) : ∀ k, Each (((List.replicate k xs).flatten).map f) (List.replicate k vs).flatten F
  | 0 => True.intro
  | k + 1 => by
    rw [List.replicate_succ, List.flatten_cons, List.map_append, List.replicate_succ, List.flatten_cons]
    exact each_app h (each_rep h k)
theorem r_rep {α : Type} {f : α → VP} [∀ x, Mono (f x)] {xs : List α} {k : Int} (ha : Run (ta σ) F L (Ln (xs.map f))) (hb : Run (tb σ) F L (Dt K (.int k))) (h0 : 0 ≤ k) (h1 : k ≤ 1000) (hx : xs.length ≤ 50) : Run (tOp rRep ta tb σ) F L (Ln (((List.replicate k.toNat xs).flatten).map f)) :=
  r_op ha hb fun x y F1 e hx' hy => fun F2 N H e2 A Q q => by
    cases hy
    obtain ⟨a, vs, rfl, hs, hr⟩ := hx'
    have hl : vs.length = xs.length := by rw [each_length hr, List.length_map]
    refine ⟨a, k, vs, rfl, rfl, A.ex _ _ (e2 _ _ hs), by omega, by omega, ?_, fun p hp => ?_⟩
    · rw [sizeLine_eq]
      have : vs.length * k.toNat ≤ 50 * 1000 := Nat.mul_le_mul (by omega) (by omega)
      omega
    · exact q _ (upd F2 p _) _ (same_new (A.free hp)) (A.new hp) ⟨p, _, rfl, upd_same, each_rep (Mono.go hr (e2.trans (same_new (A.free hp)))) _⟩
theorem r_cat {α : Type} {f : α → VP} [∀ x, Mono (f x)] {xs ys : List α} (ha : Run (ta σ) F L (Ln (xs.map f))) (hb : Run (tb σ) F L (Ln (ys.map f))) (h1 : xs.length + ys.length ≤ 10000) : Run (tOp rCat ta tb σ) F L (Ln ((xs ++ ys).map f)) :=
  r_op ha hb fun x y F1 e hx' hy => fun F2 N H e2 A Q q => by
    obtain ⟨a, vs, rfl, hs, hr⟩ := hx'
    obtain ⟨b, ws, rfl, hs', hr'⟩ := hy
    have hl : vs.length = xs.length := by rw [each_length hr, List.length_map]
    have hl' : ws.length = ys.length := by rw [each_length hr', List.length_map]
    refine ⟨a, b, vs, ws, rfl, rfl, A.ex _ _ (e2 _ _ hs), A.ex _ _ (e2 _ _ hs'), by rw [sizeLine_eq]; omega, fun p hp => ?_⟩
    refine q _ (upd F2 p _) _ (same_new (A.free hp)) (A.new hp) ⟨p, _, rfl, upd_same, ?_⟩
    rw [List.map_append]
    exact each_app (Mono.go hr (e2.trans (same_new (A.free hp)))) (Mono.go hr' (e2.trans (same_new (A.free hp))))
theorem each_take : ∀ {Rs : List VP} {vs : List V} (n : Nat), Each Rs vs F → Each (Rs.take n) (vs.take n) F
  | [], vs, n, h => by
    obtain rfl := each0 h
    simp [Each]
  | R :: Rs, _, 0, h => by simp [Each]
  | R :: Rs, vs, n + 1, h => by
    obtain ⟨v, ws, rfl, h1, h2⟩ := each_cons h
    exact ⟨h1, each_take n h2⟩
theorem each_drop : ∀ {Rs : List VP} {vs : List V} (n : Nat), Each Rs vs F → Each (Rs.drop n) (vs.drop n) F
  | [], vs, n, h => by
    obtain rfl := each0 h
    simp [Each]
  | R :: Rs, _, 0, h => h
  | R :: Rs, vs, n + 1, h => by
    obtain ⟨v, ws, rfl, h1, h2⟩ := each_cons h
    exact each_drop n h2
theorem cut_take {vs : List V} {n : Nat} (h : n ≤ vs.length) : cutV vs none (some (n : Int)) = vs.take n := by
  unfold cutV
  rw [HT.sIx_none, HT.sIx_nat, List.drop_zero, Nat.sub_zero, Nat.min_eq_left h]
theorem cut_drop {vs : List V} {n : Nat} (h : n ≤ vs.length) : cutV vs (some (n : Int)) none = vs.drop n := by
  unfold cutV
  rw [HT.sIx_none, HT.sIx_nat, Nat.min_eq_left h]
  exact List.take_of_length_le (by rw [List.length_drop]; omega)
theorem r_slTake {α : Type} {f : α → VP} [∀ x, Mono (f x)] {xs : List α} {n : Nat} (ha : Run (ta σ) F L (Ln (xs.map f))) (hb : Run (tb σ) F L (Dt K (nI n))) (hn : n ≤ xs.length) : Run (L2.tSl (rSlL K) ta tNoPart (tPart tb) σ) F L (Ln ((xs.take n).map f)) := fun F1 N H e A Q q =>
  ha F1 N H e A _ fun x F2 H2 e2 A2 hx => hb F2 N H2 (e.trans e2) A2 _ fun y F3 H3 e3 A3 hy => by
    cases hy
    obtain ⟨a, vs, rfl, hs, hr⟩ := hx
    have hl : vs.length = xs.length := by rw [each_length hr, List.length_map]
    refine ⟨(n : Int), rfl, a, vs, rfl, .inl (.inl (A3.ex _ _ (e3 _ _ hs))), fun p hp => ?_⟩
    rw [cut_take (by omega)]
    refine q _ (upd F3 p _) _ (e2.trans (e3.trans (same_new (A3.free hp)))) (A3.new hp) ⟨p, _, rfl, upd_same, ?_⟩
    rw [List.map_take]
    exact each_take n (Mono.go hr (e3.trans (same_new (A3.free hp))))
theorem r_slDrop {α : Type} {f : α → VP} [∀ x, Mono (f x)] {xs : List α} {n : Nat} (ha : Run (ta σ) F L (Ln (xs.map f))) (hb : Run (tb σ) F L (Dt K (nI n))) (hn : n ≤ xs.length) : Run (L2.tSl (rSlL K) ta (tPart tb) tNoPart σ) F L (Ln ((xs.drop n).map f)) := fun F1 N H e A Q q =>
  ha F1 N H e A _ fun x F2 H2 e2 A2 hx => hb F2 N H2 (e.trans e2) A2 _ fun y F3 H3 e3 A3 hy => by
    cases hy
    obtain ⟨a, vs, rfl, hs, hr⟩ := hx
    have hl : vs.length = xs.length := by rw [each_length hr, List.length_map]
    refine ⟨(n : Int), rfl, a, vs, rfl, .inl (.inl (A3.ex _ _ (e3 _ _ hs))), fun p hp => ?_⟩
    rw [cut_drop (by omega)]
    refine q _ (upd F3 p _) _ (e2.trans (e3.trans (same_new (A3.free hp)))) (A3.new hp) ⟨p, _, rfl, upd_same, ?_⟩
    rw [List.map_drop]
    exact each_drop n (Mono.go hr (e3.trans (same_new (A3.free hp))))
/-- one of a list -/
theorem r_ixLs {Rs : List VP} [MonoL Rs] {n : Nat} {R : VP} (ha : Run (ta σ) F L (Ls K Rs)) (hb : Run (tb σ) F L (Dt K (.int (n : Nat)))) (hn : Rs[n]? = some R) : Run (tOp (rIxL K) ta tb σ) F L R :=
  r_op ha hb fun x y F1 e hx hy => fun F2 N H e2 A Q q => by
    cases hy
    obtain ⟨a, vs, rfl, hs, hr⟩ := hx
    have hr2 : Each Rs vs F2 := MonoL.mono _ _ _ e2 hr
    have hl := each_length hr2
    have hlt : n < vs.length := by rw [hl]; exact (List.getElem?_eq_some_iff.mp hn).1
    obtain ⟨R', hR', hv⟩ := each_at hr2 (List.getElem?_eq_getElem hlt)
    rw [hn] at hR'
    cases hR'
    refine ⟨a, vs, (n : Int), vs[n], rfl, rfl, sqL_up (e2.trans A.ex) hs, ?_, q _ F2 H (Same.refl _) A hv⟩
    unfold atI ixN
    rw [if_pos (by omega), if_pos (by omega)]
    simp [List.getElem?_eq_getElem hlt]
/-- one of a list of one's own -/
theorem r_ixC {l : Addr} {xs : List V} {n : Nat} {v : V} (hm : (l, HO.lst xs) ∈ L) (ha : Run (ta σ) F L (Eqv (.ref l))) (hb : Run (tb σ) F L (Dt K (.int (n : Nat)))) (hn : xs[n]? = some v) : Run (tOp (rIxL K) ta tb σ) F L (Eqv v) :=
  fun F1 N H e A Q q => ha F1 N H e A _ fun x F2 H2 e2 A2 hx => hb F2 N H2 (e.trans e2) A2 _ fun y F3 H3 e3 A3 hy => by
    cases hx
    cases hy
    have hlt : n < xs.length := (List.getElem?_eq_some_iff.mp hn).1
    refine ⟨l, xs, (n : Int), v, rfl, rfl, .inl (.inl (A3.mem hm)), ?_, q _ F3 H3 (e2.trans e3) A3 rfl⟩
    unfold atI ixN
    rw [if_pos (by omega), if_pos (by omega)]
    simpa using hn
theorem r_ixI {l : Addr} {xs : List Int} {n : Nat} {i : Int} (hm : (l, HO.lst (xs.map V.int)) ∈ L) (ha : Run (ta σ) F L (Eqv (.ref l))) (hb : Run (tb σ) F L (Dt K (.int (n : Nat)))) (hn : xs[n]? = some i) : Run (tOp (rIxL K) ta tb σ) F L (Dt K (.int i)) :=
  (r_ixC hm ha hb (v := .int i) (by rw [List.getElem?_map, hn]; rfl)).weak fun v F1 e h => by
    obtain rfl : v = .int i := h
    exact .int i
/-- l[n] = x, a list of one's own -/
theorem q_setC {l : Addr} {xs : List V} {n : Nat} {u : TS} {Nx : L2.St → Hp → Cells → Prop} {Rt : VP} (hv : Run (te σ) F ((l, .lst xs) :: L) R) (ha : Run (ta σ) F ((l, .lst xs) :: L) (Eqv (.ref l))) (hb : Run (tb σ) F ((l, .lst xs) :: L) (Dt K (.int (n : Nat)))) (hn : n < xs.length)
    (k : ∀ v F1, Same F F1 → R v F1 → RunS u σ F1 ((l, .lst (xs.set n v)) :: L) Nx Rt) [Mono R] : RunS (tSeq (tAsg te (gSub ta tb rSetL)) u) σ F ((l, .lst xs) :: L) Nx Rt := fun F1 N H e A D q r =>
  hv F1 N H e A _ fun v F2 H2 e2 A2 hvv => ha F2 N H2 (e.trans e2) A2 _ fun x F3 H3 e3 A3 hx => hb F3 N H3 ((e.trans e2).trans e3) A3 _ fun y F4 H4 e4 A4 hy => by
    cases hx
    cases hy
    refine ⟨l, xs, (n : Int), n, rfl, rfl, At.on1 A4, by unfold ixN; rw [if_pos (by omega), if_pos (by omega)]; simp, ?_⟩
    exact k v F4 (((e.trans e2).trans e3).trans e4) (Mono.go hvv (e3.trans e4)) F4 N _ (Same.refl _) (At.put A4) D (fun σ5 F5 L5 H5 e5 A5 n => q σ5 F5 L5 H5 (((e2.trans e3).trans e4).trans e5) A5 n) fun w F5 H5 e5 A5 n => r w F5 H5 (((e2.trans e3).trans e4).trans e5) A5 n
theorem r_lstN {t : TA} {Rs : List VP} (h : Run (t σ) F L (Each Rs)) [MonoL Rs] (hl : Rs.length ≤ 100000) : Run (tLst t σ) F L (fun v F1 => ∃ a vs, v = .ref a ∧ F1 a = some (.lst vs) ∧ Each Rs vs F1 ∧ F a = none) := fun F1 N H e A Q q =>
  h F1 N H e A _ fun vs F2 H2 e2 A2 hv => ⟨len_ok (by rw [each_length hv]; exact hl), fun p hp => q _ (upd F2 p _) _ (e2.trans (same_new (A2.free hp))) (A2.new hp) ⟨p, vs, rfl, upd_same, MonoL.mono _ _ _ (same_new (A2.free hp)) hv, (e.trans e2).free (A2.free hp)⟩⟩
end
end Rs

/-! RsP: any whole number; bodies that hand their cells back. -/
namespace Rs
open PySem PySem.Spec PyProof.Rows L2 SlX StX Ma
theorem room65 {k : Nat} {A : Around} (r : Room k A) : A.units + 65 < cLine := by have := r.un; omega
def IntV : VP := fun v _ => ∃ i : Int, v = .int i
instance : Mono IntV := ⟨fun _ _ _ _ h => h⟩
def BoolV : VP := fun v _ => ∃ b : Bool, v = .bl b
instance : Mono BoolV := ⟨fun _ _ _ _ h => h⟩
/-- a number below t -/
def Bd (t : Nat) : VP := fun v _ => ∃ n : Nat, n < t ∧ v = .int n
instance {t : Nat} : Mono (Bd t) := ⟨fun _ _ _ _ h => h⟩
section
variable {K : PySem.W.Frag} {σ : L2.St} {F : Hp} {L : Cells} {R : VP} {ta tb te : TE} {t : TA} {u w : TS} {tc : TT} {i : Nat} {b : Bool}
theorem r_any {d : Int} (h : Run (te σ) F L (Dt K (.int d))) : Run (te σ) F L IntV := h.weak fun v F1 e hv => ⟨d, dt_int hv⟩
theorem r_anyI {j : Int} : Run (tC (.int j) σ) F L IntV := r_c ⟨j, rfl⟩
theorem r_lnLD {ds : List PyData} (h : Run (te σ) F L (Dt K (.list ds))) : Run (tCB (rLn K) (tCons te tNil) σ) F L (Dt K (.int ds.length)) := by
  have q := r_lnL (Rs := ds.map (Dt K)) (r_cons (h.weak fun v F e hv => ls_dt.mpr hv) r_nil)
  rwa [List.length_map] at q
theorem r_anyB {n : Nat} (h : Run (te σ) F L (Bd n)) : Run (te σ) F L IntV := h.weak fun v F1 e ⟨m, _, hv⟩ => ⟨m, hv⟩
theorem a_op0 {f : Int → Int → Int} (ha : Run (ta σ) F L IntV) (hb : Run (tb σ) F L IntV) : Run (tOp (rI0 fun i j => .int (f i j)) ta tb σ) F L IntV :=
  r_op ha hb fun x y F1 e ⟨i, hx⟩ ⟨j, hy⟩ => by
    subst hx; subst hy
    exact fun F2 N H e2 A Q q => ⟨i, j, rfl, rfl, q _ F2 H (Same.refl _) A ⟨_, rfl⟩⟩
theorem a_cmp {f : Int → Int → Bool} (ha : Run (ta σ) F L IntV) (hb : Run (tb σ) F L IntV) : Run (tOp (rI0 fun i j => .bl (f i j)) ta tb σ) F L BoolV :=
  r_op ha hb fun x y F1 e ⟨i, hx⟩ ⟨j, hy⟩ => by
    subst hx; subst hy
    exact fun F2 N H e2 A Q q => ⟨i, j, rfl, rfl, q _ F2 H (Same.refl _) A ⟨_, rfl⟩⟩
/-- a factor that is small -/
theorem a_mulL {c : Int} (ha : Run (ta σ) F L (Dt K (.int c))) (hb : Run (tb σ) F L IntV) (h : -(2 ^ 64) < c ∧ c < 2 ^ 64) : Run (tOp (rI CMul fun i j => .int (i * j)) ta tb σ) F L IntV :=
  r_op ha hb fun x y F1 e hx ⟨j, hy⟩ => by
    cases hx; subst hy
    exact fun F2 N H e2 A Q q => ⟨c, j, rfl, rfl, .inl h, q _ F2 H (Same.refl _) A ⟨_, rfl⟩⟩
theorem a_mulB {n : Nat} (ha : Run (ta σ) F L (Bd n)) (hb : Run (tb σ) F L IntV) (h : n ≤ 2 ^ 63) : Run (tOp (rI CMul fun i j => .int (i * j)) ta tb σ) F L IntV :=
  r_op ha hb fun x y F1 e ⟨m, hm, hx⟩ ⟨j, hy⟩ => by
    subst hx; subst hy
    have h1 : (n : Int) ≤ 2 ^ 63 := by exact_mod_cast h
    exact fun F2 N H e2 A Q q => ⟨m, j, rfl, rfl, .inl ⟨by omega, by omega⟩, q _ F2 H (Same.refl _) A ⟨_, rfl⟩⟩
theorem a_mod {m : Nat} (ha : Run (ta σ) F L IntV) (hb : Run (tb σ) F L (Dt K (.int (m : Nat)))) (h : 0 < m) : Run (tOp (rI (fun _ j => 0 < j) fun i j => .int (i % j)) ta tb σ) F L (Bd m) :=
  r_op ha hb fun x y F1 e ⟨i, hx⟩ hy => by
    subst hx; cases hy
    have h1 : (0 : Int) ≤ i % (m : Int) := Int.emod_nonneg _ (by omega)
    have h2 : i % (m : Int) < m := Int.emod_lt_of_pos _ (by omega)
    exact fun F2 N H e2 A Q q => ⟨i, m, rfl, rfl, by omega, q _ F2 H (Same.refl _) A ⟨(i % (m : Int)).toNat, by omega, by rw [Int.toNat_of_nonneg h1]⟩⟩
theorem a_modI {m : Int} (ha : Run (ta σ) F L IntV) (hb : Run (tb σ) F L (Dt K (.int m))) (h : 0 < m) : Run (tOp (rI (fun _ j => 0 < j) fun i j => .int (i % j)) ta tb σ) F L IntV :=
  r_op ha hb fun x y F1 e ⟨i, hx⟩ hy => by
    subst hx; cases hy
    exact fun F2 N H e2 A Q q => ⟨i, m, rfl, rfl, h, q _ F2 H (Same.refl _) A ⟨_, rfl⟩⟩
theorem a_div {m : Int} (ha : Run (ta σ) F L IntV) (hb : Run (tb σ) F L (Dt K (.int m))) (h : CDivW 0 m) : Run (tOp (rI CDivW fun i j => .int (i / j)) ta tb σ) F L IntV :=
  r_op ha hb fun x y F1 e ⟨i, hx⟩ hy => by
    subst hx; cases hy
    exact fun F2 N H e2 A Q q => ⟨i, m, rfl, rfl, h, q _ F2 H (Same.refl _) A ⟨_, rfl⟩⟩
theorem a_int (h : Run (t σ) F L (Each [IntV])) : Run (tCB rIntOf t σ) F L IntV := r_cb h fun vs F1 e1 hv => by
  obtain ⟨v, rfl, i, rfl⟩ := each1 hv
  exact fun F2 N H e2 A Q q => .inl ⟨i, rfl, q _ F2 H (Same.refl _) A ⟨i, rfl⟩⟩
theorem a_intB (h : Run (t σ) F L (Each [BoolV])) : Run (tCB rIntOf t σ) F L IntV := r_cb h fun vs F1 e1 hv => by
  obtain ⟨v, rfl, i, rfl⟩ := each1 hv
  exact fun F2 N H e2 A Q q => .inr ⟨i, rfl, q _ F2 H (Same.refl _) A ⟨_, rfl⟩⟩
theorem a_abs (h : Run (t σ) F L (Each [IntV])) : Run (tCB rAbs t σ) F L IntV := r_cb h fun vs F1 e1 hv => by
  obtain ⟨v, rfl, i, rfl⟩ := each1 hv
  exact fun F2 N H e2 A Q q => ⟨i, rfl, q _ F2 H (Same.refl _) A ⟨_, rfl⟩⟩
/-- a test of whatever truth -/
theorem a_test (h : Run (te σ) F L BoolV) : Run (tTest te σ) F L (fun _ _ => True) := run_bind (k := te σ) h fun x F1 e1 ⟨b, hx⟩ => by
  subst hx
  exact run_ex b (run_and (fun _ _ _ _ _ => rfl) (run_ret fun _ _ => True.intro))
theorem a_if (h : Run (tc σ) F L (fun _ _ => True)) (h1 : Run (ta σ) F L R) (h2 : Run (tb σ) F L R) : Run (tIf tc ta tb σ) F L R := run_bind (k := tc σ) h fun b F1 e1 _ => by
  cases b with
  | true => exact fun F2 N H e2 A Q q => iteT (h1 F2 N H (e1.trans e2) A Q q)
  | false => exact fun F2 N H e2 A Q q => iteF (h2 F2 N H (e1.trans e2) A Q q)
/-! bodies that hand their cells back -/
def RunT (t : TS) (σ : L2.St) (F : Hp) (L : Cells) (Rt : V → Hp → Cells → Prop) : Prop :=
  ∀ F1 N H, Same F F1 → At F1 (L ++ N) H → ∀ D : Ends, (∀ v F' L' H', Same F1 F' → At F' (L' ++ N) H' → Rt v F' L' → D.rt v H') → t D σ H
variable {Rt : V → Hp → Cells → Prop}
theorem u_assoc {t u w : TS} (h : RunT (tSeq t (tSeq u w)) σ F L Rt) : RunT (tSeq (tSeq t u) w) σ F L Rt := h
theorem u_next (h : RunT u σ F L Rt) : RunT (tSeq tNext u) σ F L Rt := h
theorem u_set (h : Run (te σ) F L R) (k : ∀ v F1, Same F F1 → R v F1 → RunT u (σ.set i (some v)) F1 L Rt) : RunT (tSeq (tAsg te (gName i)) u) σ F L Rt := fun F1 N H e A D r =>
  h F1 N H e A _ fun v F2 H2 e2 A2 hv => k v F2 (e.trans e2) hv F2 N H2 (Same.refl _) A2 D fun w F3 L3 H3 e3 A3 n => r w F3 L3 H3 (e2.trans e3) A3 n
theorem u_ret (h : Run (te σ) F L R) (k : ∀ v F1, Same F F1 → R v F1 → Rt v F1 L) : RunT (tRet te) σ F L Rt := fun F1 N H e A D r =>
  h F1 N H e A _ fun v F2 H2 e2 A2 hv => r v F2 L H2 e2 A2 (k v F2 (e.trans e2) hv)
theorem u_retq (h : Run (te σ) F L R) (k : ∀ v F1, Same F F1 → R v F1 → Rt v F1 L) : RunT (tSeq (tRet te) u) σ F L Rt := fun F1 N H e A D r =>
  h F1 N H e A _ fun v F2 H2 e2 A2 hv => r v F2 L H2 e2 A2 (k v F2 (e.trans e2) hv)
theorem u_if {t u w : TS} (h : Run (tc σ) F L (fun _ _ => True)) (h1 : RunT (tSeq t w) σ F L Rt) (h2 : RunT (tSeq u w) σ F L Rt) : RunT (tSeq (tIfS tc t u) w) σ F L Rt := fun F1 N H e A D r =>
  h F1 N H e A _ fun b F2 H2 e2 A2 _ => by
    cases b with
    | true => exact iteT (h1 F2 N H2 (e.trans e2) A2 D fun v F3 L3 H3 e3 A3 n => r v F3 L3 H3 (e2.trans e3) A3 n)
    | false => exact iteF (h2 F2 N H2 (e.trans e2) A2 D fun v F3 L3 H3 e3 A3 n => r v F3 L3 H3 (e2.trans e3) A3 n)
theorem u_setC [Mono R] {l : Addr} {xs : List V} {n : Nat} (hv : Run (te σ) F ((l, .lst xs) :: L) R) (ha : Run (ta σ) F ((l, .lst xs) :: L) (Eqv (.ref l))) (hb : Run (tb σ) F ((l, .lst xs) :: L) (Dt K (.int (n : Nat)))) (hn : n < xs.length)
    (k : ∀ v F1, Same F F1 → R v F1 → RunT u σ F1 ((l, .lst (xs.set n v)) :: L) Rt) : RunT (tSeq (tAsg te (gSub ta tb rSetL)) u) σ F ((l, .lst xs) :: L) Rt := fun F1 N H e A D r =>
  hv F1 N H e A _ fun v F2 H2 e2 A2 hvv => ha F2 N H2 (e.trans e2) A2 _ fun x F3 H3 e3 A3 hx => hb F3 N H3 ((e.trans e2).trans e3) A3 _ fun y F4 H4 e4 A4 hy => by
    cases hx
    cases hy
    refine ⟨l, xs, (n : Int), n, rfl, rfl, At.on1 A4, by unfold ixN; rw [if_pos (by omega), if_pos (by omega)]; simp, ?_⟩
    exact k v F4 (((e.trans e2).trans e3).trans e4) (Mono.go hvv (e3.trans e4)) F4 N _ (Same.refl _) (At.put A4) D fun w F5 L5 H5 e5 A5 n => r w F5 L5 H5 (((e2.trans e3).trans e4).trans e5) A5 n
end
section
variable {P : Program} {w : World} {K : PySem.W.Frag} {mg : Str → Option Value} {base : Heap}
theorem cell_ok {n : Nat} {x qual : Str} {st : Stmt} {f : Addr} {fd : FuncData} {N ps : List Str} {k : Nat} {γ : Type} {pre : γ → Prop} {Rs : γ → List VP} {R : γ → VP} (F : Fun K x qual st f fd) (S : FnScope N ps (defScope st)) (len : ∀ g, (Rs g).length + 1 = ps.length)
    (body : ∀ (cdv : Value) (A : Around) (outer : List Env) (s : Shared) (H : Hp) (E : XK) (g : γ) (a : Addr) (xs : List Int) (vs : List V) (F0 : Hp), Room k (A.deeper (envOfC qual (defScope st) s.heap.objs.size f cdv)) → pre g → xs.length = n → Each (Rs g) vs F0 →
      ∃ t, PSs (cxOf CX0 P w K mg base N qual (defScope st) f cdv A outer s H E).nox (defBody st) t ∧ RunT t (start N (.ref a :: vs)) F0 [(a, .lst (xs.map V.int))] (fun v F' L' => R g v F' ∧ ∃ xs' : List Int, xs'.length = n ∧ L' = [(a, .lst (xs'.map V.int))])) :
    FnOk P w K mg base CX0 (k + 1) f fd ps (SpC n pre Rs R) := by
  refine F.ok S (fun vs H Q E ⟨g, F0, N0, a, xs, ws, e, hp, hx, A, hv, q⟩ => ?_) fun cdv A outer s H vs Q E hr ⟨g, F0, N0, a, xs, ws, e, hp, hx, A0, hv, q⟩ => ?_
  · subst e
    rw [List.length_cons, each_length hv]; exact len g
  · subst e
    obtain ⟨t, h1, h2⟩ := body cdv A outer s H E g a xs ws F0 hr hp hx hv
    refine ⟨t, h1, h2 F0 N0 H (Same.refl _) A0 _ fun v F' L' H' e' A' ⟨hr, xs', hx', hl⟩ => ?_⟩
    subst hl
    exact q v F' H' xs' hx' e' A' hr
end
end Rs

/-! RsQ: runs of what is drawn. -/
namespace Rs
open PySem PySem.Spec PyProof.Rows L2 SlX StX Ma
def NatV : VP := fun v _ => ∃ n : Nat, v = .int n
instance : Mono NatV := ⟨fun _ _ _ _ h => h⟩
def OneD (K : PySem.W.Frag) (ds : List PyData) : VP := fun v F => ∃ d ∈ ds, Dt K d v F
instance {K : PySem.W.Frag} {ds : List PyData} : Mono (OneD K ds) := ⟨fun _ _ _ e ⟨d, h, h1⟩ => ⟨d, h, dp_up e h1⟩⟩
/-- a list of numbers of which P holds -/
def LsP (K : PySem.W.Frag) (P : List Nat → Prop) : VP := fun v F => ∃ ns, P ns ∧ Dt K (.list (ns.map nI)) v F
instance {K : PySem.W.Frag} {P : List Nat → Prop} : Mono (LsP K P) := ⟨fun _ _ _ e ⟨d, h, h1⟩ => ⟨d, h, dp_up e h1⟩⟩
def TpP (K : PySem.W.Frag) (P : List Nat → Prop) : VP := fun v F => ∃ ns, P ns ∧ Dt K (dRow ns) v F
instance {K : PySem.W.Frag} {P : List Nat → Prop} : Mono (TpP K P) := ⟨fun _ _ _ e ⟨d, h, h1⟩ => ⟨d, h, dp_up e h1⟩⟩
def RwP (K : PySem.W.Frag) (P : Rows → Prop) : VP := fun v F => ∃ rs, P rs ∧ Dt K (dRows rs) v F
instance {K : PySem.W.Frag} {P : Rows → Prop} : Mono (RwP K P) := ⟨fun _ _ _ e ⟨d, h, h1⟩ => ⟨d, h, dp_up e h1⟩⟩
theorem er_map {α β : Type} (f : α → β) : ∀ (l : List α) (j : Nat), (l.map f).eraseIdx j = (l.eraseIdx j).map f
  | [], _ => rfl
  | _ :: _, 0 => rfl
  | a :: l, j + 1 => by rw [List.map_cons, List.eraseIdx_cons_succ, List.eraseIdx_cons_succ, List.map_cons, er_map f l j]
section
variable {K : PySem.W.Frag} {σ : L2.St} {F : Hp} {L : Cells} {R S : VP} {ta tb te : TE} {t : TA} {q : List V → Hp → VK → Prop} {E : XK} {Nx : L2.St → Hp → Cells → Prop} {Rt : VP}
theorem r_cbV (h : Run (te σ) F L S) (k : ∀ v F1, Same F F1 → S v F1 → Run (tCB q (tCons (tC v) tNil) σ) F1 L R) : Run (tCB q (tCons te tNil) σ) F L R :=
  run_bind (k := te σ) h fun v F1 e hv => k v F1 e hv
theorem r_callE {γ : Type} {pre : γ → Prop} {Rs : γ → List VP} {R : γ → VP} (hm : ∀ g, MonoL (Rs g)) (h : Run (t σ) F L (fun vs F1 => ∃ g, pre g ∧ Each (Rs g) vs F1)) : Run (tCall (SpF pre Rs R) [] E t σ) F L (fun v F1 => ∃ g, pre g ∧ R g v F1) := run_bind (k := t σ) h fun vs F1 e1 ⟨g, hp, hv⟩ => by
  have hm := hm g
  have h2 := sp_run (R := R) (E := E) (L := L) hp hv
  rw [← List.append_nil vs] at h2
  exact Run.weak h2 fun v F2 _ hr => ⟨g, hp, hr⟩
theorem r_ixBd {ds : List PyData} {n : Nat} (hn : n = ds.length) (ha : Run (ta σ) F L (Dt K (.list ds))) (hb : Run (tb σ) F L (Bd n)) : Run (tOp (rIxL K) ta tb σ) F L (OneD K ds) :=
  r_op ha hb fun x y F1 e hx ⟨m, hm, hy⟩ => by
    subst hy
    have hd : ds[m]? = some (ds[m]'(by omega)) := List.getElem?_eq_getElem (by omega)
    have q := r_ixL (ta := tC x) (tb := tC (.int (m : Int))) (σ := σ) (F := F1) (L := L) (r_c (R := Dt K (.list ds)) hx) (r_c (R := Dt K (.int (m : Nat))) (.int _)) hd
    exact Run.weak q fun v F2 _ hv => ⟨_, List.getElem_mem _, hv⟩
/-- list(l), for oneself -/
theorem x_listN {ns : List Nat} (h : Run (te σ) F L (Dt K (.list (ns.map nI)))) : RunX (tCB (rListOf K) (tCons te tNil) σ) F L (fun v F1 L1 => ∃ p, v = .ref p ∧ L1 = (p, .lst (vN ns)) :: L) := fun F1 N H e A Q q =>
  h F1 N H e A _ fun v F2 H2 e2 A2 hv => by
    obtain ⟨a, vs, rfl, hs, hr⟩ := ls_dt.mpr hv
    rw [cI_nat] at hr
    have := vs_ints (each_dt.mp hr)
    subst this
    refine ⟨a, _, rfl, .inl (sqL_up A2.ex hs), fun p hp => ?_⟩
    have e1 : (cI ns).map V.int = vN ns := by rw [List.map_map]; rfl
    rw [e1]
    exact q _ F2 ((p, .lst (vN ns)) :: L) _ e2 (A2.cell hp) ⟨p, rfl, rfl⟩
where
  cI_nat {ns : List Nat} : (ns.map nI) = (cI ns).map PyData.int := row_int
theorem er_perm {α : Type} : ∀ (l : List α) (n : Nat) (h : n < l.length), (l[n] :: l.eraseIdx n).Perm l
  | a :: l, 0, _ => List.Perm.refl _
  | a :: l, n + 1, h => by
    rw [List.eraseIdx_cons_succ, List.getElem_cons_succ]
    exact (List.Perm.swap _ _ _).trans ((er_perm l n (by simpa using h)).cons a)
theorem x_weak {α : Type} {k : Hp → (α → Hp → Prop) → Prop} {P P' : α → Hp → Cells → Prop} (h : RunX k F L P) (hp : ∀ v F1 L1, P v F1 L1 → ∃ L2, L1.Perm L2 ∧ P' v F1 L2) : RunX k F L P' := fun F1 N H e A Q q =>
  h F1 N H e A Q fun v F2 L2 H2 e2 A2 hv => by
    obtain ⟨L3, pm, h3⟩ := hp v F2 L2 hv
    exact q v F2 L3 H2 e2 (A2.perm (List.Perm.append_right N pm)) h3
theorem s_appX {l : Addr} {xs : List V} {S : V → Hp → Cells → Prop} (hl : Run (ta σ) F ((l, .lst xs) :: L) (Eqv (.ref l))) (h : RunX (te σ) F ((l, .lst xs) :: L) (fun v F1 L1 => ∃ L2, L1 = (l, .lst xs) :: L2 ∧ S v F1 L2)) (hz : xs.length < 100000)
    (k : ∀ v F1 L2, Same F F1 → S v F1 L2 → Nx σ F1 ((l, .lst (xs ++ [v])) :: L2)) : RunS (tDrop (tBM K "list" rAppend ta (tCons te tNil))) σ F ((l, .lst xs) :: L) Nx Rt := fun F1 N H e A D q r =>
  hl F1 N H e A _ fun v F2 H2 e2 A2 hv => by
    cases hv
    refine ⟨.inl ⟨rfl, xs, .inl (.inl (At.on1 A2))⟩, ?_⟩
    refine h F2 N H2 (e.trans e2) A2 _ fun v F3 L3 H3 e3 A3 ⟨L2, hL, hv⟩ => ?_
    subst hL
    refine ⟨l, xs, v, rfl, rfl, At.on1 A3, len_lt hz, ?_⟩
    exact q _ F3 _ _ (e2.trans e3) (At.put A3) (k v F3 L2 ((e.trans e2).trans e3) hv)
theorem x_popBd {l : Addr} {ns : List Nat} {m : Nat} (hm : m = ns.length) (hl : Run (te σ) F ((l, .lst (vN ns)) :: L) (Eqv (.ref l))) (hi : Run (t σ) F ((l, .lst (vN ns)) :: L) (Each [Bd m])) (hz : ns.length < 100000) :
    RunX (tBM K "list" rPopAt te t σ) F ((l, .lst (vN ns)) :: L) (fun v F1 L1 => ∃ (n y : Nat), n < ns.length ∧ ns[n]? = some y ∧ v = .int y ∧ L1 = (l, .lst (vN (ns.eraseIdx n))) :: L) := fun F1 N H e A Q q =>
  hl F1 N H e A _ fun v F2 H2 e2 A2 hv => by
    cases hv
    refine ⟨.inl ⟨rfl, _, .inl (.inl (At.on1 A2))⟩, hi F2 N H2 (e.trans e2) A2 _ fun vs F3 H3 e3 A3 hvs => ?_⟩
    obtain ⟨v, rfl, n, hn, rfl⟩ := each1 hvs
    have hlt : n < ns.length := by omega
    have hv : (vN ns).length = ns.length := List.length_map _
    refine ⟨l, vN ns, (n : Int), n, .int (ns[n] : Nat), rfl, rfl, At.on1 A3, by omega, by omega, ?_, by rw [List.getElem?_map, List.getElem?_eq_getElem hlt]; rfl, ?_⟩
    · exact (ixN_seq (by unfold ixN; rw [if_pos (by omega), if_pos (by omega)]; simp)).1
    · have e5 : (vN ns).eraseIdx n = vN (ns.eraseIdx n) := by exact (er_map _ ns n)
      rw [e5]
      exact q _ F3 ((l, .lst (vN (ns.eraseIdx n))) :: L) _ (e2.trans e3) (At.put A3) ⟨n, ns[n], hlt, List.getElem?_eq_getElem hlt, rfl, rfl⟩
theorem r_minN {i : Nat} (h : Run (t σ) F L (Each [Dt K (nI i), NatV])) : Run (tCB rMin2 t σ) F L NatV := r_cb h fun vs F1 e1 hv => by
  obtain ⟨v, u, rfl, h1, n, rfl⟩ := each2 hv
  cases h1
  refine fun F2 N H e2 A Q q => ⟨i, n, rfl, ?_⟩
  split
  · exact q _ F2 H (Same.refl _) A ⟨n, rfl⟩
  · exact q _ F2 H (Same.refl _) A ⟨i, rfl⟩
theorem r_min2N {i j : Nat} (h : Run (t σ) F L (Each [Dt K (nI i), Dt K (nI j)])) : Run (tCB rMin2 t σ) F L (Dt K (nI (min i j))) := r_cb h fun vs F1 e1 hv => by
  obtain ⟨v, u, rfl, h1, h2⟩ := each2 hv
  cases h1; cases h2
  refine fun F2 N H e2 A Q q => ⟨i, j, rfl, ?_⟩
  by_cases hji : (j : Int) < i
  · rw [if_pos hji, show ((j : Nat) : Int) = ((min i j : Nat) : Int) from by omega]
    exact q _ F2 H (Same.refl _) A (.int _)
  · rw [if_neg hji, show ((i : Nat) : Int) = ((min i j : Nat) : Int) from by omega]
    exact q _ F2 H (Same.refl _) A (.int _)
theorem r_max2N {i j : Nat} (h : Run (t σ) F L (Each [Dt K (nI i), Dt K (nI j)])) : Run (tCB rMax2 t σ) F L (Dt K (nI (max i j))) := r_cb h fun vs F1 e1 hv => by
  obtain ⟨v, u, rfl, h1, h2⟩ := each2 hv
  cases h1; cases h2
  refine fun F2 N H e2 A Q q => ⟨i, j, rfl, ?_⟩
  by_cases hji : (j : Int) > i
  · rw [if_pos hji, show ((j : Nat) : Int) = ((max i j : Nat) : Int) from by omega]
    exact q _ F2 H (Same.refl _) A (.int _)
  · rw [if_neg hji, show ((i : Nat) : Int) = ((max i j : Nat) : Int) from by omega]
    exact q _ F2 H (Same.refl _) A (.int _)
/-- l == [], l != [] -/
theorem eqv_nil {xs : List Nat} : PyData.eqv (.list (xs.map nI)) (.list []) = decide (xs = []) := by
  cases xs with
  | nil => rfl
  | cons a l => rw [List.map_cons, PyData.eqv, PyData.eqvAll]; simp
theorem sh_listN {xs : List Nat} : SeqAt.shaped (.list (xs.map nI)) = true := by rw [show xs.map nI = (cI xs).map PyData.int from row_int]; exact sh_listI
theorem r_eqNil {xs : List Nat} (ha : Run (ta σ) F L (Dt K (.list (xs.map nI)))) : Run (tOp (rEqD K) ta (tLst tNil) σ) F L (Dt K (.bool (decide (xs = [])))) :=
  r_is (r_eqD (e := .list []) ha (r_lnD (α := Nat) (xs := []) (f := nI) (r_lst (Rs := []) r_nil (by decide))) sh_listN (sh_listN (xs := []))) (congrArg PyData.bool eqv_nil)
theorem r_neNil {xs : List Nat} (ha : Run (ta σ) F L (Dt K (.list (xs.map nI)))) : Run (tOp (rNeD K) ta (tLst tNil) σ) F L (Dt K (.bool (!decide (xs = [])))) :=
  r_is (r_neD (e := .list []) ha (r_lnD (α := Nat) (xs := []) (f := nI) (r_lst (Rs := []) r_nil (by decide))) sh_listN (sh_listN (xs := []))) (congrArg (fun b => PyData.bool (!b)) eqv_nil)
end
theorem asc_of {fs : List Nat} (h : fs.Nodup) : ∃ os : List Nat, os.Perm fs ∧ Asc os := by
  refine ⟨fs.mergeSort (fun a b => decide (a ≤ b)), List.mergeSort_perm _ _, ?_⟩
  have h1 := List.pairwise_mergeSort (le := fun (a b : Nat) => decide (a ≤ b)) (fun a b c h1 h2 => by
    simp only [decide_eq_true_eq] at *; omega) (fun a b => by
    simp only [Bool.or_eq_true, decide_eq_true_eq]; omega) fs
  have h2 : (fs.mergeSort (fun a b => decide (a ≤ b))).Nodup := (List.mergeSort_perm _ _).nodup_iff.mpr h
  exact h1.imp₂ (fun a b x y => by have := of_decide_eq_true x; omega) h2
end Rs

/-! RsR: lists of webs. -/
namespace Rs
open PySem PySem.Spec PyProof.Rows L2 SlX StX Ma
/-- a list of webs of which P holds -/
def WsP (C : Addr) (K : PySem.W.Frag) (P : List Rows → Prop) : VP := fun v F => ∃ l, P l ∧ Ln (l.map fun r => webP C K r) v F
instance {C : Addr} {K : PySem.W.Frag} {P : List Rows → Prop} : Mono (WsP C K P) := ⟨fun _ _ _ e ⟨l, h, h1⟩ => ⟨l, h, Mono.go h1 e⟩⟩
def WbP (C : Addr) (K : PySem.W.Frag) (P : Rows → Prop) : VP := fun v F => ∃ r, P r ∧ webP C K r v F
instance {C : Addr} {K : PySem.W.Frag} {P : Rows → Prop} : Mono (WbP C K P) := ⟨fun _ _ _ e ⟨l, h, h1⟩ => ⟨l, h, Mono.go h1 e⟩⟩
def NumP (P : Nat → Prop) : VP := fun v _ => ∃ n : Nat, P n ∧ v = .int n
instance {P : Nat → Prop} : Mono (NumP P) := ⟨fun _ _ _ _ h => h⟩
section
variable {K : PySem.W.Frag} {σ : L2.St} {F : Hp} {L : Cells} {R S : VP} {ta tb te : TE} {t : TA} {E : XK} {C : Addr}
theorem r_addBd {c m : Nat} (ha : Run (ta σ) F L (Dt K (.int (c : Nat)))) (hb : Run (tb σ) F L (Bd m)) : Run (tOp (rI0 fun i j => .int (i + j)) ta tb σ) F L (NumP fun n => c ≤ n ∧ n < c + m) :=
  r_op ha hb fun x y F1 e hx ⟨k, hk, hy⟩ => by
    cases hx; subst hy
    exact fun F2 N H e2 A Q q => ⟨c, k, rfl, rfl, q _ F2 H (Same.refl _) A ⟨c + k, ⟨by omega, by omega⟩, by rw [Int.natCast_add]⟩⟩
theorem r_repW {rs : Rows} {P : Nat → Prop} (ha : Run (ta σ) F L (webP C K rs)) (hb : Run (tb σ) F L (NumP P)) (hm : ∀ m, P m → m ≤ 50) : Run (tOp rRep (tLst (tCons ta tNil)) tb σ) F L (WsP C K fun l => ∃ m, P m ∧ l = List.replicate m rs) :=
  r_op (r_lst (Rs := [webP C K rs]) (r_cons ha r_nil) (by show 1 ≤ 100000; decide)) hb fun x y F1 e hx ⟨m, hp, hy⟩ => by
    subst hy
    have h50 := hm m hp
    obtain ⟨a, vs, rfl, hs, hr⟩ := hx
    obtain ⟨v, rfl, hv⟩ := each1 hr
    refine fun F2 N H e2 A Q q => ⟨a, (m : Int), [v], rfl, rfl, A.ex _ _ (e2 _ _ hs), by omega, by omega, by rw [sizeLine_eq]; simp; omega, fun p hp' => ?_⟩
    refine q _ (upd F2 p _) _ (same_new (A.free hp')) (A.new hp') ⟨_, ⟨m, hp, rfl⟩, p, _, rfl, upd_same, ?_⟩
    have h1 := each_rep (f := fun r => webP C K r) (xs := [rs]) (vs := [v]) ⟨Mono.go hv (e2.trans (same_new (o := .lst (List.replicate (m : Int).toNat [v]).flatten) (A.free hp'))), True.intro⟩ m
    rw [rep_flat] at h1
    rw [Int.toNat_natCast] at h1 ⊢
    exact h1
theorem r_one {P : Rows → Prop} (h : Run (te σ) F L (WbP C K P)) : Run (tLst (tCons te tNil) σ) F L (WsP C K fun l => ∃ q, P q ∧ l = [q]) :=
  Run.weak (r_lst (Rs := [WbP C K P]) (r_cons h r_nil) (by show 1 ≤ 100000; decide)) fun v F1 e hv => by
    obtain ⟨a, vs, rfl, hs, hr⟩ := hv
    obtain ⟨u, rfl, r, hp, hr⟩ := each1 hr
    exact ⟨[r], ⟨r, hp, rfl⟩, a, _, rfl, hs, hr, True.intro⟩
theorem r_catW {P1 P2 : List Rows → Prop} (ha : Run (ta σ) F L (WsP C K P1)) (hb : Run (tb σ) F L (WsP C K P2)) (h : ∀ l1 l2, P1 l1 → P2 l2 → l1.length + l2.length ≤ 10000) : Run (tOp rCat ta tb σ) F L (WsP C K fun l => ∃ l1 l2, P1 l1 ∧ P2 l2 ∧ l = l1 ++ l2) :=
  r_op ha hb fun x y F1 e ⟨l1, p1, hx⟩ ⟨l2, p2, hy⟩ =>
    Run.weak (r_cat (f := fun r => webP C K r) (ta := tC x) (tb := tC y) (σ := σ) (r_c hx) (r_c hy) (h l1 l2 p1 p2)) fun v F2 e2 hv => ⟨l1 ++ l2, ⟨l1, l2, p1, p2, rfl⟩, hv⟩
theorem r_takeW {l : List Rows} {n : Nat} (ha : Run (ta σ) F L (Ln (l.map fun r => webP C K r))) (hb : Run (tb σ) F L (Dt K (nI n))) (hn : n ≤ l.length) : Run (L2.tSl (rSlL K) ta tNoPart (tPart tb) σ) F L (WsP C K fun m => m = l.take n) := Run.weak (r_slTake ha hb hn) fun v F1 e hv => ⟨_, rfl, hv⟩
theorem r_dropW {l : List Rows} {n : Nat} (ha : Run (ta σ) F L (Ln (l.map fun r => webP C K r))) (hb : Run (tb σ) F L (Dt K (nI n))) (hn : n ≤ l.length) : Run (L2.tSl (rSlL K) ta (tPart tb) tNoPart σ) F L (WsP C K fun m => m = l.drop n) := Run.weak (r_slDrop ha hb hn) fun v F1 e hv => ⟨_, rfl, hv⟩
theorem r_wsE {l : List Rows} (h : Run (te σ) F L (WsP C K fun m => m = l)) : Run (te σ) F L (Ls K (l.map fun r => webP C K r)) := h.weak fun v F1 e ⟨m, hm, hv⟩ => by
  subst hm
  exact Ln.ls hv
theorem r_mkE {P : Rows → Prop} {pre : Rows → Prop} {R : Rows → VP} (hp : ∀ r, P r → pre r) (h : Run (te σ) F L (RwP K P)) : Run (tMake C (SpI C pre (fun rs => [Dt K (dRows rs)]) R) [] E (tCons te tNil) σ) F L (fun v F1 => ∃ r, P r ∧ R r v F1) :=
  run_bind (k := te σ) h fun v F1 e ⟨r, hP, hv⟩ => Run.weak (r_mk (E := E) (tt := tCons (tC v) tNil) (σ := σ) (pre := pre) (Rs := fun rs => [Dt K (dRows rs)]) (R := R) r (hp r hP) (r_cons (r_c hv) r_nil)) fun v F2 e2 hr => ⟨r, hP, hr⟩
theorem r_notInL {i : Nat} {r : List Nat} (ha : Run (ta σ) F L (Dt K (nI i))) (hb : Run (tb σ) F L (Dt K (.list (r.map nI)))) : Run (tOp (rIn K true) ta tb σ) F L (Dt K (.bool (!decide (i ∈ r)))) :=
  r_is (r_notIn ha hb fun v F1 h => seqI_l (ns := cI r) (by rw [← row_int]; exact h)) (congrArg (fun b => PyData.bool (!b)) (decide_eq_decide.mpr mem_cI))
theorem r_neRow {a b : List Nat} (ha : Run (ta σ) F L (Dt K (dRow a))) (hb : Run (tb σ) F L (Dt K (dRow b))) (s1 : SeqAt.shaped (dRow a) = true) (s2 : SeqAt.shaped (dRow b) = true) (e : PyData.eqv (dRow a) (dRow b) = decide (a = b)) : Run (tOp (rNeD K) ta tb σ) F L (Dt K (.bool (!decide (a = b)))) :=
  r_is (r_neD ha hb s1 s2) (congrArg (fun b => PyData.bool (!b)) e)
/-! a for over what is drawn -/
variable {Nx : L2.St → Hp → Cells → Prop} {Rt : VP} {tb' u : TS} {g : TG} {wi : TI}
theorem q_forE {ι : Type} {P : ι → Prop} {Rs : ι → List VP} (Inv : Nat → L2.St → Hp → Cells → Prop) (h : Run (wi σ) F L (fun J F1 => ∃ k, P k ∧ Seqs J (Rs k) F1)) (h0 : ∀ F1, Same F F1 → Inv 0 σ F1 L)
    (hup : ∀ i σ' F1 F2 L', Same F1 F2 → Inv i σ' F1 L' → Inv i σ' F2 L')
    (hs : ∀ k, P k → ∀ i R x σ' F' L', Same F F' → (Rs k)[i]? = some R → R x F' → Inv i σ' F' L' → RunS (bindG g x tb') σ' F' L' (Inv (i + 1)) Rt)
    (hd : ∀ k, P k → ∀ σ' F' L', Same F F' → Inv (Rs k).length σ' F' L' → RunS u σ' F' L' Nx Rt) : RunS (tSeq (tFor wi g tb') u) σ F L Nx Rt := fun F1 N H e A D q r =>
  h F1 N H e A _ fun J F2 H2 e2 A2 ⟨k, hp, G, Y, wk, hG, hY⟩ => by
    refine for_it wk (D := { D with nx := u D }) (fun i σ' H' => ∃ F' L', Same F2 F' ∧ At F' (L' ++ N) H' ∧ Inv i σ' F' L') ⟨F2, L, Same.refl _, A2, h0 F2 (e.trans e2)⟩ (fun i σ' H' _ ⟨F', L', e', A', _⟩ => hG F' (L' ++ N) H' e' A') ?_ ?_
    · rintro i x σ' H3 H4 hi ⟨F', L', e', A', I⟩ y
      obtain ⟨F3, R, e3, A3, hR, hx⟩ := hY F' (L' ++ N) H3 i x H4 e' A' hi y
      exact hs k hp i R x σ' F3 L' (((e.trans e2).trans e').trans e3) hR hx (hup i σ' F' F3 L' e3 I) F3 N H4 (Same.refl _) A3 { D with nx := fun σ' H' => ∃ F' L', Same F2 F' ∧ At F' (L' ++ N) H' ∧ Inv (i + 1) σ' F' L', ct := fun σ' H' => ∃ F' L', Same F2 F' ∧ At F' (L' ++ N) H' ∧ Inv (i + 1) σ' F' L', bk := u D }
        (fun σ5 F5 L5 H5 e5 A5 n => ⟨F5, L5, (e'.trans e3).trans e5, A5, n⟩) fun w F5 H5 e5 A5 n => r w F5 H5 (((e2.trans e').trans e3).trans e5) A5 n
    · rintro σ' H3 ⟨F', L', e', A', I⟩
      exact hd k hp σ' F' L' ((e.trans e2).trans e') I F' N H3 (Same.refl _) A' D (fun σ5 F5 L5 H5 e5 A5 n => q σ5 F5 L5 H5 ((e2.trans e').trans e5) A5 n) fun w F5 H5 e5 A5 n => r w F5 H5 ((e2.trans e').trans e5) A5 n
theorem i_rangeBd {m : Nat} (h : Run (te σ) F L (Bd m)) (hm : m ≤ 1000) : Run (iRng1 (tCons te tNil) σ) F L (fun J F1 => ∃ k, k < m ∧ Seqs J ((List.range k).map fun i => Dt K (nI i)) F1) :=
  run_bind (k := te σ) h fun v F1 e ⟨k, hk, hv⟩ => by
    subst hv
    exact Run.weak (i_rangeN (te := tC (.int (k : Int))) (σ := σ) (r_c (R := Dt K (nI k)) (.int _)) (by omega)) fun J F2 e2 hJ => ⟨k, hk, hJ⟩
end
end Rs

namespace Wb
open PySem PySem.Spec PyProof.Rows L2 SlX StX Rs
local macro_rules | `(tactic| walk_at "rr") => `(tactic| (first
  | exact r_nil | exact r_int | exact r_bl | exact r_str
  | (refine r_var rfl ?_; assumption)
  | exact r_c rfl
  | (refine r_cons ?_ ?_ <;> walk_at "rr")))
def topS (i : Nat) : Stmt := PySem.Challenge.pw_rootshared_k02_whole_roots_and_rounds.main.body.getD i (.Pass ⟨0, 0, 0, 0⟩)
/-! ### numbers -/
def isInt : PyData → Bool
  | .int i => decide (-(10 ^ 60) < i) && decide (i < 10 ^ 60)
  | _ => false
def isBt (d : PyData) (lo hi : Int) : Bool := isInt d && match d with
  | .int i => decide (lo ≤ i) && decide (i ≤ hi)
  | _ => false
def toI : PyData → Int
  | .int i => i
  | _ => 0
def few : PyData → Prop
  | .tuple ds => ds.length ≤ 60
  | _ => True
def isRising (d : PyData) (lo hi : Int) : Bool := match d with
  | .tuple ds => ds.all (fun x => isBt x lo hi) && decide ((ds.map toI).Pairwise (· < ·))
  | _ => false
section
variable {P : Program} {w : World} {K : PySem.W.Frag} {mg : Str → Option Value} {base : Heap}
abbrev spIsInteger (K : PySem.W.Frag) : Sp := SpF (γ := PyData) (fun _ => True) (fun d => [Dt K d]) (fun d => Dt K (.bool (isInt d)))
-- is_integer: 0:value
abbrev s_is_integer : Stmt := topS 8
abbrev N_is_integer : List Str := ["value"]
theorem sc_is_integer : FnScope N_is_integer ["value"] (defScope s_is_integer) := ⟨rfl, rfl, rfl, by decide +kernel, rfl, by decide +kernel, by decide +kernel⟩
theorem ok_is_integer {f : Addr} {fd : FuncData} (B : Bf mg) (g_GREATEST : GInt mg "GREATEST" (10 ^ 60)) (F : Fun K "is_integer" "is_integer" s_is_integer f fd) (hm : mg "is_integer" = some (.ref f)) (b : Binds K fd ["value"] []) : Gf P w K mg base 1 "is_integer" (spIsInteger K) := by
  refine gf_mk F hm b sc_is_integer (fun _ => rfl) fun cdv A outer s H E d vs F0 hr hp hv => ?_
  obtain ⟨v, rfl, h1⟩ := each1 hv
  refine ⟨_, (pss_one (ps_ret (pe_and (p_isi B (pa_cons (pv 0) (pa_cons (p_ty (by rfl) B.int boot_int) pa_nil))) (pe_and (pe_not (p_isi B (pa_cons (pv 0) (pa_cons (p_ty (by rfl) B.bool boot_bool) pa_nil)))) (pe_one (pe_chain op_lt op_lt (pe_un un_neg (p_gint g_GREATEST)) (pv 0) (p_gint g_GREATEST))))))), ?_⟩
  refine s_ret ?_
  cases d with
  | int i => exact r_is (r_and (r_isiD (b := true) (by walk_at "rr") (by dsimp only [tyName]; decide +kernel)) fun _ => r_and (r_not (r_isiD (b := false) (by walk_at "rr") (by dsimp only [tyName]; decide +kernel))) fun _ => r_chain (r_U r_int) (by walk_at "rr") r_int) rfl
  | bool i => exact r_is (r_and (b := false) (r_isiD (b := true) (by walk_at "rr") (by dsimp only [tyName]; decide +kernel)) fun _ => r_is (r_and (b := false) (r_not (r_isiD (b := true) (by walk_at "rr") (by dsimp only [tyName]; decide +kernel))) fun h => nomatch h) rfl) rfl
  | none => exact r_is (r_and (b := false) (r_isiD (b := false) (by walk_at "rr") (by dsimp only [tyName]; decide +kernel)) fun h => nomatch h) rfl
  | str x => exact r_is (r_and (b := false) (r_isiD (b := false) (by walk_at "rr") (by dsimp only [tyName]; decide +kernel)) fun h => nomatch h) rfl
  | list x => exact r_is (r_and (b := false) (r_isiD (b := false) (by walk_at "rr") (by dsimp only [tyName]; decide +kernel)) fun h => nomatch h) rfl
  | tuple x => exact r_is (r_and (b := false) (r_isiD (b := false) (by walk_at "rr") (by dsimp only [tyName]; decide +kernel)) fun h => nomatch h) rfl
  | dict x => exact r_is (r_and (b := false) (r_isiD (b := false) (by walk_at "rr") (by dsimp only [tyName]; decide +kernel)) fun h => nomatch h) rfl
theorem isInt_shape {d : PyData} (h : isInt d = true) : ∃ i, d = .int i ∧ -(10 ^ 60) < i ∧ i < 10 ^ 60 := by
  cases d with
  | int i =>
    rw [isInt, Bool.and_eq_true] at h
    exact ⟨i, rfl, of_decide_eq_true h.1, of_decide_eq_true h.2⟩
  | _ => cases h
abbrev spIsBetween (K : PySem.W.Frag) : Sp := SpF (γ := PyData × Int × Int) (fun _ => True) (fun g => [Dt K g.1, Dt K (.int g.2.1), Dt K (.int g.2.2)]) (fun g => Dt K (.bool (isBt g.1 g.2.1 g.2.2)))
-- is_between: 0:value 1:low 2:high
abbrev s_is_between : Stmt := topS 9
abbrev N_is_between : List Str := ["value", "low", "high"]
theorem sc_is_between : FnScope N_is_between ["value", "low", "high"] (defScope s_is_between) := ⟨rfl, rfl, rfl, by decide +kernel, rfl, by decide +kernel, by decide +kernel⟩
theorem ok_is_between {f : Addr} {fd : FuncData} (c_is_integer : Gf P w K mg base 1 "is_integer" (spIsInteger K)) (F : Fun K "is_between" "is_between" s_is_between f fd) (hm : mg "is_between" = some (.ref f)) (b : Binds K fd ["value", "low", "high"] []) : Gf P w K mg base 2 "is_between" (spIsBetween K) := by
  refine gf_mk F hm b sc_is_between (fun _ => rfl) fun cdv A outer s H E ⟨d, lo, hi⟩ vs F0 hr hp hv => ?_
  obtain ⟨v, v1, v2, rfl, h1, h2, h3⟩ := each3 hv
  refine ⟨_, (pss_one (ps_ret (pe_and (p_call c_is_integer hr (by decide) (pa_cons (pv 0) pa_nil)) (pe_one (pe_chain op_le op_le (pv 1) (pv 0) (pv 2)))))), ?_⟩
  refine s_ret (r_and (r_call d True.intro (by walk_at "rr")) fun h => ?_)
  obtain ⟨i, rfl, _⟩ := isInt_shape h
  exact r_chain (by walk_at "rr") (by walk_at "rr") (by walk_at "rr")
abbrev spRequireNumber (K : PySem.W.Frag) : Sp := SpF (γ := PyData × Int × Int) (fun g => isBt g.1 g.2.1 g.2.2 = true) (fun g => [Dt K g.1, Dt K (.int g.2.1), Dt K (.int g.2.2)]) (fun g => Dt K .none)
-- require_number: 0:value 1:low 2:high
abbrev s_require_number : Stmt := topS 10
abbrev N_require_number : List Str := ["value", "low", "high"]
theorem sc_require_number : FnScope N_require_number ["value", "low", "high"] (defScope s_require_number) := ⟨rfl, rfl, rfl, by decide +kernel, rfl, by decide +kernel, by decide +kernel⟩
theorem ok_require_number {f : Addr} {fd : FuncData} (c_is_between : Gf P w K mg base 2 "is_between" (spIsBetween K)) (F : Fun K "require_number" "require_number" s_require_number f fd) (hm : mg "require_number" = some (.ref f)) (b : Binds K fd ["value", "low", "high"] []) : Gf P w K mg base 3 "require_number" (spRequireNumber K) := by
  refine gf_mk F hm b sc_require_number (fun _ => rfl) fun cdv A outer s H E ⟨d, lo, hi⟩ vs F0 hr hp hv => ?_
  obtain ⟨v, v1, v2, rfl, h1, h2, h3⟩ := each3 hv
  refine ⟨_, (pss_one (ps_if (pt_not (pt_val (p_call c_is_between hr (by decide) (pa_cons (pv 0) (pa_cons (pv 1) (pa_cons (pv 2) pa_nil))))))
        (pss_one ps_never)
        pss_nil)), ?_⟩
  refine s_if (t_not (t_B (r_call (d, lo, hi) True.intro (by walk_at "rr")))) (fun h => ?_) fun h => s_next fun F1 e => .non
  rw [show isBt (d, lo, hi).1 (d, lo, hi).2.1 (d, lo, hi).2.2 = true from hp] at h
  cases h
abbrev spIsRising (K : PySem.W.Frag) : Sp := SpF (γ := PyData × Int × Int) (fun g => few g.1) (fun g => [Dt K g.1, Dt K (.int g.2.1), Dt K (.int g.2.2)]) (fun g => Dt K (.bool (isRising g.1 g.2.1 g.2.2)))
theorem all_ints {ds : List PyData} {lo hi : Int} (h : ds.all (fun x => isBt x lo hi) = true) : ds = (ds.map toI).map .int := by
  induction ds with
  | nil => rfl
  | cons d ds ih =>
    rw [List.all_cons, Bool.and_eq_true] at h
    have h1 := h.1
    unfold isBt at h1
    rw [Bool.and_eq_true] at h1
    obtain ⟨i, rfl, _⟩ := isInt_shape h1.1
    rw [List.map_cons, List.map_cons, ← ih h.2]
    rfl
/-- the members of a row, ascending -/
noncomputable def ascOf (ns : List Int) : List Int := (ns.mergeSort (fun a b => decide (a ≤ b))).eraseDups
theorem insert_asc (n : Int) : ∀ os : List Int, os.Pairwise (· < ·) → ∃ qs : List Int, qs.Pairwise (· < ·) ∧ ∀ k, k ∈ qs ↔ k = n ∨ k ∈ os
  | [], _ => ⟨[n], List.pairwise_singleton _ _, by simp⟩
  | o :: os, h => by
    obtain ⟨h1, h2⟩ := List.pairwise_cons.mp h
    rcases Int.lt_trichotomy n o with c | c | c
    · exact ⟨n :: o :: os, List.pairwise_cons.mpr ⟨fun x hx => by
        rcases List.mem_cons.mp hx with z | z
        · exact z ▸ c
        · exact Int.lt_trans c (h1 x z), h⟩, by simp⟩
    · exact ⟨o :: os, h, by subst c; simp⟩
    · obtain ⟨qs, q1, q2⟩ := insert_asc n os h2
      refine ⟨o :: qs, List.pairwise_cons.mpr ⟨fun x hx => ?_, q1⟩, fun k => ?_⟩
      · rcases (q2 x).mp hx with z | z
        · exact z ▸ c
        · exact h1 x z
      · rw [List.mem_cons, q2, List.mem_cons]
        constructor
        · rintro (z | z | z)
          · exact .inr (.inl z)
          · exact .inl z
          · exact .inr (.inr z)
        · rintro (z | z | z)
          · exact .inr (.inl z)
          · exact .inl z
          · exact .inr (.inr z)
theorem asc_ex : ∀ ns : List Int, ∃ os : List Int, os.Pairwise (· < ·) ∧ ∀ k, k ∈ os ↔ k ∈ ns
  | [] => ⟨[], .nil, by simp⟩
  | n :: ns => by
    obtain ⟨os, h1, h2⟩ := asc_ex ns
    obtain ⟨qs, q1, q2⟩ := insert_asc n os h1
    exact ⟨qs, q1, fun k => by rw [q2, h2, List.mem_cons]⟩
theorem asc_one {os ps : List Int} (h1 : os.Pairwise (· < ·)) (h2 : ps.Pairwise (· < ·)) (h : ∀ k, k ∈ os ↔ k ∈ ps) : os = ps :=
  List.Perm.eq_of_pairwise (le := (· < ·)) (fun a b _ _ x y => absurd x (Int.lt_asymm y)) h1 h2 ((List.perm_ext_iff_of_nodup (h1.imp fun x => Int.ne_of_lt x) (h2.imp fun x => Int.ne_of_lt x)).mpr h)
-- is_rising: 0:value 1:low 2:high 3:number
abbrev s_is_rising : Stmt := topS 11
abbrev N_is_rising : List Str := ["value", "low", "high", "number"]
theorem sc_is_rising : FnScope N_is_rising ["value", "low", "high"] (defScope s_is_rising) := ⟨rfl, rfl, rfl, by decide +kernel, rfl, by decide +kernel, by decide +kernel⟩
theorem ok_is_rising {f : Addr} {fd : FuncData} (B : Bf mg) (c_is_between : Gf P w K mg base 2 "is_between" (spIsBetween K)) (F : Fun K "is_rising" "is_rising" s_is_rising f fd) (hm : mg "is_rising" = some (.ref f)) (b : Binds K fd ["value", "low", "high"] []) : Gf P w K mg base 3 "is_rising" (spIsRising K) := by
  refine gf_mk F hm b sc_is_rising (fun _ => rfl) fun cdv A outer s H E ⟨d, lo, hi⟩ vs F0 hr hp hv => ?_
  obtain ⟨v, v1, v2, rfl, h1, h2, h3⟩ := each3 hv
  refine ⟨_, (pss_cons (ps_if (PW.pt (pw_or (pt_not (pt_val (p_isi B (pa_cons (pv 0) (pa_cons (p_ty (by rfl) B.tuple boot_tuple) pa_nil))))) (pw_or1 (pt_not (pt_val (p_all rfl B (pa_cons (pe_lc (own := [("number", 3)]) (g := gName 3) (tt := tYes) rfl sc_is_rising.nd (pi_tup (pv 0)) (blkOk_by (N := N_is_rising) (sc := defScope s_is_rising) (by decide +kernel)) (fun _ _ _ _ _ => (pg_name (i := 3) sc_is_rising.nd rfl (by first | exact Or.inl rfl | exact Or.inr rfl))) (fun _ _ _ _ _ => pts_nil) (fun _ _ _ _ _ => (p_call c_is_between hr (by decide) (pa_cons (pv 3) (pa_cons (pv 1) (pa_cons (pv 2) pa_nil)))))) pa_nil)))))))
        (pss_one (ps_ret pe_bl))
        pss_nil)
      (pss_one (ps_ret (pe_cmpR (op_eqD hr.units) (p_list B (pa_cons (pv 0) pa_nil)) (p_sortedSet rfl B (pa_cons (p_set rfl B (pa_cons (pv 0) pa_nil)) pa_nil)) (nomark _))))), ?_⟩
  cases d with
  | tuple ds =>
    have hl : ds.length ≤ 60 := hp
    refine q_if (b := !(ds.all fun x => isBt x lo hi)) (t_is (t_or (b := !(ds.all fun x => isBt x lo hi)) (t_not (t_B (r_isiD (b := true) (by walk_at "rr") (by dsimp only [tyName]; decide +kernel)))) fun _ => ?_) (by simp)) (fun hb => ?_) fun hb => ?_
    · refine t_is (t_not (t_B (r_all (bs := ds.map fun x => isBt x lo hi) (r_cons (r_ls (Run.weak (r_lcN (xs := ds) (Ri := Dt K) (Re := fun x => Dt K (.bool (isBt x lo hi))) (i_tup (Rs := ds.map (Dt K)) (r_var rfl (tp_dt.mpr h1))) (by omega) (fun _ => rfl) fun x u F1 e hx hu => ?_) fun v F1 e hv => ?_)) r_nil)))) ?_
      · have h2' := dp_up e h2
        have h3' := dp_up e h3
        exact r_call (x, lo, hi) True.intro (by walk_at "rr")
      · rw [List.map_map]; exact hv
      · rw [List.all_map]; rfl
    · refine q_ret (r_is r_bl ?_)
      show PyData.bool false = PyData.bool (isRising (.tuple ds) lo hi)
      rw [isRising]
      rw [Bool.not_eq_true'] at hb
      rw [hb]; rfl
    · rw [Bool.not_eq_false'] at hb
      have hd := all_ints hb
      have hs : isRising (.tuple ds) lo hi = decide ((ds.map toI).Pairwise (· < ·)) := by rw [isRising, hb, Bool.true_and]
      refine q_next (s_ret (r_is (d := .bool (decide ((ds.map toI).Pairwise (· < ·)))) ?_ (congrArg PyData.bool hs.symm)))
      obtain ⟨os, o1, o2⟩ := asc_ex (ds.map toI)
      have hn : (ds.map toI).length ≤ 60 := by rw [List.length_map]; exact hl
      have hv1 : Dt K (.tuple ((ds.map toI).map .int)) v F0 := hd ▸ h1
      refine r_is (r_eqD (d := .list ((ds.map toI).map .int)) (e := .list (os.map .int)) ?_ ?_ sh_listI sh_listI) ?_
      · exact (r_listT (r_cons (r_var rfl (tp_dt.mpr hv1)) r_nil)).weak fun v F1 e hv => ls_dt.mp (Ln.ls hv)
      · exact r_sortedSet (r_cons (r_set (R := Dt K (.tuple ((ds.map toI).map .int))) (r_cons (r_var rfl hv1) r_nil) (fun v F1 h => seqI_t h) (by omega)) r_nil) (by omega) os o1 o2
      · rw [eqv_listI]
        congr 1
        by_cases hp : (ds.map toI).Pairwise (· < ·)
        · rw [asc_one hp o1 fun k => (o2 k).symm, decide_eq_true rfl, decide_eq_true o1]
        · rw [decide_eq_false hp, decide_eq_false (fun z : ds.map toI = os => hp (by rw [z]; exact o1))]
  | _ =>
    refine q_if (b := true) (t_is (t_or (b := false) (t_not (t_B (r_isiD (b := false) (by walk_at "rr") (by dsimp only [tyName]; decide +kernel)))) fun h => nomatch h) rfl) (fun _ => ?_) fun h => nomatch h
    exact q_ret r_bl
end
end Wb

namespace Wb
open PySem PySem.Spec PyProof.Rows L2 SlX StX Rs Ma
local macro_rules | `(tactic| walk_at "rr") => `(tactic| (first
  | exact r_nil | exact r_int | exact r_bl | exact r_str
  | (refine r_var rfl ?_; assumption)
  | exact r_c rfl
  | (refine r_cons ?_ ?_ <;> walk_at "rr")))
section
variable {P : Program} {w : World} {K : PySem.W.Frag} {mg : Str → Option Value} {base : Heap}
abbrev spHousesFrom (K : PySem.W.Frag) : Sp := SpF (γ := Rows × Nat) (fun g => Ok g.1 ∧ g.2 < g.1.length) (fun g => [Dt K (dRows g.1), Dt K (nI g.2)]) (fun g => Dt K (dRow (reachL g.1 g.2)))
-- houses_from: 0:heard 1:house 2:found 3:waiting 4:here 5:other 6:row
abbrev s_houses_from : Stmt := topS 14
abbrev N_houses_from : List Str := ["heard", "house", "found", "waiting", "here", "other", "row"]
theorem sc_houses_from : FnScope N_houses_from ["heard", "house"] (defScope s_houses_from) := ⟨rfl, rfl, rfl, by decide +kernel, rfl, by decide +kernel, by decide +kernel⟩
theorem ok_houses_from {f : Addr} {fd : FuncData} (B : Bf mg) (F : Fun K "houses_from" "houses_from" s_houses_from f fd) (hm : mg "houses_from" = some (.ref f)) (b : Binds K fd ["heard", "house"] []) : Gf P w K mg base 1 "houses_from" (spHousesFrom K) := by
  refine gf_mk F hm b sc_houses_from (fun _ => rfl) fun cdv A outer s H E ⟨rs, h⟩ vs F0 hr hp hv => ?_
  obtain ⟨v, v1, rfl, h1, h2⟩ := each2 hv
  obtain ⟨ok, hh⟩ : Ok rs ∧ h < rs.length := hp
  refine ⟨_, (pss_cons (ps_par (i := 2) (j := 3) rfl sc_houses_from.nd rfl rfl (by decide) rfl rfl (pa_cons (pe_disp (pps_cons (pv 1) pe_bl pps_nil) (by rfl) (by rfl) (by simp) (by decide)) (pa_cons (pe_lst (pa_cons (pv 1) pa_nil)) pa_nil)) (by rfl))
      (pss_cons (ps_while PassesOwn.never (pt_cmpR op_gt (p_len B (pa_cons (pv 3) pa_nil)) pe_int (nomark _))
        (pss_cons (ps_set (i := 4) sc_houses_from.nd rfl (by first | exact Or.inl rfl | exact Or.inr rfl) (pe_bm0 PySem.F.plainAttrs_list PySem.F.slot_list_pop PySem.F.type_list_pop mt_pop (pv 3)))
        (pss_one (ps_for PassesOwn.never rfl (pi_enumT (by rfl) B.enumerate (pa_cons (pv 0) pa_nil)) (pg_tup rfl (pgs_cons (pg_name (i := 5) sc_houses_from.nd rfl (by first | exact Or.inl rfl | exact Or.inr rfl)) (pgs_cons (pg_name (i := 6) sc_houses_from.nd rfl (by first | exact Or.inl rfl | exact Or.inr rfl)) pgs_nil)))
          (pss_one (ps_if (PW.pt (pw_and (pt_cmpR op_in_seq (pv 4) (pv 6) rfl) (pw_and1 (pt_cmp (pc_dnotin (hu_of hr) (pv 5) (pv 2))))))
            (pss_cons (ps_dput (hu_of hr) (pv 2) (pv 5) pe_bl rfl)
            (pss_one (ps_expr (pe_bm PySem.F.plainAttrs_list PySem.F.slot_list_append PySem.F.type_list_append mt_append (pv 3) (pa_cons (pv 5) pa_nil)))))
            pss_nil))))))
      (pss_one (ps_ret (p_tuple B (pa_cons (p_sortedDI rfl B (pa_cons (pv 2) pa_nil)) pa_nil)))))), ?_⟩
  have ev1 : v1 = .int (h : Int) := dt_int h2
  -- found, waiting = {house: True}, [house]
  refine q_par (S := fun x y F1 L1 => ∃ d l, x = .ref d ∧ y = .ref l ∧ L1 = [(l, .lst (vN [h])), (d, .dK (kvT [h]))]) ?_ ?_
  · refine x_cons (x_disp1 (n := (h : Int)) (v := .bl true) (r_var rfl h2) (r_c rfl)) ?_
    rintro x F1 L1 e1 ⟨d, rfl, rfl⟩
    refine x_cons (x_lst (Rs := [Dt K (nI h)]) (r_cons (r_var rfl (dp_up e1 h2)) r_nil) (by simp)) ?_
    rintro y F2 L2 e2 ⟨l, ws, rfl, hws, rfl⟩
    obtain ⟨z, rfl, hz⟩ := each1 hws
    cases hz
    exact x_ret fun F3 e3 => ⟨_, _, rfl, d, l, rfl, rfl, rfl⟩
  rintro x y F1 L1 e1 ⟨d, l, rfl, rfl, rfl⟩
  -- while len(waiting) > 0
  refine q_while (fun m σ' F' L' => ∃ f wt o4 o5 o6, σ' = [some v, some v1, some (.ref d), some (.ref l), o4, o5, o6] ∧ L' = [(l, .lst (vN wt)), (d, .dK (kvT f))] ∧ Dfs rs h f wt ∧ wt.length ≤ f.length ∧ m = 2 * (rs.length - f.length) + wt.length)
    (2 * (rs.length - 1) + 1) ⟨[h], [h], none, none, none, rfl, rfl, Dfs.start hh, Nat.le_refl _, rfl⟩ (fun _ _ _ _ _ _ z => z) ?_
  rintro m σ' F2 L2 e2 ⟨f, wt, o4, o5, o6, rfl, rfl, D, hwf, rfl⟩
  refine ⟨decide (0 < wt.length), ?_, fun hb => ?_, fun hb => ?_⟩
  · refine t_is (t_test (r_I0b (r_lnC (List.mem_cons_self) (r_cons (r_varE rfl) r_nil)) r_int)) ?_
    rw [List.length_map]
    exact decide_eq_decide.mpr (by omega)
  · obtain ⟨wt', here, rfl⟩ : ∃ wt' here, wt = wt' ++ [here] := by
      rcases List.eq_nil_or_concat wt with z | ⟨a, c, z⟩
      · subst z; simp at hb
      · exact ⟨a, c, by rw [z]; simp⟩
    have hl : here < rs.length := D.lt _ (D.sub _ (by simp))
    refine q_setX (Px := fun x F3 L3 => x = .int (here : Int) ∧ L3 = [(l, .lst (vN wt')), (d, .dK (kvT f))]) ?_ ?_
    · rw [show vN (wt' ++ [here]) = vN wt' ++ [V.int (here : Int)] from by simp [vN]]
      exact x_pop (r_varE rfl)
    rintro x F3 L3 e3 ⟨rfl, rfl⟩
    -- for other, row in enumerate(heard)
    refine s_for (fun i σ'' F' L' => ∃ o5 o6, σ'' = [some v, some v1, some (.ref d), some (.ref l), some (.int (here : Int)), o5, o6] ∧ L' = [(l, .lst (vN (wt' ++ newOf rs here f i))), (d, .dK (kvT (f ++ newOf rs here f i)))])
      (i_enumT (Rs := (rs.map dRow).map (Dt K)) (r_cons (r_var rfl (tp_dt.mpr (dp_up ((e1.trans e2).trans e3) h1))) r_nil)) (fun F' e' => ⟨_, _, rfl, by simp [newOf]⟩) (fun _ _ _ _ _ _ z => z) ?_ ?_
    · rintro i S x σ'' F4 L4 e4 hS hx ⟨o5', o6', rfl, rfl⟩
      obtain ⟨dr, hdr, rfl⟩ := pairs_get hS
      rw [List.getElem?_map] at hdr
      have hi : i < rs.length := by
        cases q : rs[i]? with
        | none => rw [q] at hdr; cases hdr
        | some r => exact (List.getElem?_eq_some_iff.mp q).1
      rw [get_row hi] at hdr
      cases hdr
      refine g_pair hx fun u1 u2 hu1 hu2 => ?_
      cases (show Dp K F4 u1 (nI i) from hu1)
      have hn : i ∉ newOf rs here f i := fun z => absurd (mem_new.mp z).1 (Nat.lt_irrefl _)
      refine s_if (b := decide (here ∈ row rs i) && !decide (i ∈ f ++ newOf rs here f i)) (t_and (t_test (r_inN (K := K) (r_var rfl (.int _)) (r_var rfl hu2))) fun _ => t_B (r_is (r_dnotin (K := K) (kvs := kvT (f ++ newOf rs here f i)) (List.mem_cons_of_mem _ List.mem_cons_self) (r_var rfl (.int _)) (r_varE rfl)) (by rw [kvT_val]))) (fun hb => ?_) fun hb => ?_
      · rw [Bool.and_eq_true, decide_eq_true_eq, Bool.not_eq_true', decide_eq_false_iff_not] at hb
        have hc : here ∈ row rs i ∧ i ∉ f := ⟨hb.1, fun z => hb.2 (List.mem_append_left _ z)⟩
        refine RunS.perm (L' := [(d, .dK (kvT (f ++ newOf rs here f i))), (l, .lst (vN (wt' ++ newOf rs here f i)))]) ?_ (List.Perm.swap _ _ _)
        have hlen : (f ++ newOf rs here f i).length ≤ rs.length := by
          have z := D.next.len
          have y : (newOf rs here f i).length ≤ (newOf rs here f rs.length).length := ((List.range_sublist.mpr (Nat.le_of_lt hi)).filter _).length_le
          rw [List.length_append] at z ⊢
          omega
        refine q_dput (n := (i : Int)) (v := .bl true) (r_c rfl) (r_varE rfl) (r_var (R := Dt K (nI i)) rfl (Dp.int (K := K) _)) (by rw [kvT_len]; have := ok.le; omega) fun F5 e5 => ?_
        refine RunS.perm (L' := [(l, .lst (vN (wt' ++ newOf rs here f i))), (d, .dK (putK (kvT (f ++ newOf rs here f i)) (Sum.inl (i : Int)) (.bl true)))]) ?_ (List.Perm.swap _ _ _)
        refine s_app (R := Eqv (.int (i : Int))) (r_varE rfl) (r_varE rfl) (by
          simp only [vN, List.length_map, List.length_append, List.length_cons, List.length_nil] at hwf hlen ⊢
          have := ok.le
          omega) fun u F6 e6 hu => ?_
        cases hu
        refine ⟨_, _, rfl, ?_⟩
        rw [kvT_put hb.2, new_yes hc, ← List.append_assoc, ← List.append_assoc]
        simp [vN]
      · refine s_next fun F5 e5 => ⟨_, _, rfl, ?_⟩
        rw [new_no (fun hc => ?_)]
        rw [decide_eq_true hc.1, Bool.true_and, Bool.not_eq_false', decide_eq_true_eq] at hb
        rcases List.mem_append.mp hb with z | z
        · exact hc.2 z
        · exact hn z
    · rintro σ'' F4 L4 e4 ⟨o5', o6', rfl, rfl⟩
      rw [Rs.pairs_len, List.length_map, List.length_map]
      refine ⟨_, ?_, _, _, _, _, _, rfl, rfl, D.next, by simp only [List.length_append, List.length_cons, List.length_nil] at hwf ⊢; omega, rfl⟩
      have := D.next.len
      rw [List.length_append] at this ⊢
      rw [List.length_append, List.length_append]
      simp only [List.length_cons, List.length_nil]
      omega
  · have hw : wt = [] := by
      cases wt with
      | nil => rfl
      | cons a t => simp at hb
    subst hw
    refine s_ret ?_
    have q := r_sortedDI (K := K) (σ := [some v, some v1, some (.ref d), some (.ref l), o4, o5, o6]) (F := F2) (L := [(l, HO.lst (vN [])), (d, .dK (kvT f))]) (d := d) (kvs := kvT f) (ks := cI f) (List.mem_cons_of_mem _ List.mem_cons_self) (r_cons (r_varE (i := 2) rfl) r_nil) (by simp [kvT, cI]) (by rw [List.length_map]; have := D.len; have := ok.le; omega) (cI (reachL rs h)) (D.perm.map _) ((asc_cI asc_reachL).imp fun x => Int.le_of_lt x)
    exact r_is (r_tupD (r_cons q r_nil)) (dRow_int).symm
end
end Wb

namespace Wb
open PySem PySem.Spec PyProof.Rows L2 SlX StX Rs Ma
local macro_rules | `(tactic| walk_at "rr") => `(tactic| (first
  | exact r_nil | exact r_int | exact r_bl | exact r_str
  | (refine r_var rfl ?_; assumption)
  | exact r_c rfl
  | (refine r_cons ?_ ?_ <;> walk_at "rr")))
def inRow (d : PyData) (h : Nat) : Bool := match d with
  | .tuple ds => decide ((h : Int) ∈ ds.map toI)
  | _ => false
def isHeardRow (d : PyData) (h n : Nat) : Bool := isRising d 0 ((n : Int) - 1) && !inRow d h
def fewIn : PyData → Prop
  | .tuple ds => ∀ x ∈ ds, few x
  | _ => True
def isHeard (d : PyData) : Bool := match d with
  | .tuple ds => (decide ((1 : Int) ≤ (ds.length : Int)) && decide ((ds.length : Int) ≤ 5)) && ds.zipIdx.all fun p => isHeardRow p.1 p.2 ds.length
  | _ => false
theorem rising_shape {d : PyData} {lo hi : Int} (h : isRising d lo hi = true) : ∃ ds, d = .tuple ds ∧ ds = (ds.map toI).map .int := by
  cases d with
  | tuple ds =>
    rw [isRising, Bool.and_eq_true] at h
    exact ⟨ds, rfl, all_ints h.1⟩
  | _ => cases h
theorem toI_cI {r : List Nat} : (r.map nI).map toI = cI r := by rw [List.map_map]; rfl
theorem rising_row {r : List Nat} {n : Nat} (h1 : Asc r) (h2 : ∀ x ∈ r, x < n) (hn : n ≤ 100) : isRising (dRow r) 0 ((n : Int) - 1) = true := by
  rw [isRising, toI_cI, decide_eq_true (asc_cI h1), Bool.and_true, List.all_eq_true]
  intro x hx
  obtain ⟨y, hy, rfl⟩ := List.mem_map.mp hx
  have := h2 y hy
  have hb : (100 : Int) < 10 ^ 60 := by decide
  rw [isBt, isInt]
  simp only [Bool.and_eq_true, decide_eq_true_eq]
  omega
theorem isHeard_rows {rs : Rows} (ok : Ok rs) : isHeard (dRows rs) = true := by
  have h1 := ok.pos
  have h2 := ok.le
  rw [isHeard, List.length_map, Bool.and_eq_true, Bool.and_eq_true]
  refine ⟨⟨decide_eq_true (by omega), decide_eq_true (by omega)⟩, ?_⟩
  rw [List.all_eq_true]
  rintro ⟨d, i⟩ hp
  rw [List.zipIdx_map] at hp
  obtain ⟨⟨r, j⟩, hq, e⟩ := List.mem_map.mp hp
  cases e
  have hq' := List.mem_zipIdx_iff_getElem?.mp hq
  have hm : r ∈ rs := List.mem_of_getElem? hq'
  have hr := rising_row (n := rs.length) (ok.asc r hm) (ok.lt r hm) (by omega)
  have hn : ((j : Int) ∈ (r.map nI).map toI) = False := eq_false (by rw [toI_cI, mem_cI]; exact ok.ne j r hq')
  show isHeardRow (dRow r) j rs.length = true
  rw [isHeardRow, hr, inRow, Bool.true_and, Bool.not_eq_true', decide_eq_false_iff_not]
  rw [hn]; exact not_false
section
variable {P : Program} {w : World} {K : PySem.W.Frag} {mg : Str → Option Value} {base : Heap}
abbrev spIsHeardRow (K : PySem.W.Frag) : Sp := SpF (γ := PyData × Nat × Nat) (fun g => few g.1) (fun g => [Dt K g.1, Dt K (nI g.2.1), Dt K (nI g.2.2)]) (fun g => Dt K (.bool (isHeardRow g.1 g.2.1 g.2.2)))
-- is_heard_row: 0:value 1:house 2:size
abbrev s_is_heard_row : Stmt := topS 12
abbrev N_is_heard_row : List Str := ["value", "house", "size"]
theorem sc_is_heard_row : FnScope N_is_heard_row ["value", "house", "size"] (defScope s_is_heard_row) := ⟨rfl, rfl, rfl, by decide +kernel, rfl, by decide +kernel, by decide +kernel⟩
theorem ok_is_heard_row {f : Addr} {fd : FuncData} (c_is_rising : Gf P w K mg base 3 "is_rising" (spIsRising K)) (F : Fun K "is_heard_row" "is_heard_row" s_is_heard_row f fd) (hm : mg "is_heard_row" = some (.ref f)) (b : Binds K fd ["value", "house", "size"] []) : Gf P w K mg base 4 "is_heard_row" (spIsHeardRow K) := by
  refine gf_mk F hm b sc_is_heard_row (fun _ => rfl) fun cdv A outer s H E ⟨d, h, n⟩ vs F0 hr hp hv => ?_
  obtain ⟨v, v1, v2, rfl, h1, h2, h3⟩ := each3 hv
  refine ⟨_, (pss_one (ps_ret (pe_and (p_call c_is_rising hr (by decide) (pa_cons (pv 0) (pa_cons pe_int (pa_cons (pe_op op_sub (pv 2) pe_int) pa_nil)))) (pe_one (pe_cmpR op_notIn_seq (pv 1) (pv 0) rfl))))), ?_⟩
  refine s_ret (r_and (r_call (d, 0, (n : Int) - 1) hp (r_cons (by walk_at "rr") (r_cons r_int (r_cons (r_I0i (by walk_at "rr") r_int) r_nil)))) fun hh => ?_)
  obtain ⟨ds, rfl, hd⟩ := rising_shape hh
  rw [inRow]
  refine r_notIn (by walk_at "rr") (r_var (R := Dt K (.tuple ((ds.map toI).map .int))) rfl (hd ▸ h1)) fun v F1 hq => seqI_t hq
abbrev spIsHeard (K : PySem.W.Frag) : Sp := SpF (γ := PyData) fewIn (fun g => [Dt K g]) (fun g => Dt K (.bool (isHeard g)))
-- is_heard: 0:value 1:house 2:row
abbrev s_is_heard : Stmt := topS 13
abbrev N_is_heard : List Str := ["value", "house", "row"]
theorem sc_is_heard : FnScope N_is_heard ["value"] (defScope s_is_heard) := ⟨rfl, rfl, rfl, by decide +kernel, rfl, by decide +kernel, by decide +kernel⟩
theorem ok_is_heard {f : Addr} {fd : FuncData} (B : Bf mg) (g_MAX_SIZE : GInt mg "MAX_SIZE" 5) (c_is_heard_row : Gf P w K mg base 4 "is_heard_row" (spIsHeardRow K)) (F : Fun K "is_heard" "is_heard" s_is_heard f fd) (hm : mg "is_heard" = some (.ref f)) (b : Binds K fd ["value"] []) : Gf P w K mg base 5 "is_heard" (spIsHeard K) := by
  refine gf_mk F hm b sc_is_heard (fun _ => rfl) fun cdv A outer s H E d vs F0 hr hp hv => ?_
  obtain ⟨v, rfl, h1⟩ := each1 hv
  refine ⟨_, (pss_cons (ps_if (PW.pt (pw_or (pt_not (pt_val (p_isi B (pa_cons (pv 0) (pa_cons (p_ty (by rfl) B.tuple boot_tuple) pa_nil))))) (pw_or1 (pt_not (pt_chain op_le op_le pe_int (p_len B (pa_cons (pv 0) pa_nil)) (p_gint g_MAX_SIZE))))))
        (pss_one (ps_ret pe_bl))
        pss_nil)
      (pss_one (ps_ret (p_all rfl B (pa_cons (pe_lc (own := [("house", 1), ("row", 2)]) (g := gTup K 2 (gCons (gName 1) (gCons (gName 2) gNil))) (tt := tYes) rfl sc_is_heard.nd (pi_enumT (by rfl) B.enumerate (pa_cons (pv 0) pa_nil)) (blkOk_by (N := N_is_heard) (sc := defScope s_is_heard) (by decide +kernel)) (fun _ _ _ _ _ => (pg_tup rfl (pgs_cons (pg_name (i := 1) sc_is_heard.nd rfl (by first | exact Or.inl rfl | exact Or.inr rfl)) (pgs_cons (pg_name (i := 2) sc_is_heard.nd rfl (by first | exact Or.inl rfl | exact Or.inr rfl)) pgs_nil)))) (fun _ _ _ _ _ => pts_nil) (fun _ _ _ _ _ => by exact (p_call c_is_heard_row hr (by decide) (pa_cons (pv 2) (pa_cons (pv 1) (pa_cons (p_lenK K B (pa_cons (pv 0) pa_nil)) pa_nil)))))) pa_nil))))), ?_⟩
  cases d with
  | tuple ds =>
    have hp' : ∀ x ∈ ds, few x := hp
    refine q_if (b := !(decide ((1 : Int) ≤ (ds.length : Int)) && decide ((ds.length : Int) ≤ 5))) (t_is (t_or (b := !(decide ((1 : Int) ≤ (ds.length : Int)) && decide ((ds.length : Int) ≤ 5))) (t_not (t_B (r_isiD (b := true) (by walk_at "rr") (by dsimp only [tyName]; decide +kernel)))) fun _ => t_not (t_test (r_chain r_int (r_lnTD (by walk_at "rr")) (by walk_at "rr")))) (by simp)) (fun hb => ?_) fun hb => ?_
    · refine q_ret (r_is r_bl ?_)
      rw [Bool.not_eq_true'] at hb
      rw [isHeard, hb]; rfl
    · rw [Bool.not_eq_false'] at hb
      have hl : ds.length ≤ 5 := by
        rw [Bool.and_eq_true, decide_eq_true_eq, decide_eq_true_eq] at hb
        omega
      refine q_next (s_ret ?_)
      refine r_is (r_all (bs := ds.zipIdx.map fun p => isHeardRow p.1 p.2 ds.length) (r_cons (r_ls (Run.weak (r_lcP (xs := ds.zipIdx) (f := fun _ => true) (R1 := fun p => Dt K (nI p.2)) (R2 := fun p => Dt K p.1) (Re := fun p => Dt K (.bool (isHeardRow p.1 p.2 ds.length)))
        (i_enumRows (f := fun x => x) (xs := ds) (r_is (r_var rfl h1) (by rw [List.map_id']))) (by rw [List.length_zipIdx]; omega) (fun _ _ => rfl) (fun p v1 v2 F1 e hx q1 q2 => t_yes) fun p v1 v2 F1 e hx q1 q2 _ => ?_) fun v F1 e hv => ?_)) r_nil)) ?_
      · have h1' := dp_up e h1
        have hm : p.1 ∈ ds := by
          have := List.mem_zipIdx_iff_getElem?.mp hx
          exact List.mem_of_getElem? this
        refine r_call (p.1, p.2, ds.length) (hp' _ hm) (r_cons (by walk_at "rr") (r_cons (by walk_at "rr") (r_cons (r_lnTD (by walk_at "rr")) r_nil)))
      · rw [List.map_map]
        rwa [List.filter_eq_self.mpr fun _ _ => rfl] at hv
      · rw [isHeard, hb, Bool.true_and, List.all_map]; rfl
  | _ =>
    refine q_if (b := true) (t_is (t_or (b := false) (t_not (t_B (r_isiD (b := false) (by walk_at "rr") (by dsimp only [tyName]; decide +kernel)))) fun h => nomatch h) rfl) (fun _ => ?_) fun h => nomatch h
    exact q_ret r_bl
/-! ### the class -/
noncomputable abbrev spWebInit (C : Addr) (K : PySem.W.Frag) : Sp := SpI C (γ := Rows) Ok (fun rs => [Dt K (dRows rs)]) (fun rs => webP C K rs)
theorem few_rows {rs : Rows} (ok : Ok rs) : fewIn (dRows rs) := by
  intro x hx
  obtain ⟨r, hr, rfl⟩ := List.mem_map.mp hx
  show (r.map nI).length ≤ 60
  rw [List.length_map]
  have := nodup_len _ _ (asc_nodup (ok.asc r hr)) (ok.lt r hr)
  have := ok.le
  omega
-- Web.__init__: 0:self 1:heard 2:house 3:row 4:other
abbrev s_Webu__initu_ : Stmt := inClass (topS 15) 1
abbrev N_Webu__initu_ : List Str := ["self", "heard", "house", "row", "other"]
theorem sc_Webu__initu_ : FnScope N_Webu__initu_ ["self", "heard"] (defScope s_Webu__initu_) := ⟨rfl, rfl, rfl, by decide +kernel, rfl, by decide +kernel, by decide +kernel⟩
theorem ok_web_init {f C_Web : Addr} {fd : FuncData} (B : Bf mg) (W : WebK K C_Web) (c_is_heard : Gf P w K mg base 5 "is_heard" (spIsHeard K)) (c_houses_from : Gf P w K mg base 1 "houses_from" (spHousesFrom K)) (F : Fun K "__init__" "Web.__init__" s_Webu__initu_ f fd) :
    FnOk P w K mg base CX0 6 f fd ["self", "heard"] (spWebInit C_Web K) := by
  refine init_ok F sc_Webu__initu_ (fun _ => rfl) fun cdv A outer s H E rs a dx vs F0 hr ok hv => ?_
  obtain ⟨v, rfl, h1⟩ := each1 hv
  refine ⟨_, (pss_cons (ps_if (pt_not (pt_val (p_call c_is_heard hr (by decide) (pa_cons (pv 1) pa_nil))))
        (pss_one ps_never)
        pss_nil)
      (pss_cons (ps_sl (pv 0) (pv 1))
      (pss_cons (ps_sl (pv 0) (p_len B (pa_cons (pv 1) pa_nil)))
      (pss_cons (ps_sl (pv 0) (p_tuple B (pa_cons (pe_lc (own := [("house", 2)]) (g := gName 2) (tt := tYes) rfl sc_Webu__initu_.nd (pi_range1 (by rfl) B.range (pa_cons (p_len B (pa_cons (pv 1) pa_nil)) pa_nil)) (blkOk_by (N := N_Webu__initu_) (sc := defScope s_Webu__initu_) (by decide +kernel)) (fun _ _ _ _ _ => (pg_name (i := 2) sc_Webu__initu_.nd rfl (by first | exact Or.inl rfl | exact Or.inr rfl))) (fun _ _ _ _ _ => pts_nil) (fun _ _ _ _ _ => by exact (p_call c_houses_from hr (by decide) (pa_cons (pv 1) (pa_cons (pv 2) pa_nil))))) pa_nil)))
      (pss_cons (ps_sl (pv 0) (p_tuple B (pa_cons (pe_lc (own := [("house", 2), ("row", 3)]) (g := gTup K 2 (gCons (gName 2) (gCons (gName 3) gNil))) rfl sc_Webu__initu_.nd (pi_enumT (by rfl) B.enumerate (pa_cons (pe_sl (pv 0)) pa_nil)) (blkOk_by (N := N_Webu__initu_) (sc := defScope s_Webu__initu_) (by decide +kernel)) (fun _ _ _ _ _ => (pg_tup rfl (pgs_cons (pg_name (i := 2) sc_Webu__initu_.nd rfl (by first | exact Or.inl rfl | exact Or.inr rfl)) (pgs_cons (pg_name (i := 3) sc_Webu__initu_.nd rfl (by first | exact Or.inl rfl | exact Or.inr rfl)) pgs_nil)))) (fun _ _ _ _ _ => (pts_one (pt_cmpR op_eq (p_lenK K B (pa_cons (pv 3) pa_nil)) (p_lenK K B (pa_cons (pv 1) pa_nil)) (nomark _)))) (fun _ _ _ _ _ => by exact (pv 2))) pa_nil)))
      (pss_one (ps_sl (pv 0) (p_tuple B (pa_cons (pe_lc2 (own := [("house", 2), ("row", 3), ("other", 4)]) (vs1 := [4]) (g := gTup K 2 (gCons (gName 2) (gCons (gName 3) gNil))) (g1 := gName 4) (tt := tYes) (tt1 := tYes) rfl sc_Webu__initu_.nd (pi_enumT (by rfl) B.enumerate (pa_cons (pv 1) pa_nil)) (blkOk_by (N := N_Webu__initu_) (sc := defScope s_Webu__initu_) (by decide +kernel)) (by decide) (fun _ _ _ _ _ => (pg_tup rfl (pgs_cons (pg_name (i := 2) sc_Webu__initu_.nd rfl (by first | exact Or.inl rfl | exact Or.inr rfl)) (pgs_cons (pg_name (i := 3) sc_Webu__initu_.nd rfl (by first | exact Or.inl rfl | exact Or.inr rfl)) pgs_nil)))) (fun _ _ _ _ _ => pts_nil) (fun _ _ _ _ _ => by exact (pi_tupK K (pv 3))) (fun _ _ _ _ _ => (pg_name (i := 4) sc_Webu__initu_.nd rfl (by first | exact Or.inl rfl | exact Or.inr rfl))) (fun _ _ _ _ _ => pts_nil) (fun _ _ _ _ _ => by exact (pe_tup (pa_cons (pv 2) (pa_cons (pv 4) pa_nil))))) pa_nil))))))))), ?_⟩
  have hl := ok.le
  refine q_if (t_not (t_B (r_call (dRows rs) (few_rows ok) (by walk_at "rr")))) (fun h => ?_) fun _ => q_next ?_
  · rw [isHeard_rows ok] at h; cases h
  refine q_slset (R := Dt K (dRows rs)) W.heard .new (r_varE rfl) (by walk_at "rr") fun x1 F1 e1 g1 => ?_
  refine q_slset W.size (.old _) (r_varE rfl) (r_lnN (r_cons (r_var rfl (dp_up e1 h1)) r_nil)) fun x2 F2 e2 g2 => ?_
  have a1 := e1.trans e2
  refine q_slset W.reached (.old _) (r_varE rfl) (R := Dt K (dRows (reachs rs))) (r_is (r_tupLn (xs := List.range rs.length) (f := fun i => dRow (reachL rs i)) (r_lcN (xs := List.range rs.length) (Ri := fun i => Dt K (nI i)) (Re := fun i => Dt K (dRow (reachL rs i))) (i_rangeN (r_lnN (r_cons (r_var rfl (dp_up a1 h1)) r_nil)) (by omega)) (by rw [List.length_range]; omega) (fun _ => rfl) fun i u G1 e hi hu => ?_)) reachs_data) fun x3 F3 e3 g3 => ?_
  · have h1' := dp_up (a1.trans e) h1
    exact r_call (rs, i) ⟨ok, List.mem_range.mp hi⟩ (by walk_at "rr")
  have a2 := a1.trans e3
  refine q_slset W.roots (.old _) (r_varE rfl) (R := Dt K (dRow (rootsN rs))) (r_is (r_tupLn (α := List Nat × Nat) (xs := (reachs rs).zipIdx.filter fun p => decide (p.1.length = rs.length)) (f := fun p => nI p.2) (r_lcP (ι := List Nat × Nat) (xs := (reachs rs).zipIdx) (f := fun p => decide (p.1.length = rs.length)) (R1 := fun p => Dt K (nI p.2)) (R2 := fun p => Dt K (dRow p.1)) (Re := fun p => Dt K (nI p.2))
    (i_enumRows (r_sown W.reached (r_varE rfl) List.mem_cons_self (List.mem_cons_of_mem _ List.mem_cons_self) (putS_get _ _ _) g3)) (by rw [List.length_zipIdx, reachs_len]; omega) (fun _ _ => rfl) (fun p v1 v2 G1 e hx q1 q2 => ?_) fun p v1 v2 G1 e hx q1 q2 _ => by walk_at "rr")) roots_data) fun x4 F4 e4 g4 => ?_
  · have h1' := dp_up (a2.trans e) h1
    exact t_test (r_eqN (r_lnN (by walk_at "rr")) (r_lnN (by walk_at "rr")))
  have a3 := a2.trans e4
  refine s_slset W.pairs (.old _) (r_varE rfl) (R := Dt K (.tuple ((pairsN rs).map dPair))) (r_is (r_tupLn (α := (List Nat × Nat) × Nat) (xs := flat (fun p : List Nat × Nat => p.1) rs.zipIdx) (f := fun q => dPair (q.1.2, q.2)) (r_lc2 (ι := List Nat × Nat) (κ := Nat) (xs := rs.zipIdx) (ys := fun p => p.1) (Ri := fun p => Tp K [Dt K (nI p.2), Dt K (dRow p.1)]) (Rj := fun p y => Dt K (nI y)) (Re := fun p y => Dt K (dPair (p.2, y)))
    (i_enumRows (r_var rfl (dp_up a3 h1))) (flat_len ok) fun p u G1 e hx hu => rg_pair hu fun v1 v2 G2 e2 q1 q2 => ⟨rfl, i_tupN (r_var rfl q2), fun y u2 G3 e3 hy q3 => rg_name fun G4 e4 => ⟨rfl, ?_⟩⟩)) (congrArg PyData.tuple pairs_flat)) fun x5 F5 e5 g5 => ?_
  · have q1' := dp_up (e3.trans e4) q1
    have q3' := dp_up e4 q3
    exact r_tpD (xs := [p.2, y]) (f := nI) (r_tup (Rs := [Dt K (nI p.2), Dt K (nI y)]) (by walk_at "rr") (by show 2 ≤ 100000; decide))
  · refine ⟨_, _, rfl, fun G e o1 o2 => ⟨ok, a, dx, _, [x1, x2, x3, x4, x5], rfl, o1, o2, ((((got_nil.put (by decide)).put (by decide)).put (by decide)).put (by decide)).put (by decide), ?_⟩⟩
    exact ⟨dp_up ((((e2.trans e3).trans e4).trans e5).trans e) g1, dp_up (((e3.trans e4).trans e5).trans e) g2, dp_up ((e4.trans e5).trans e) g3, dp_up (e5.trans e) g4, dp_up e g5, True.intro⟩
end
end Wb

namespace Rs
open PySem PySem.Spec PyProof.Rows L2 SlX StX Ma
section
variable {K : PySem.W.Frag} {w : World} {σ : L2.St} {F : Hp} {L : Cells} {te ta tb : TE} {t : TA} {C : Addr} {rs qs : Rows}
theorem cI_data {ns : List Nat} : (ns.map nI) = (cI ns).map PyData.int := row_int
theorem r_sortedN {ns os : List Nat} (h : Run (te σ) F L (Dt K (.list (ns.map nI)))) (hl : ns.length < 64) (h1 : os.Perm ns) (h2 : Asc os) : Run (tCB (rSorted K) (tCons te tNil) σ) F L (Dt K (.list (os.map nI))) := by
  rw [cI_data] at h ⊢
  refine r_sortedI (r_cons h r_nil) (fun v F1 hv => ?_) (by rw [List.length_map]; exact hl) (cI os) (h1.map _) ((asc_cI h2).imp fun x => Int.le_of_lt x)
  obtain ⟨a, vs, rfl, hs, hr⟩ := ls_dt.mpr hv
  have := vs_ints (each_dt.mp hr)
  subst this
  exact ⟨a, rfl, hs⟩
theorem r_sortedSetN {ns os : List Nat} (h : Run (te σ) F L (Dt K (.list (ns.map nI)))) (hl : ns.length < 64) (h1 : Asc os) (h2 : ∀ k, k ∈ os ↔ k ∈ ns) : Run (tCB (rSortedSet w) (tCons (tCB (rSetI K w) (tCons te tNil)) tNil) σ) F L (Dt K (.list (os.map nI))) := by
  rw [cI_data] at h ⊢
  refine r_sortedSet (r_cons (r_set (r_cons h r_nil) (fun v F1 hv => seqI_l hv) (by rw [List.length_map]; omega)) r_nil) (by rw [List.length_map]; exact hl) (cI os) (asc_cI h1) fun k => ?_
  simp only [List.mem_map]
  constructor
  · rintro ⟨a, ha, rfl⟩; exact ⟨a, (h2 a).mp ha, rfl⟩
  · rintro ⟨a, ha, rfl⟩; exact ⟨a, (h2 a).mpr ha, rfl⟩
theorem r_isiS {S : VP} (W : WebK K C) [Mono S] (hS : ∀ v F1, S v F1 → IsOb C v F1) (h : Run (t σ) F L (Each [S, Eqv (.ref C)])) : Run (tCB (fun xs H Q => rIsi K xs H Q ∨ rIsiSl K (.ref C) xs H Q) t σ) F L (Dt K (.bool true)) := r_cb h fun vs F1 e1 hv => by
  obtain ⟨v, u, rfl, h1, h2⟩ := each2 hv
  cases h2
  obtain ⟨a, dx, vs, rfl, q1, q2⟩ := hS _ _ h1
  exact fun F2 N H e2 A Q q => .inr ⟨a, C, dx, vs, .ref C, true, rfl, rfl, fun w hw => hw, at_slt A (e2 _ _ q1) (e2 _ _ q2), W.sc, W.si, W.kit, q _ F2 H (Same.refl _) A (.bl true)⟩
theorem eqv_row {a b : List Nat} : PyData.eqv (dRow a) (dRow b) = decide (a = b) := by
  rw [dRow_int, dRow_int, eqv_tupI]
  exact decide_eq_decide.mpr cI_inj
theorem eqv_rows : PyData.eqv (dRows rs) (dRows qs) = decide (rs = qs) := by
  rw [PyData.eqv]; exact eqvAll_of fun a b => eqv_row
theorem lay_row {a : List Nat} : (dRow a).canLay0 = true := by rw [dRow_int, PyData.canLay0]; exact lay_ints
theorem dep_row {a : List Nat} : (dRow a).depth ≤ 1 := by rw [dRow_int, PyData.depth, dep_ints]; decide
theorem sh_rows : SeqAt.shaped (dRows rs) = true := shaped_of (by rw [PyData.canLay0]; exact lay_all fun a => lay_row) (by rw [PyData.depth]; have := dep_all (f := dRow) (k := 1) (fun a => dep_row) (xs := rs); omega)
theorem sh_row {a : List Nat} : SeqAt.shaped (dRow a) = true := shaped_of lay_row (Nat.le_trans dep_row (by decide))
end
end Rs
namespace Wb
open PySem PySem.Spec PyProof.Rows L2 SlX StX Rs Ma
local macro_rules | `(tactic| walk_at "rr") => `(tactic| (first
  | exact r_nil | exact r_int | exact r_bl | exact r_str
  | (refine r_var rfl ?_; assumption)
  | exact r_c rfl
  | (refine r_cons ?_ ?_ <;> walk_at "rr")))
section
variable {P : Program} {w : World} {K : PySem.W.Frag} {mg : Str → Option Value} {base : Heap} {C_Web : Addr}
noncomputable abbrev spHeardBy (C_Web : Addr) (K : PySem.W.Frag) : Sp := SpF (γ := Rows × Nat) (fun g => g.2 < g.1.length) (fun g => [webP C_Web K g.1, Dt K (nI g.2)]) (fun g => Dt K (dRow (hbL g.1 g.2)))
-- heard_by: 0:web 1:house
abbrev s_heard_by : Stmt := topS 16
abbrev N_heard_by : List Str := ["web", "house"]
theorem sc_heard_by : FnScope N_heard_by ["web", "house"] (defScope s_heard_by) := ⟨rfl, rfl, rfl, by decide +kernel, rfl, by decide +kernel, by decide +kernel⟩
theorem ok_heard_by {f : Addr} {fd : FuncData} (B : Bf mg) (W : WebK K C_Web) (F : Fun K "heard_by" "heard_by" s_heard_by f fd) (hm : mg "heard_by" = some (.ref f)) (b : Binds K fd ["web", "house"] []) : Gf P w K mg base 1 "heard_by" (spHeardBy C_Web K) := by
  refine gf_mk F hm b sc_heard_by (fun _ => rfl) fun cdv A outer s H E ⟨rs, h⟩ vs F0 hr hp hv => ?_
  obtain ⟨v, v1, rfl, h1, h2⟩ := each2 hv
  refine ⟨_, (pss_one (ps_ret (p_tuple B (pa_cons (p_sortedL B (pa_cons (pe_lst (pa_star (pe_ix ix_tup (pe_sl (pv 0)) (pv 1) (fun _ _ => rfl)) (pa_cons (pv 1) pa_nil))) pa_nil)) pa_nil)))), ?_⟩
  have hh : h < rs.length := hp
  have ok : Ok rs := h1.1
  have q := r_lst (Rs := (row rs h ++ [h]).map fun x => Dt K (nI x)) (F := F0) (L := []) (σ := start N_heard_by [v, v1]) (t := tStar K (tOp (rIxT K) (SlX.tSl K (tVar 0) "own_heard") (tVar 1)) (tCons (tVar 1) tNil)) (by
    have := r_star (K := K) (r_rowN (r_heard W (r_var (R := webP C_Web K rs) (σ := start N_heard_by [v, v1]) (i := 0) (F := F0) (L := []) rfl h1)) (r_var (i := 1) rfl h2) hh) (r_cons (r_var (i := 1) rfl h2) r_nil)
    rw [List.map_append]
    rwa [List.map_map] at this) (by
      rw [List.length_map, ← (hb_perm ok hh).length_eq]
      have := hb_len (rs := rs) (h := h)
      have := ok.le
      omega)
  refine s_ret (r_tupD (r_cons (r_sortedN (r_lnD q) ?_ (hb_perm ok hh) asc_hb) r_nil))
  rw [← (hb_perm ok hh).length_eq]
  have := hb_len (rs := rs) (h := h)
  have := ok.le
  omega
noncomputable abbrev spRequireHouse (C_Web : Addr) (K : PySem.W.Frag) : Sp := SpF (γ := Rows × Nat) (fun g => g.2 < g.1.length) (fun g => [webP C_Web K g.1, Dt K (nI g.2)]) (fun g => Dt K .none)
theorem bt_nat {h n : Nat} (hh : h < n) (hn : n ≤ 100) : isBt (nI h) 0 ((n : Int) - 1) = true := by
  have hb : (100 : Int) < 10 ^ 60 := by decide
  rw [isBt, isInt]
  simp only [Bool.and_eq_true, decide_eq_true_eq]
  omega
-- require_house: 0:web 1:house
abbrev s_require_house : Stmt := topS 17
abbrev N_require_house : List Str := ["web", "house"]
theorem sc_require_house : FnScope N_require_house ["web", "house"] (defScope s_require_house) := ⟨rfl, rfl, rfl, by decide +kernel, rfl, by decide +kernel, by decide +kernel⟩
theorem ok_require_house {f : Addr} {fd : FuncData} (W : WebK K C_Web) (c_require_number : Gf P w K mg base 3 "require_number" (spRequireNumber K)) (F : Fun K "require_house" "require_house" s_require_house f fd) (hm : mg "require_house" = some (.ref f)) (b : Binds K fd ["web", "house"] []) : Gf P w K mg base 4 "require_house" (spRequireHouse C_Web K) := by
  refine gf_mk F hm b sc_require_house (fun _ => rfl) fun cdv A outer s H E ⟨rs, h⟩ vs F0 hr hp hv => ?_
  obtain ⟨v, v1, rfl, h1, h2⟩ := each2 hv
  refine ⟨_, (pss_one (ps_expr (p_call c_require_number hr (by decide) (pa_cons (pv 1) (pa_cons pe_int (pa_cons (pe_op op_sub (pe_sl (pv 0)) pe_int) pa_nil)))))), ?_⟩
  have hh : h < rs.length := hp
  have ok : Ok rs := h1.1
  have hl := ok.le
  exact s_drop (r_call (nI h, 0, (rs.length : Int) - 1) (bt_nat hh (by omega)) (r_cons (by walk_at "rr") (r_cons r_int (r_cons (r_I0i (r_size W (by walk_at "rr")) r_int) r_nil)))) fun F1 e => .non
noncomputable abbrev spIsLike (C_Web : Addr) (K : PySem.W.Frag) : Sp := SpF (γ := Rows × Rows) (fun g => True) (fun g => [webP C_Web K g.1, webP C_Web K g.2]) (fun g => Dt K (.bool (decide (g.2.length = g.1.length))))
-- is_like: 0:web 1:other
abbrev s_is_like : Stmt := topS 18
abbrev N_is_like : List Str := ["web", "other"]
theorem sc_is_like : FnScope N_is_like ["web", "other"] (defScope s_is_like) := ⟨rfl, rfl, rfl, by decide +kernel, rfl, by decide +kernel, by decide +kernel⟩
theorem ok_is_like {f : Addr} {fd : FuncData} (B : Bf mg) (W : WebK K C_Web) (m_Web : mg "Web" = some (.ref C_Web)) (F : Fun K "is_like" "is_like" s_is_like f fd) (hm : mg "is_like" = some (.ref f)) (b : Binds K fd ["web", "other"] []) : Gf P w K mg base 1 "is_like" (spIsLike C_Web K) := by
  refine gf_mk F hm b sc_is_like (fun _ => rfl) fun cdv A outer s H E ⟨rs, qs⟩ vs F0 hr hp hv => ?_
  obtain ⟨v, v1, rfl, h1, h2⟩ := each2 hv
  refine ⟨_, (pss_one (ps_ret (pe_and (p_isiS (.ref C_Web) B (pa_cons (pv 1) (pa_cons (p_cls (by rfl) m_Web) pa_nil))) (pe_one (pe_cmpR op_eq (pe_sl (pv 1)) (pe_sl (pv 0)) (nomark _)))))), ?_⟩
  exact s_ret (r_and (a := true) (r_isiS W (fun _ _ => webP.is) (r_cons (r_var rfl h2) (r_cons (r_c rfl) r_nil))) fun _ => r_eqN (r_size W (by walk_at "rr")) (r_size W (by walk_at "rr")))
noncomputable abbrev spRequireLike (C_Web : Addr) (K : PySem.W.Frag) : Sp := SpF (γ := Rows × Rows) (fun g => g.2.length = g.1.length) (fun g => [webP C_Web K g.1, webP C_Web K g.2]) (fun g => Dt K .none)
-- require_like: 0:web 1:other
abbrev s_require_like : Stmt := topS 19
abbrev N_require_like : List Str := ["web", "other"]
theorem sc_require_like : FnScope N_require_like ["web", "other"] (defScope s_require_like) := ⟨rfl, rfl, rfl, by decide +kernel, rfl, by decide +kernel, by decide +kernel⟩
theorem ok_require_like {f : Addr} {fd : FuncData} (c_is_like : Gf P w K mg base 1 "is_like" (spIsLike C_Web K)) (F : Fun K "require_like" "require_like" s_require_like f fd) (hm : mg "require_like" = some (.ref f)) (b : Binds K fd ["web", "other"] []) : Gf P w K mg base 2 "require_like" (spRequireLike C_Web K) := by
  refine gf_mk F hm b sc_require_like (fun _ => rfl) fun cdv A outer s H E ⟨rs, qs⟩ vs F0 hr hp hv => ?_
  obtain ⟨v, v1, rfl, h1, h2⟩ := each2 hv
  refine ⟨_, (pss_one (ps_if (pt_not (pt_val (p_call c_is_like hr (by decide) (pa_cons (pv 0) (pa_cons (pv 1) pa_nil)))))
        (pss_one ps_never)
        pss_nil)), ?_⟩
  refine s_if (t_not (t_B (r_call (rs, qs) True.intro (by walk_at "rr")))) (fun h => ?_) fun h => s_next fun F1 e => .non
  rw [decide_eq_true (show qs.length = rs.length from hp)] at h
  cases h
noncomputable abbrev spSilent (C_Web : Addr) (K : PySem.W.Frag) : Sp := SpF (γ := Nat) (fun g => 1 ≤ g ∧ g ≤ 5) (fun g => [Dt K (nI g)]) (fun g => webP C_Web K (silentR g))
theorem bt_size {n : Nat} (h1 : 1 ≤ n) (h2 : n ≤ 5) : isBt (nI n) 1 5 = true := by
  have hb : (100 : Int) < 10 ^ 60 := by decide
  rw [isBt, isInt]
  simp only [Bool.and_eq_true, decide_eq_true_eq]
  omega
-- silent_web: 0:size
abbrev s_silent_web : Stmt := topS 20
abbrev N_silent_web : List Str := ["size"]
theorem sc_silent_web : FnScope N_silent_web ["size"] (defScope s_silent_web) := ⟨rfl, rfl, rfl, by decide +kernel, rfl, by decide +kernel, by decide +kernel⟩
theorem ok_silent_web {f : Addr} {fd : FuncData} (g_MAX_SIZE : GInt mg "MAX_SIZE" 5) (c_Web : MkF P w K mg base 6 "Web" C_Web (spWebInit C_Web K)) (c_require_number : Gf P w K mg base 3 "require_number" (spRequireNumber K)) (F : Fun K "silent_web" "silent_web" s_silent_web f fd) (hm : mg "silent_web" = some (.ref f)) (b : Binds K fd ["size"] []) : Gf P w K mg base 8 "silent_web" (spSilent C_Web K) := by
  refine gf_mk F hm b sc_silent_web (fun _ => rfl) fun cdv A outer s H E n vs F0 hr ⟨hp1, hp2⟩ hv => ?_
  obtain ⟨v, rfl, h1⟩ := each1 hv
  refine ⟨_, (pss_cons (ps_expr (p_call c_require_number hr (by decide) (pa_cons (pv 0) (pa_cons pe_int (pa_cons (p_gint g_MAX_SIZE) pa_nil)))))
      (pss_one (ps_ret (p_mk c_Web hr (by decide) (pa_cons (pe_op op_repTA (pe_tup (pa_cons (pe_tup pa_nil) pa_nil)) (pv 0)) pa_nil))))), ?_⟩
  refine q_drop (r_call (nI n, 1, 5) (bt_size hp1 hp2) (r_cons (by walk_at "rr") (r_cons r_int (r_cons (by walk_at "rr") r_nil)))) fun F1 e => ?_
  have h1' := dp_up e h1
  refine s_ret (r_mk (silentR n) (silent_ok hp1 hp2) (r_cons (r_is (r_rep1 (d := dRow []) (k := n) (r_tpD (xs := [([] : List Nat)]) (f := dRow) (r_tup (Rs := [Dt K (dRow [])]) (r_cons (r_tpD (xs := ([] : List Nat)) (f := nI) (r_tup (Rs := []) r_nil (by decide))) r_nil) (by show 1 ≤ 100000; decide))) (by walk_at "rr") hp1 (by omega)) ?_) r_nil))
  unfold silentR dRows; rw [List.map_replicate]
noncomputable abbrev spThen (C_Web : Addr) (K : PySem.W.Frag) : Sp := SpF (γ := Rows × Rows) (fun g => g.2.length = g.1.length) (fun g => [webP C_Web K g.1, webP C_Web K g.2]) (fun g => webP C_Web K (thenR g.1 g.2))
-- Web.then: 0:self 1:other 2:rows 3:house 4:told 5:near 6:far
abbrev s_Web_then : Stmt := inClass (topS 15) 12
abbrev N_Web_then : List Str := ["self", "other", "rows", "house", "told", "near", "far"]
theorem sc_Web_then : FnScope N_Web_then ["self", "other"] (defScope s_Web_then) := ⟨rfl, rfl, rfl, by decide +kernel, rfl, by decide +kernel, by decide +kernel⟩
theorem ok_then {f : Addr} {fd : FuncData} (B : Bf mg) (W : WebK K C_Web) (c_Web : MkF P w K mg base 6 "Web" C_Web (spWebInit C_Web K)) (c_require_like : Gf P w K mg base 2 "require_like" (spRequireLike C_Web K)) (c_heard_by : Gf P w K mg base 1 "heard_by" (spHeardBy C_Web K)) (F : Fun K "then" "Web.then" s_Web_then f fd) : FnOk P w K mg base CX0 8 f fd ["self", "other"] (spThen C_Web K) := by
  refine gf_ok F sc_Web_then (fun _ => rfl) fun cdv A outer s H E ⟨rs, qs⟩ vs F0 hr hp hv => ?_
  obtain ⟨v, v1, rfl, h1, h2⟩ := each2 hv
  refine ⟨_, (pss_cons (ps_expr (p_call c_require_like hr (by decide) (pa_cons (pv 0) (pa_cons (pv 1) pa_nil))))
      (pss_cons (ps_set (i := 2) sc_Web_then.nd rfl (by first | exact Or.inl rfl | exact Or.inr rfl) (pe_lst pa_nil))
      (pss_cons (ps_for PassesOwn.never rfl (pi_range1 (by rfl) B.range (pa_cons (pe_sl (pv 0)) pa_nil)) (pg_name (i := 3) sc_Web_then.nd rfl (by first | exact Or.inl rfl | exact Or.inr rfl))
        (pss_cons (ps_setLc2 (i := 4) (own := [("near", 5), ("far", 6)]) (vs1 := [6]) (g := gName 5) (g1 := gName 6) (tt := tYes) (tt1 := tYes)  rfl sc_Web_then.nd rfl rfl (sw_true rfl rfl rfl (by decide +kernel)) (pi_tup (p_call c_heard_by hr (by decide) (pa_cons (pv 1) (pa_cons (pv 3) pa_nil)))) (blkOk_by (N := N_Web_then) (sc := defScope s_Web_then) (by decide +kernel)) (by decide) (fun _ _ _ _ _ => (pg_name (i := 5) sc_Web_then.nd rfl (by first | exact Or.inl rfl | exact Or.inr rfl))) (fun _ _ _ _ _ => pts_nil) (fun _ _ _ _ _ => by exact (pi_tupK K (p_call c_heard_by hr (by decide) (pa_cons (pv 0) (pa_cons (pv 5) pa_nil))))) (fun _ _ _ _ _ => (pg_name (i := 6) sc_Web_then.nd rfl (by first | exact Or.inl rfl | exact Or.inr rfl))) (fun _ _ _ _ _ => pts_nil) (fun _ _ _ _ _ => by exact (pv 6)))
        (pss_one (ps_expr (pe_bm PySem.F.plainAttrs_list PySem.F.slot_list_append PySem.F.type_list_append mt_append (pv 2) (pa_cons (p_tuple B (pa_cons (pe_lc (own := [("far", 6)]) (g := gName 6) rfl sc_Web_then.nd (pi_list (p_sortedSet rfl B (pa_cons (p_set rfl B (pa_cons (pv 4) pa_nil)) pa_nil))) (blkOk_by (N := N_Web_then) (sc := defScope s_Web_then) (by decide +kernel)) (fun _ _ _ _ _ => (pg_name (i := 6) sc_Web_then.nd rfl (by first | exact Or.inl rfl | exact Or.inr rfl))) (fun _ _ _ _ _ => (pts_one (pt_cmpR op_ne (pv 6) (pv 3) (nomark _)))) (fun _ _ _ _ _ => by exact (pv 6))) pa_nil)) pa_nil))))))
      (pss_one (ps_ret (p_mk c_Web hr (by decide) (pa_cons (p_tuple B (pa_cons (pv 2) pa_nil)) pa_nil))))))), ?_⟩
  have hq : qs.length = rs.length := hp
  have ok : Ok rs := h1.1
  have hl := ok.le
  refine q_drop (r_call (rs, qs) hp (by walk_at "rr")) fun F1 e1 => ?_
  refine q_new (Rs := []) r_nil (by decide) fun l ws F2 e2 nl hw => ?_
  obtain rfl := each0 hw
  have a2 := e1.trans e2
  have h1' := Mono.go h1 a2
  refine q_for (fun i σ' F' L' => ∃ o3 o4 o5 o6 vs, σ' = [some v, some v1, some (.ref l), o3, o4, o5, o6] ∧ L' = [(l, .lst vs)] ∧ Each ((List.range i).map fun h => Dt K (dRow (thenRow rs qs h))) vs F')
    (i_rangeN (n := rs.length) (r_size W (r_var rfl h1')) (by omega)) (fun F3 e3 => ⟨_, _, _, _, [], rfl, rfl, True.intro⟩) (fun i σ' F' F'' L' e ⟨o3, o4, o5, o6, vs, q1, q2, q3⟩ => ⟨o3, o4, o5, o6, vs, q1, q2, Mono.go q3 e⟩) ?_ ?_
  · rintro i S x σ' F4 L4 e4 hS hx ⟨o3, o4, o5, o6, vs, rfl, rfl, hvs⟩
    have hi : i < rs.length := by
      have := (List.getElem?_eq_some_iff.mp hS).1
      rwa [List.length_map, List.length_range] at this
    rw [List.getElem?_map, List.getElem?_range hi] at hS
    cases hS
    refine g_name ?_
    have h14 := Mono.go h1' e4
    have h24 := Mono.go (Mono.go h2 a2) e4
    have okq : Ok qs := h2.1
    refine q_set (R := Dt K (.list ((toldL rs qs i).map nI))) (r_is (r_lnD (α := Nat × Nat) (xs := flat (fun near => hbL rs near) (hbL qs i)) (f := fun p => nI p.2) (r_lc2 (ι := Nat) (κ := Nat) (xs := hbL qs i) (ys := fun near => hbL rs near) (Ri := fun n => Dt K (nI n)) (Rj := fun _ y => Dt K (nI y)) (Re := fun _ y => Dt K (nI y))
      (i_tupN (xs := hbL qs i) (f := nI) (r_call (qs, i) (by show i < qs.length; omega) (r_cons (r_var rfl h24) (r_cons (r_var rfl hx) r_nil)))) (Nat.le_trans (told_len hl okq.le) (by decide)) fun n u G1 e hn hu => rg_name fun G2 e2 => ⟨rfl, i_tupN (xs := hbL rs n) (f := nI) (r_call (rs, n) (by have := hb_lt hn; show n < rs.length; omega) (r_cons (r_var rfl (Mono.go h14 (e.trans e2))) (r_cons (r_var rfl (Mono.go hu e2)) r_nil))), fun y u2 G3 e3 hy q3 => rg_name fun G4 e4 => ⟨rfl, r_var rfl (Mono.go q3 e4)⟩⟩)) (by unfold toldL; rw [List.map_map]; rfl)) fun x4 F5 e5 h4 => ?_
    have hlen : vs.length = i := by rw [each_length hvs, List.length_map, List.length_range]
    refine s_app (R := Dt K (dRow (thenRow rs qs i))) (r_varE rfl) (r_tupLn (xs := (allL rs qs i).filter fun x => !decide (x = i)) (f := nI) (r_lcF (ι := Nat) (xs := allL rs qs i) (f := fun x => !decide (x = i)) (Ri := fun n => Dt K (nI n)) (Re := fun n => Dt K (nI n))
      (i_lstN (xs := allL rs qs i) (f := nI) (r_sortedSetN (r_var rfl h4) (by have := told_len (h := i) hl okq.le; unfold toldL; rw [List.length_map]; omega) asc_all fun k => mem_all)) (by have := all_len (rs := rs) (qs := qs) (h := i); omega) (fun _ => rfl) (fun y u G1 e hy hu => ?_) fun y u G1 e hy hu _ => r_var rfl hu)) (by omega) fun u F6 e6 hu => ?_
    · have hx' := dp_up (e5.trans e) hx
      exact t_test (r_neN (r_var rfl hu) (r_var rfl hx'))
    · refine ⟨_, _, _, _, _, rfl, rfl, ?_⟩
      rw [List.range_succ, List.map_append]
      exact each_app (Mono.go hvs (e5.trans e6)) ⟨hu, True.intro⟩
  · rintro σ' F4 L4 e4 ⟨o3, o4, o5, o6, vs, rfl, rfl, hvs⟩
    rw [List.length_map, List.length_range] at hvs
    refine s_ret (r_mk (thenR rs qs) (then_ok ok) (r_cons (r_tpD (xs := thenR rs qs) (f := dRow) (r_tupC (l := l) (xs := vs) List.mem_cons_self (r_cons (r_varE (i := 2) rfl) r_nil) ?_)) r_nil))
    unfold thenR
    rw [List.map_map]
    exact hvs
end
end Wb

namespace Wb
open PySem PySem.Spec PyProof.Rows L2 SlX StX Rs Ma
local macro_rules | `(tactic| walk_at "rr") => `(tactic| (first
  | exact r_nil | exact r_int | exact r_bl | exact r_str
  | (refine r_var rfl ?_; assumption)
  | exact r_c rfl
  | (refine r_cons ?_ ?_ <;> walk_at "rr")))
section
variable {P : Program} {w : World} {K : PySem.W.Frag} {mg : Str → Option Value} {base : Heap} {C_Web : Addr}
noncomputable abbrev spProp (C_Web : Addr) (K : PySem.W.Frag) (R : Rows → VP) : Sp := SpF (γ := Rows) (fun _ => True) (fun g => [webP C_Web K g]) R
-- Web.heard: 0:self
abbrev s_Web_heard : Stmt := inClass (topS 15) 2
abbrev N_Web_heard : List Str := ["self"]
theorem sc_Web_heard : FnScope N_Web_heard ["self"] (defScope s_Web_heard) := ⟨rfl, rfl, rfl, by decide +kernel, rfl, by decide +kernel, by decide +kernel⟩
theorem ok_heard {f : Addr} {fd : FuncData} (W : WebK K C_Web) (F : Fun K "heard" "Web.heard" s_Web_heard f fd) : FnOk P w K mg base CX0 1 f fd ["self"] (spProp C_Web K fun rs => Dt K (dRows rs)) := by
  refine gf_ok F sc_Web_heard (fun _ => rfl) fun cdv A outer s H E rs vs F0 hr hp hv => ?_
  obtain ⟨v, rfl, h1⟩ := each1 hv
  exact ⟨_, (pss_one (ps_ret (pe_sl (pv 0)))), s_ret (r_heard W (by walk_at "rr"))⟩
-- Web.size: 0:self
abbrev s_Web_size : Stmt := inClass (topS 15) 3
abbrev N_Web_size : List Str := ["self"]
theorem sc_Web_size : FnScope N_Web_size ["self"] (defScope s_Web_size) := ⟨rfl, rfl, rfl, by decide +kernel, rfl, by decide +kernel, by decide +kernel⟩
theorem ok_size {f : Addr} {fd : FuncData} (W : WebK K C_Web) (F : Fun K "size" "Web.size" s_Web_size f fd) : FnOk P w K mg base CX0 1 f fd ["self"] (spProp C_Web K fun rs => Dt K (nI rs.length)) := by
  refine gf_ok F sc_Web_size (fun _ => rfl) fun cdv A outer s H E rs vs F0 hr hp hv => ?_
  obtain ⟨v, rfl, h1⟩ := each1 hv
  exact ⟨_, (pss_one (ps_ret (pe_sl (pv 0)))), s_ret (r_size W (by walk_at "rr"))⟩
-- Web.roots: 0:self
abbrev s_Web_roots : Stmt := inClass (topS 15) 4
abbrev N_Web_roots : List Str := ["self"]
theorem sc_Web_roots : FnScope N_Web_roots ["self"] (defScope s_Web_roots) := ⟨rfl, rfl, rfl, by decide +kernel, rfl, by decide +kernel, by decide +kernel⟩
theorem ok_roots {f : Addr} {fd : FuncData} (W : WebK K C_Web) (F : Fun K "roots" "Web.roots" s_Web_roots f fd) : FnOk P w K mg base CX0 1 f fd ["self"] (spProp C_Web K fun rs => Dt K (dRow (rootsN rs))) := by
  refine gf_ok F sc_Web_roots (fun _ => rfl) fun cdv A outer s H E rs vs F0 hr hp hv => ?_
  obtain ⟨v, rfl, h1⟩ := each1 hv
  exact ⟨_, (pss_one (ps_ret (pe_sl (pv 0)))), s_ret (r_roots W (by walk_at "rr"))⟩
-- Web.parts: 0:self 1:found 2:house 3:row 4:part 5:other
abbrev s_Web_parts : Stmt := inClass (topS 15) 5
abbrev N_Web_parts : List Str := ["self", "found", "house", "row", "part", "other"]
theorem sc_Web_parts : FnScope N_Web_parts ["self"] (defScope s_Web_parts) := ⟨rfl, rfl, rfl, by decide +kernel, rfl, by decide +kernel, by decide +kernel⟩
theorem ok_parts {f : Addr} {fd : FuncData} (B : Bf mg) (W : WebK K C_Web) (F : Fun K "parts" "Web.parts" s_Web_parts f fd) : FnOk P w K mg base CX0 1 f fd ["self"] (spProp C_Web K fun rs => Dt K (.tuple ((partsI (reachs rs)).map dI))) := by
  refine gf_ok F sc_Web_parts (fun _ => rfl) fun cdv A outer s H E rs vs F0 hr hp hv => ?_
  obtain ⟨v, rfl, h1⟩ := each1 hv
  refine ⟨_, (pss_cons (ps_set (i := 1) sc_Web_parts.nd rfl (by first | exact Or.inl rfl | exact Or.inr rfl) pe_dnewT)
      (pss_cons (ps_for PassesOwn.never rfl (pi_enumT (by rfl) B.enumerate (pa_cons (pe_sl (pv 0)) pa_nil)) (pg_tup rfl (pgs_cons (pg_name (i := 2) sc_Web_parts.nd rfl (by first | exact Or.inl rfl | exact Or.inr rfl)) (pgs_cons (pg_name (i := 3) sc_Web_parts.nd rfl (by first | exact Or.inl rfl | exact Or.inr rfl)) pgs_nil)))
        (pss_cons (ps_set (i := 4) sc_Web_parts.nd rfl (by first | exact Or.inl rfl | exact Or.inr rfl) (p_tuple B (pa_cons (pe_lc (own := [("other", 5)]) (g := gName 5) rfl sc_Web_parts.nd (pi_tup (pv 3)) (blkOk_by (N := N_Web_parts) (sc := defScope s_Web_parts) (by decide +kernel)) (fun _ _ _ _ _ => (pg_name (i := 5) sc_Web_parts.nd rfl (by first | exact Or.inl rfl | exact Or.inr rfl))) (fun _ _ _ _ _ => (pts_one (pt_cmpR (op_in_seqK K) (pv 2) (pe_ix (ix_tupK K) (pe_slK K (pv 0)) (pv 5) (fun _ _ => rfl)) rfl))) (fun _ _ _ _ _ => by exact (pv 5))) pa_nil)))
        (pss_one (ps_dput (hu_of hr) (pv 1) (pv 4) pe_bl rfl))))
      (pss_one (ps_ret (p_tuple B (pa_cons (p_sortedDT rfl hr.units B (pa_cons (pv 1) pa_nil)) pa_nil)))))), ?_⟩
  have ok : Ok rs := h1.1
  have hl := ok.le
  refine q_setX (Px := fun x F1 L1 => ∃ d, x = .ref d ∧ L1 = [(d, .dT [])]) (x_dnewT fun p F1 e => ⟨p, rfl, rfl⟩) ?_
  rintro x F1 L1 e1 ⟨d, rfl, rfl⟩
  refine q_for (fun i σ' F' L' => ∃ o2 o3 o4 o5, σ' = [some v, some (.ref d), o2, o3, o4, o5] ∧ L' = [(d, .dT (kvP (keysOf (reachs rs) i)))])
    (i_enumRows (xs := reachs rs) (f := dRow) (r_reached W (r_var rfl (Mono.go h1 e1)))) (fun F2 e2 => ⟨_, _, _, _, rfl, rfl⟩) (fun _ _ _ _ _ _ z => z) ?_ ?_
  · rintro i S x σ' F2 L2 e2 hS hx ⟨o2, o3, o4, o5, rfl, rfl⟩
    have hi : i < (reachs rs).length := by
      have := (List.getElem?_eq_some_iff.mp hS).1
      rwa [List.length_map, List.length_zipIdx] at this
    have hir : i < rs.length := by rwa [reachs_len] at hi
    rw [List.getElem?_map, List.getElem?_zipIdx, get_row hi] at hS
    cases hS
    have h1' := Mono.go h1 (e1.trans e2)
    refine g_pair hx fun u1 u2 hu1 hu2 => ?_
    have hq1 : Dt K (nI i) u1 F2 := by
      have z := hu1
      simp only [Nat.zero_add] at z
      exact z
    refine q_set (R := Tn ((partOf (reachs rs) i).map fun y => Dt K (nI y))) (r_tupTn (r_cons (r_ls (r_lcF (ι := Nat) (xs := row (reachs rs) i) (f := fun o => decide (i ∈ row (reachs rs) o)) (Ri := fun y => Dt K (nI y)) (Re := fun y => Dt K (nI y))
      (i_tupN (xs := row (reachs rs) i) (f := nI) (r_var rfl hu2)) ?_ (fun _ => rfl) (fun y u G1 e hy hu => ?_) fun y u G1 e hy hu _ => r_var rfl hu)) r_nil)) fun x3 F3 e3 h3 => ?_
    · rw [reachs_row hir]
      have := len_reachL (rs := rs) (h := i)
      omega
    · have hy' : y < (reachs rs).length := by
        rw [reachs_row hir] at hy
        rw [reachs_len]; exact (mem_reachL.mp hy).1
      exact t_test (r_inN (r_var rfl (dp_up e hq1)) (r_rowN (r_reached W (r_var rfl (Mono.go h1' e))) (r_var rfl hu) hy'))
    · refine s_dputT (k := cI (partOf (reachs rs) i)) (v := .bl true) (r_c rfl) (r_varE rfl) (r_var (R := Tn ((partOf (reachs rs) i).map fun y => Dt K (nI y))) rfl h3) (fun x F4 hx4 => ?_) ?_ fun F4 e4 => ⟨_, _, _, _, rfl, ?_⟩
      · obtain ⟨b, ws, rfl, hb, hw⟩ := hx4
        have hw2 := each_map_dt.mp hw
        rw [row_int] at hw2
        have := vs_ints (each_dt.mp hw2)
        rw [this] at hb
        exact ⟨b, rfl, hb⟩
      · unfold kvP
        rw [List.length_map]
        have := keys_len (re := reachs rs) i
        omega
      · rw [kvP_put]; rfl
  · rintro σ' F2 L2 e2 ⟨o2, o3, o4, o5, rfl, rfl⟩
    rw [List.length_map, List.length_zipIdx]
    refine s_ret (r_tupD (r_cons (r_sortedDT (d := d) (ks := (keysOf (reachs rs) (reachs rs).length).map cI) List.mem_cons_self (r_cons (r_varE (i := 1) rfl) r_nil) kvP_keys ?_ ?_ (partsI (reachs rs)) parts_perm parts_sorted) r_nil))
    · rw [List.length_map]
      have := keys_len (re := reachs rs) (reachs rs).length
      rw [reachs_len] at this ⊢
      omega
    · intro k hk
      obtain ⟨r, hr, rfl⟩ := List.mem_map.mp hk
      obtain ⟨h, hh, rfl⟩ := mem_keys.mp hr
      rw [reachs_len] at hh
      have := part_self hh
      intro z
      rw [List.map_eq_nil_iff] at z
      rw [z] at this; cases this
noncomputable abbrev spHears (C_Web : Addr) (K : PySem.W.Frag) : Sp := SpF (γ := Rows × Nat) (fun g => g.2 < g.1.length) (fun g => [webP C_Web K g.1, Dt K (nI g.2)]) (fun g => Dt K (dRow (hbL g.1 g.2)))
-- Web.hears: 0:self 1:house
abbrev s_Web_hears : Stmt := inClass (topS 15) 6
abbrev N_Web_hears : List Str := ["self", "house"]
theorem sc_Web_hears : FnScope N_Web_hears ["self", "house"] (defScope s_Web_hears) := ⟨rfl, rfl, rfl, by decide +kernel, rfl, by decide +kernel, by decide +kernel⟩
theorem ok_hears {f : Addr} {fd : FuncData} (c_require_house : Gf P w K mg base 4 "require_house" (spRequireHouse C_Web K)) (c_heard_by : Gf P w K mg base 1 "heard_by" (spHeardBy C_Web K)) (F : Fun K "hears" "Web.hears" s_Web_hears f fd) : FnOk P w K mg base CX0 5 f fd ["self", "house"] (spHears C_Web K) := by
  refine gf_ok F sc_Web_hears (fun _ => rfl) fun cdv A outer s H E ⟨rs, h⟩ vs F0 hr hp hv => ?_
  obtain ⟨v, v1, rfl, h1, h2⟩ := each2 hv
  refine ⟨_, (pss_cons (ps_expr (p_call c_require_house hr (by decide) (pa_cons (pv 0) (pa_cons (pv 1) pa_nil))))
      (pss_one (ps_ret (p_call c_heard_by hr (by decide) (pa_cons (pv 0) (pa_cons (pv 1) pa_nil)))))), ?_⟩
  refine q_drop (r_call (rs, h) hp (by walk_at "rr")) fun F1 e1 => ?_
  have h1' := Mono.go h1 e1
  have h2' := Mono.go h2 e1
  exact s_ret (r_call (rs, h) hp (by walk_at "rr"))
noncomputable abbrev spEq (C_Web : Addr) (K : PySem.W.Frag) : Sp := SpF (γ := Rows × Rows) (fun _ => True) (fun g => [webP C_Web K g.1, webP C_Web K g.2]) (fun g => Dt K (.bool (decide (g.1 = g.2))))
-- Web.__eq__: 0:self 1:other
abbrev s_Webu__equ_ : Stmt := inClass (topS 15) 17
abbrev N_Webu__equ_ : List Str := ["self", "other"]
theorem sc_Webu__equ_ : FnScope N_Webu__equ_ ["self", "other"] (defScope s_Webu__equ_) := ⟨rfl, rfl, rfl, by decide +kernel, rfl, by decide +kernel, by decide +kernel⟩
theorem ok_eq {f : Addr} {fd : FuncData} (B : Bf mg) (W : WebK K C_Web) (m_Web : mg "Web" = some (.ref C_Web)) (F : Fun K "__eq__" "Web.__eq__" s_Webu__equ_ f fd) : FnOk P w K mg base CX0 1 f fd ["self", "other"] (spEq C_Web K) := by
  refine gf_ok F sc_Webu__equ_ (fun _ => rfl) fun cdv A outer s H E ⟨rs, qs⟩ vs F0 hr hp hv => ?_
  obtain ⟨v, v1, rfl, h1, h2⟩ := each2 hv
  refine ⟨_, (pss_one (ps_ret (pe_and (p_isiS (.ref C_Web) B (pa_cons (pv 1) (pa_cons (p_cls (by rfl) m_Web) pa_nil))) (pe_one (pe_cmpR (op_eqD hr.units) (pe_sl (pv 0)) (pe_sl (pv 1)) (nomark _)))))), ?_⟩
  exact s_ret (r_and (a := true) (b := decide (rs = qs)) (r_isiS W (fun _ _ => webP.is) (r_cons (r_var rfl h2) (r_cons (r_c rfl) r_nil))) fun _ => r_is (r_eqD (r_heard W (by walk_at "rr")) (r_heard W (by walk_at "rr")) sh_rows sh_rows) (by rw [eqv_rows]))
end
end Wb

namespace Wb
open PySem PySem.Spec PyProof.Rows L2 SlX StX Rs Ma
local macro_rules | `(tactic| walk_at "rr") => `(tactic| (first
  | exact r_nil | exact r_int | exact r_bl | exact r_str
  | (refine r_var rfl ?_; assumption)
  | exact r_c rfl
  | (refine r_cons ?_ ?_ <;> walk_at "rr")))
def withinB (rs qs : Rows) : Bool := (flat (fun p : List Nat × List Nat => p.1) (rs.zip qs)).all fun q => decide (q.2 ∈ q.1.2)
theorem zip_flat_len {rs qs : Rows} (ok : Ok rs) : (flat (fun p : List Nat × List Nat => p.1) (rs.zip qs)).length ≤ 40000 := by
  have q : ∀ l : List (List Nat × List Nat), (∀ p ∈ l, p.1.length ≤ 5) → (flat (fun p : List Nat × List Nat => p.1) l).length ≤ 5 * l.length := by
    intro l
    induction l with
    | nil => intro _; simp [flat]
    | cons a l ih =>
      intro h
      have h1 := ih fun p hp => h p (List.mem_cons_of_mem _ hp)
      have h2 := h a List.mem_cons_self
      unfold flat at h1 ⊢
      rw [List.flatMap_cons, List.length_append, List.length_map, List.length_cons]
      show a.1.length + _ ≤ _
      omega
  have h1 := q (rs.zip qs) fun p hp => by
    have hm : p.1 ∈ rs := (List.of_mem_zip hp).1
    exact Nat.le_trans (nodup_len _ _ (asc_nodup (ok.asc _ hm)) (ok.lt _ hm)) ok.le
  rw [List.length_zip] at h1
  have := ok.le
  omega
theorem within_iff {rs qs : Rows} (h : rs.length = qs.length) : withinB rs qs = true ↔ ∀ i x, x ∈ row rs i → x ∈ row qs i := by
  unfold withinB flat
  simp only [List.all_eq_true, List.mem_flatMap, List.mem_map, decide_eq_true_eq]
  constructor
  · intro k i x hx
    by_cases hi : i < rs.length
    · have h1 := get_row hi
      have h2 := get_row (rs := qs) (y := i) (by omega)
      have hz : (row rs i, row qs i) ∈ rs.zip qs := List.mem_of_getElem? (List.getElem?_zip_eq_some.mpr ⟨h1, h2⟩)
      exact k ((row rs i, row qs i), x) ⟨_, hz, x, hx, rfl⟩
    · rw [row, List.getD_eq_getElem?_getD, List.getElem?_eq_none (by omega)] at hx
      cases hx
  · rintro k q ⟨p, hp, x, hx, rfl⟩
    obtain ⟨i, hi⟩ := List.mem_iff_getElem?.mp hp
    obtain ⟨h1, h2⟩ := List.getElem?_zip_eq_some.mp hi
    have := k i x (by rw [row_get h1]; exact hx)
    rwa [row_get h2] at this
section
variable {P : Program} {w : World} {K : PySem.W.Frag} {mg : Str → Option Value} {base : Heap} {C_Web : Addr}
noncomputable abbrev spWithin (C_Web : Addr) (K : PySem.W.Frag) : Sp := SpF (γ := Rows × Rows) (fun g => g.2.length = g.1.length) (fun g => [webP C_Web K g.1, webP C_Web K g.2]) (fun g => Dt K (.bool (withinB g.1 g.2)))
-- Web.is_within: 0:self 1:other 2:rows 3:one 4:two 5:house
abbrev s_Web_is_within : Stmt := inClass (topS 15) 13
abbrev N_Web_is_within : List Str := ["self", "other", "rows", "one", "two", "house"]
theorem sc_Web_is_within : FnScope N_Web_is_within ["self", "other"] (defScope s_Web_is_within) := ⟨rfl, rfl, rfl, by decide +kernel, rfl, by decide +kernel, by decide +kernel⟩
theorem ok_within {f : Addr} {fd : FuncData} (B : Bf mg) (W : WebK K C_Web) (c_require_like : Gf P w K mg base 2 "require_like" (spRequireLike C_Web K)) (F : Fun K "is_within" "Web.is_within" s_Web_is_within f fd) : FnOk P w K mg base CX0 3 f fd ["self", "other"] (spWithin C_Web K) := by
  refine gf_ok F sc_Web_is_within (fun _ => rfl) fun cdv A outer s H E ⟨rs, qs⟩ vs F0 hr hp hv => ?_
  obtain ⟨v, v1, rfl, h1, h2⟩ := each2 hv
  refine ⟨_, (pss_cons (ps_expr (p_call c_require_like hr (by decide) (pa_cons (pv 0) (pa_cons (pv 1) pa_nil))))
      (pss_cons (ps_set (i := 2) sc_Web_is_within.nd rfl (by first | exact Or.inl rfl | exact Or.inr rfl) (p_lz rfl B (pa_cons (pe_sl (pv 0)) (pa_cons (pe_sl (pv 1)) pa_nil)) (pk_cons pe_bl pk_nil)))
      (pss_one (ps_ret (p_all rfl B (pa_cons (pe_lc2 (own := [("one", 3), ("two", 4), ("house", 5)]) (vs1 := [5]) (g := gTup K 2 (gCons (gName 3) (gCons (gName 4) gNil))) (g1 := gName 5) (tt := tYes) (tt1 := tYes) rfl sc_Web_is_within.nd (pi_list (pv 2)) (blkOk_by (N := N_Web_is_within) (sc := defScope s_Web_is_within) (by decide +kernel)) (by decide) (fun _ _ _ _ _ => (pg_tup rfl (pgs_cons (pg_name (i := 3) sc_Web_is_within.nd rfl (by first | exact Or.inl rfl | exact Or.inr rfl)) (pgs_cons (pg_name (i := 4) sc_Web_is_within.nd rfl (by first | exact Or.inl rfl | exact Or.inr rfl)) pgs_nil)))) (fun _ _ _ _ _ => pts_nil) (fun _ _ _ _ _ => by exact (pi_tupK K (pv 3))) (fun _ _ _ _ _ => (pg_name (i := 5) sc_Web_is_within.nd rfl (by first | exact Or.inl rfl | exact Or.inr rfl))) (fun _ _ _ _ _ => pts_nil) (fun _ _ _ _ _ => by exact (pe_cmpR (op_in_seqK K) (pv 5) (pv 4) rfl))) pa_nil)))))), ?_⟩
  have hq : qs.length = rs.length := hp
  have ok : Ok rs := h1.1
  have hl := ok.le
  have hpos := ok.pos
  refine q_drop (r_call (rs, qs) hp (by walk_at "rr")) fun F1 e1 => ?_
  have h1' := Mono.go h1 e1
  have h2' := Mono.go h2 e1
  refine q_set (R := Ln ((rs.zip qs).map fun p => Tp K [Dt K (dRow p.1), Dt K (dRow p.2)])) (r_lz (f := fun r => Dt K (dRow r)) (g := fun r => Dt K (dRow r)) (xs := rs) (ys := qs) (r_cons ((r_heard W (r_var rfl h1')).weak fun v F e hv => by have := tp_dt.mpr hv; rwa [List.map_map] at this) (r_cons ((r_heard W (r_var rfl h2')).weak fun v F e hv => by have := tp_dt.mpr hv; rwa [List.map_map] at this) r_nil)) hq.symm (fun z => by rw [z] at hpos; exact absurd hpos (by decide)) (by omega)) fun x F2 e2 hx => ?_
  refine s_ret (r_is (r_all (bs := (flat (fun p : List Nat × List Nat => p.1) (rs.zip qs)).map fun q => decide (q.2 ∈ q.1.2)) (r_cons (r_ls (Run.weak (r_lc2 (ι := List Nat × List Nat) (κ := Nat) (xs := rs.zip qs) (ys := fun p => p.1) (Ri := fun p => Tp K [Dt K (dRow p.1), Dt K (dRow p.2)]) (Rj := fun p y => Dt K (nI y)) (Re := fun p y => Dt K (.bool (decide (y ∈ p.2))))
    (i_lst (r_ls (r_var rfl hx))) (zip_flat_len ok) fun p u G1 e hm hu => rg_pair hu fun u1 u2 G2 e2 q1 q2 => ⟨rfl, i_tupN (xs := p.1) (f := nI) (r_var rfl q1), fun y u3 G3 e3 hy q3 => rg_name fun G4 e4 => ⟨rfl, r_inN (r_var rfl (dp_up e4 q3)) (r_var rfl (dp_up (e3.trans e4) q2))⟩⟩) fun v F e hv => ?_)) r_nil)) ?_)
  · rw [List.map_map]; exact hv
  · unfold withinB; rw [List.all_map]; rfl
end
end Wb

namespace Wb
open PySem PySem.Spec PyProof.Rows L2 SlX StX Rs Ma
local macro_rules | `(tactic| walk_at "rr") => `(tactic| (first
  | exact r_nil | exact r_int | exact r_bl | exact r_str
  | (refine r_var rfl ?_; assumption)
  | exact r_c rfl
  | (refine r_cons ?_ ?_ <;> walk_at "rr")))
section
variable {P : Program} {w : World} {K : PySem.W.Frag} {mg : Str → Option Value} {base : Heap} {C_Web : Addr}
/-! ### the cask -/
abbrev spCask (K : PySem.W.Frag) : Sp := SpF (γ := List Int × Nat) (fun g => g.1.length ≤ 63) (fun g => [Dt K (.list (g.1.map .int)), Dt K (nI g.2)]) (fun _ => Ck 3)
-- _law_cask: 0:_law_script 1:_law_at 2:_law_cell 3:_law_great 4:_law_seed
abbrev s__law_cask : Stmt := topS 22
abbrev N__law_cask : List Str := ["_law_script", "_law_at", "_law_cell", "_law_great", "_law_seed"]
theorem sc__law_cask : FnScope N__law_cask ["_law_script", "_law_at"] (defScope s__law_cask) := ⟨rfl, rfl, rfl, by decide +kernel, rfl, by decide +kernel, by decide +kernel⟩
theorem ok_cask {f : Addr} {fd : FuncData} (B : Bf mg) (F : Fun K "_law_cask" "_law_cask" s__law_cask f fd) (hm : mg "_law_cask" = some (.ref f)) (b : Binds K fd ["_law_script", "_law_at"] []) : Gf P w K mg base 1 "_law_cask" (spCask K) := by
  refine ⟨f, fd, _, ck_new F sc__law_cask (fun _ => rfl) fun cdv A outer s H E ⟨ns, at_⟩ vs F0 hr hp hv => ?_, hm, F.kp, b⟩
  obtain ⟨v, v1, rfl, h1, h2⟩ := each2 hv
  have h1 : Dt K (.list (ns.map .int)) v F0 := h1
  refine ⟨_, (pss_cons (ps_set (i := 2) sc__law_cask.nd rfl (by first | exact Or.inl rfl | exact Or.inr rfl) (pe_ifExp (pt_cmpR op_lt (pv 1) (p_len B (pa_cons (pv 0) pa_nil)) (nomark _)) (pe_ix ix_list (pv 0) (pv 1) (fun _ _ => rfl)) (pe_op op_add (pe_op op_mul pe_int (pv 1)) pe_int)))
      (pss_cons (ps_set (i := 3) sc__law_cask.nd rfl (by first | exact Or.inl rfl | exact Or.inr rfl) (pe_op op_mod (p_int B (pa_cons (p_abs B (pa_cons (pv 2) pa_nil)) pa_nil)) (pe_op Nq.op_powX (pe_op Nq.op_powX pe_int pe_int) pe_int)))
      (pss_cons (ps_set (i := 4) sc__law_cask.nd rfl (by first | exact Or.inl rfl | exact Or.inr rfl) (pe_op op_mod (p_int B (pa_cons (pe_op op_add (pe_op op_add (pe_op op_add (pv 3) (pe_op op_mul pe_int (pv 1))) (pe_op op_mul pe_int (p_int B (pa_cons (pe_cmpR op_lt (pv 2) pe_int (nomark _)) pa_nil)))) pe_int) pa_nil)) (pe_op op_add (pe_op Nq.op_powX pe_int pe_int) pe_int)))
      (pss_one (ps_ret (pe_lst (pa_cons (pe_ifExp (pt_cmpR op_gt (pv 3) (pe_op Nq.op_powX pe_int pe_int) (nomark _)) (pe_op op_sub (pv 3) (pe_op Nq.op_powX pe_int pe_int)) pe_int) (pa_cons (pv 4) (pa_cons pe_int pa_nil))))))))), ?_⟩
  refine q_set (R := IntV) (r_if (b := decide (at_ < ns.length)) (t_is (t_test (r_I0b (by walk_at "rr") (r_is (r_lnLD (r_var rfl h1)) (by rw [List.length_map])))) (decide_eq_decide.mpr (by omega))) (fun hb => ?_) fun _ => a_op0 (a_mulL (r_int (K := K)) (r_any (by walk_at "rr")) ⟨by decide, by decide⟩) r_anyI) fun x2 F2 e2 h3 => ?_
  · rw [decide_eq_true_eq] at hb
    exact r_any (r_ixL (d := .int ns[at_]) (by walk_at "rr") (by walk_at "rr") (by rw [List.getElem?_map, List.getElem?_eq_getElem hb]; rfl))
  refine q_set (R := IntV) (a_modI (m := (10 ^ 60) ^ 8) (a_int (r_cons (a_abs (r_cons (r_var rfl h3) r_nil)) r_nil)) (r_Ii (f := fun i j => i ^ j.toNat) (r_Ii (f := fun i j => i ^ j.toNat) (r_int (K := K)) (r_int (K := K)) ⟨by decide, by decide +kernel⟩) (r_int (K := K)) ⟨by decide, by decide +kernel⟩) (by decide +kernel)) fun x3 F3 e3 h4 => ?_
  have h3' := Mono.go h3 e3
  refine q_set (R := IntV) (a_modI (m := 10 ^ 18 + 9) (a_int (r_cons (a_op0 (a_op0 (a_op0 (r_var rfl h4) (a_mulL (r_int (K := K)) (r_any (r_var (R := Dt K (nI at_)) rfl (dp_up (e2.trans e3) h2))) ⟨by decide, by decide⟩)) (a_mulL (r_int (K := K)) (a_intB (r_cons (a_cmp (r_var rfl h3') r_anyI) r_nil)) ⟨by decide, by decide⟩)) r_anyI) r_nil)) (r_I0i (r_Ii (f := fun i j => i ^ j.toNat) (r_int (K := K)) (r_int (K := K)) ⟨by decide, by decide +kernel⟩) (r_int (K := K))) (by decide +kernel)) fun x4 F4 e4 h5 => ?_
  have h4' := Mono.go h4 e4
  refine s_ret ((r_lstN (Rs := [IntV, IntV, IntV]) (r_cons (a_if (a_test (a_cmp (r_var rfl h4') (r_any (r_Ii (f := fun i j => i ^ j.toNat) (r_int (K := K)) (r_int (K := K)) ⟨by decide, by decide +kernel⟩)))) (a_op0 (r_var rfl h4') (r_any (r_Ii (f := fun i j => i ^ j.toNat) (r_int (K := K)) (r_int (K := K)) ⟨by decide, by decide +kernel⟩))) r_anyI) (r_cons (r_var rfl h5) (r_cons r_anyI r_nil))) (by show 3 ≤ 100000; decide)).weak fun v F5 e5 ⟨a, vs, q1, q2, q3, q4⟩ => ?_)
  obtain ⟨y1, y2, y3, rfl, ⟨i1, rfl⟩, ⟨i2, rfl⟩, ⟨i3, rfl⟩⟩ := each3 q3
  exact ⟨a, [i1, i2, i3], q1, q2, rfl, ((e2.trans e3).trans e4).free q4⟩
-- _law_scoop: 0:_law_cask_here 1:_law_total 2:_law_found 3:_law_one 4:_law_two 5:_law_three
abbrev s__law_scoop : Stmt := topS 23
abbrev N__law_scoop : List Str := ["_law_cask_here", "_law_total", "_law_found", "_law_one", "_law_two", "_law_three"]
theorem sc__law_scoop : FnScope N__law_scoop ["_law_cask_here", "_law_total"] (defScope s__law_scoop) := ⟨rfl, rfl, rfl, by decide +kernel, rfl, by decide +kernel, by decide +kernel⟩
theorem ok_scoop {f : Addr} {fd : FuncData} (B : Bf mg) (F : Fun K "_law_scoop" "_law_scoop" s__law_scoop f fd) (hm : mg "_law_scoop" = some (.ref f)) (b : Binds K fd ["_law_cask_here", "_law_total"] []) : Gf P w K mg base 1 "_law_scoop" (SpF (γ := Nat) (fun t => 1 ≤ t ∧ t ≤ 1000) (fun t => [Ck 3, Dt K (nI t)]) Bd) := by
  refine ⟨f, fd, _, ck_fn (Rs := fun t => [Dt K (nI t)]) (by decide) (fun g v F F' h => h) (fun g vs F F' h => ?_) (cell_ok F sc__law_scoop (fun _ => rfl) fun cdv A outer s H E t a xs vs F0 hr ⟨hp1, hp2⟩ hx hv => ?_) (fun _ => rfl), hm, F.kp, b⟩
  · obtain ⟨v, rfl, hv⟩ := each1 h
    cases hv
    exact ⟨.int _, True.intro⟩
  obtain ⟨v1, rfl, h2⟩ := each1 hv
  cases h2
  have h2 : ∀ F, Dt K (nI t) (.int (t : Int)) F := fun F => .int _
  obtain ⟨x, y, z, rfl⟩ : ∃ x y z, xs = [x, y, z] := by
    match xs, hx with
    | [x, y, z], _ => exact ⟨x, y, z, rfl⟩
  refine ⟨_, (pss_cons (ps_if (pt_cmpR op_gt (pe_ix ix_list (pv 0) pe_int (fun _ _ => rfl)) pe_int (nomark _))
        (pss_cons (ps_set (i := 2) sc__law_scoop.nd rfl (by first | exact Or.inl rfl | exact Or.inr rfl) (pe_op op_mod (p_int B (pa_cons (pe_ix ix_list (pv 0) pe_int (fun _ _ => rfl)) pa_nil)) (pv 1)))
        (pss_cons (ps_asg (pe_op op_fdivW (pe_ix ix_list (pv 0) pe_int (fun _ _ => rfl)) (pv 1)) (pg_sub (pv 0) pe_int set_list))
        (pss_one (ps_ret (pv 2)))))
        pss_nil)
      (pss_cons (ps_asg (pe_op op_add (pe_ix ix_list (pv 0) pe_int (fun _ _ => rfl)) pe_int) (pg_sub (pv 0) pe_int set_list))
      (pss_cons (ps_set (i := 3) sc__law_scoop.nd rfl (by first | exact Or.inl rfl | exact Or.inr rfl) (pe_op op_mod (p_int B (pa_cons (pe_op op_add (pe_ix ix_list (pv 0) pe_int (fun _ _ => rfl)) (pe_op op_mul pe_int (pe_ix ix_list (pv 0) pe_int (fun _ _ => rfl)))) pa_nil)) pe_int))
      (pss_cons (ps_set (i := 4) sc__law_scoop.nd rfl (by first | exact Or.inl rfl | exact Or.inr rfl) (pe_op op_mod (p_int B (pa_cons (pe_op op_add (pe_op op_add (pe_op op_mul (pv 3) (pv 3)) (pe_op op_fdivW (pe_ix ix_list (pv 0) pe_int (fun _ _ => rfl)) pe_int)) (pe_op op_mul pe_int (pe_ix ix_list (pv 0) pe_int (fun _ _ => rfl)))) pa_nil)) pe_int))
      (pss_cons (ps_set (i := 5) sc__law_scoop.nd rfl (by first | exact Or.inl rfl | exact Or.inr rfl) (pe_op op_mod (p_int B (pa_cons (pe_op op_add (pe_op op_mul (pv 4) (pv 4)) (pv 3)) pa_nil)) pe_int))
      (pss_one (ps_ret (pe_op op_mod (p_int B (pa_cons (pe_op op_fdivW (pv 5) pe_int) pa_nil)) (pv 1))))))))), ?_⟩
  refine u_if (a_test (a_cmp (r_any (r_ixI (xs := [x, y, z]) (n := 0) List.mem_cons_self (r_varE rfl) (r_int (K := K)) rfl)) r_anyI)) ?_ ?_
  · refine u_assoc (u_set (R := Bd t) (a_mod (a_int (r_cons (r_any (r_ixI (xs := [x, y, z]) (n := 0) List.mem_cons_self (r_varE rfl) (r_int (K := K)) rfl)) r_nil)) (r_var rfl (h2 _)) hp1) fun x1 F1 e1 g1 => ?_)
    refine u_assoc (u_setC (R := IntV) (a_div (r_any (r_ixI (xs := [x, y, z]) (n := 0) List.mem_cons_self (r_varE rfl) (r_int (K := K)) rfl)) (r_var rfl (h2 _)) ⟨by omega, ?_⟩) (r_varE rfl) (n := 0) (r_int (K := K)) (by show 0 < 3; decide) fun x2 F2 e2 ⟨i, g2⟩ => ?_)
    · have := Nat.log2_le_self t
      show (t : Int).natAbs.log2 < 9000
      rw [Int.natAbs_natCast]
      omega
    subst g2
    exact u_retq (R := Bd t) (r_var rfl g1) fun v F3 e3 hv => ⟨hv, [i, y, z], rfl, rfl⟩
  · refine u_next ?_
    refine u_setC (R := IntV) (a_op0 (r_any (r_ixI (xs := [x, y, z]) (n := 2) List.mem_cons_self (r_varE rfl) (r_int (K := K)) rfl)) r_anyI) (r_varE rfl) (n := 2) (r_int (K := K)) (by show 2 < 3; decide) fun x1 F1 e1 ⟨i, g1⟩ => ?_
    subst g1
    refine u_set (R := Bd 2147483587) (a_mod (m := 2147483587) (a_int (r_cons (a_op0 (r_any (r_ixI (xs := [x, y, i]) (n := 1) List.mem_cons_self (r_varE rfl) (r_int (K := K)) rfl)) (a_mulL (r_int (K := K)) (r_any (r_ixI (xs := [x, y, i]) (n := 2) List.mem_cons_self (r_varE rfl) (r_int (K := K)) rfl)) ⟨by decide, by decide⟩)) r_nil)) (r_int (K := K)) (by decide)) fun x2 F2 e2 g2 => ?_
    refine u_set (R := Bd 1000000033) (a_mod (m := 1000000033) (a_int (r_cons (a_op0 (a_op0 (a_mulB (r_var rfl g2) (r_anyB (r_var rfl g2)) (by decide)) (a_div (r_any (r_ixI (xs := [x, y, i]) (n := 1) List.mem_cons_self (r_varE rfl) (r_int (K := K)) rfl)) (r_int (K := K)) ⟨by decide, by decide +kernel⟩)) (a_mulL (r_int (K := K)) (r_any (r_ixI (xs := [x, y, i]) (n := 2) List.mem_cons_self (r_varE rfl) (r_int (K := K)) rfl)) ⟨by decide, by decide⟩)) r_nil)) (r_int (K := K)) (by decide)) fun x3 F3 e3 g3 => ?_
    have g2' := Mono.go g2 e3
    refine u_set (R := Bd 999999929) (a_mod (m := 999999929) (a_int (r_cons (a_op0 (a_mulB (r_var rfl g3) (r_anyB (r_var rfl g3)) (by decide)) (r_anyB (r_var rfl g2'))) r_nil)) (r_int (K := K)) (by decide)) fun x4 F4 e4 g4 => ?_
    exact u_ret (R := Bd t) (a_mod (a_int (r_cons (a_div (r_anyB (r_var rfl g4)) (r_int (K := K)) ⟨by decide, by decide +kernel⟩) r_nil)) (r_var rfl (h2 _)) hp1) fun v F5 e5 hv => ⟨hv, [x, y, i], rfl, rfl⟩
end
end Wb

namespace Wb
open PySem PySem.Spec PyProof.Rows L2 SlX StX Rs Ma
local macro_rules | `(tactic| walk_at "rr") => `(tactic| (first
  | exact r_nil | exact r_int | exact r_bl | exact r_str
  | (refine r_var rfl ?_; assumption)
  | exact r_c rfl
  | (refine r_cons ?_ ?_ <;> walk_at "rr")))
section
variable {P : Program} {w : World} {K : PySem.W.Frag} {mg : Str → Option Value} {base : Heap} {C_Web : Addr}
abbrev spScoop (K : PySem.W.Frag) : Sp := SpF (γ := Nat) (fun t => 1 ≤ t ∧ t ≤ 1000) (fun t => [Ck 3, Dt K (nI t)]) Bd
abbrev spAnyOf (K : PySem.W.Frag) : Sp := SpF (γ := List Nat) (fun g => g ≠ [] ∧ g.length ≤ 1000) (fun g => [Ck 3, Dt K (.list (g.map nI))]) (fun _ => NatV)
theorem len_pos {α : Type} {g : List α} (h : g ≠ []) : 1 ≤ g.length := by
  cases g with
  | nil => exact absurd rfl h
  | cons a l => rw [List.length_cons]; omega
-- _law_any_of: 0:_law_cask_here 1:_law_items
abbrev s__law_any_of : Stmt := topS 24
abbrev N__law_any_of : List Str := ["_law_cask_here", "_law_items"]
theorem sc__law_any_of : FnScope N__law_any_of ["_law_cask_here", "_law_items"] (defScope s__law_any_of) := ⟨rfl, rfl, rfl, by decide +kernel, rfl, by decide +kernel, by decide +kernel⟩
theorem ok_any_of {f : Addr} {fd : FuncData} (B : Bf mg) (c_law_scoop : Gf P w K mg base 1 "_law_scoop" (spScoop K)) (F : Fun K "_law_any_of" "_law_any_of" s__law_any_of f fd) (hm : mg "_law_any_of" = some (.ref f)) (b : Binds K fd ["_law_cask_here", "_law_items"] []) : Gf P w K mg base 2 "_law_any_of" (spAnyOf K) := by
  refine gf_mk F hm b sc__law_any_of (fun _ => rfl) fun cdv A outer s H E g vs F0 hr ⟨hp1, hp2⟩ hv => ?_
  obtain ⟨v, v1, rfl, h1, h2⟩ := each2 hv
  refine ⟨_, (pss_one (ps_ret (pe_ix ix_list (pv 1) (p_call c_law_scoop hr (by decide) (pa_cons (pv 0) (pa_cons (p_len B (pa_cons (pv 1) pa_nil)) pa_nil))) (fun _ _ => rfl)))), ?_⟩
  refine s_ret (Run.weak (r_ixBd (ds := g.map nI) (n := g.length) (by rw [List.length_map]) (r_var rfl h2) (r_call (R := Bd) g.length ⟨len_pos hp1, hp2⟩ (r_cons (r_var rfl h1) (r_cons (r_is (r_lnLD (r_var rfl h2)) (by rw [List.length_map])) r_nil)))) fun v F1 e ⟨d, hd, hv⟩ => ?_)
  obtain ⟨n, hn, rfl⟩ := List.mem_map.mp hd
  exact ⟨n, dt_int hv⟩
abbrev FewP (g : List Nat) (fs : List Nat) : Prop := fs.Nodup ∧ (∀ x ∈ fs, x ∈ g) ∧ fs.length ≤ g.length
abbrev spFewOf (K : PySem.W.Frag) : Sp := SpF (γ := List Nat) (fun g => g.Nodup ∧ g.length ≤ 60) (fun g => [Ck 3, Dt K (.list (g.map nI)), NatV]) (fun g => LsP K (FewP g))
theorem vN_app {a b : List Nat} : vN (a ++ b) = vN a ++ vN b := List.map_append
-- _law_few_of: 0:_law_cask_here 1:_law_items 2:_law_count 3:_law_left 4:_law_found 5:_law_turn
abbrev s__law_few_of : Stmt := topS 25
abbrev N__law_few_of : List Str := ["_law_cask_here", "_law_items", "_law_count", "_law_left", "_law_found", "_law_turn"]
theorem sc__law_few_of : FnScope N__law_few_of ["_law_cask_here", "_law_items", "_law_count"] (defScope s__law_few_of) := ⟨rfl, rfl, rfl, by decide +kernel, rfl, by decide +kernel, by decide +kernel⟩
theorem ok_few_of {f : Addr} {fd : FuncData} (B : Bf mg) (c_law_scoop : Gf P w K mg base 1 "_law_scoop" (spScoop K)) (F : Fun K "_law_few_of" "_law_few_of" s__law_few_of f fd) (hm : mg "_law_few_of" = some (.ref f)) (b : Binds K fd ["_law_cask_here", "_law_items", "_law_count"] []) : Gf P w K mg base 2 "_law_few_of" (spFewOf K) := by
  refine gf_mk F hm b sc__law_few_of (fun _ => rfl) fun cdv A outer s H E g vs F0 hr ⟨hp1, hp2⟩ hv => ?_
  obtain ⟨v, v1, v2, rfl, h1, h2, c, rfl⟩ := each3 hv
  refine ⟨_, (pss_cons (ps_par (i := 3) (j := 4) rfl sc__law_few_of.nd rfl rfl (by decide) rfl rfl (pa_cons (p_list B (pa_cons (pv 1) pa_nil)) (pa_cons (pe_lst pa_nil) pa_nil)) (by rfl))
      (pss_cons (ps_for PassesOwn.never rfl (pi_range1 (by rfl) B.range (pa_cons (p_min2 rfl B (pa_cons (pv 2) (pa_cons (p_len B (pa_cons (pv 1) pa_nil)) pa_nil))) pa_nil)) (pg_name (i := 5) sc__law_few_of.nd rfl (by first | exact Or.inl rfl | exact Or.inr rfl))
        (pss_one (ps_expr (pe_bm PySem.F.plainAttrs_list PySem.F.slot_list_append PySem.F.type_list_append mt_append (pv 4) (pa_cons (pe_bm PySem.F.plainAttrs_list PySem.F.slot_list_pop PySem.F.type_list_pop mt_popAt (pv 3) (pa_cons (p_call c_law_scoop hr (by decide) (pa_cons (pv 0) (pa_cons (p_len B (pa_cons (pv 3) pa_nil)) pa_nil))) pa_nil)) pa_nil)))))
      (pss_one (ps_ret (pv 4))))), ?_⟩
  refine q_par (S := fun x y F1 L1 => ∃ l m, x = .ref l ∧ y = .ref m ∧ L1 = [(m, .lst (vN [])), (l, .lst (vN g))]) ?_ ?_
  · refine x_cons (x_listN (r_var rfl h2)) ?_
    rintro x F1 L1 e1 ⟨l, rfl, rfl⟩
    refine x_cons (x_lst (Rs := []) r_nil (by decide)) ?_
    rintro y F2 L2 e2 ⟨m, ws, rfl, hw, rfl⟩
    obtain rfl := each0 hw
    exact x_ret fun F3 e3 => ⟨_, _, rfl, l, m, rfl, rfl, rfl⟩
  rintro x y F1 L1 e1 ⟨l, m, rfl, rfl, rfl⟩
  have h2' : Dt K (.list (g.map nI)) v1 F1 := dp_up e1 h2
  refine q_for (fun i σ' F' L' => ∃ o ls fs, σ' = [some v, some v1, some (.int (c : Int)), some (.ref l), some (.ref m), o] ∧ L' = [(m, .lst (vN fs)), (l, .lst (vN ls))] ∧ (ls ++ fs).Perm g ∧ fs.length = i)
    (i_rangeN (n := min c g.length) (r_min2N (r_cons (r_var (R := Dt K (nI c)) rfl (.int _)) (r_cons (r_is (r_lnLD (r_var rfl h2')) (by rw [List.length_map])) r_nil))) (by omega)) (fun F2 e2 => ⟨_, g, [], rfl, rfl, by rw [List.append_nil], rfl⟩) (fun _ _ _ _ _ _ z => z) ?_ ?_
  · rintro i S x σ' F2 L2 e2 hS hx ⟨o, ls, fs, rfl, rfl, hpm, hfl⟩
    have hi : i < min c g.length := by
      have := (List.getElem?_eq_some_iff.mp hS).1
      rwa [List.length_map, List.length_range] at this
    have hlen : ls.length + fs.length = g.length := by
      have := hpm.length_eq
      rwa [List.length_append] at this
    have h1' := Mono.go h1 (e1.trans e2)
    refine g_name ?_
    refine s_appX (S := fun v F L2 => ∃ (n y : Nat), n < ls.length ∧ ls[n]? = some y ∧ v = .int y ∧ L2 = [(l, .lst (vN (ls.eraseIdx n)))]) (r_varE rfl) ?_ (by rw [List.length_map]; omega) ?_
    · refine RunX.perm (L' := [(l, .lst (vN ls)), (m, .lst (vN fs))]) ?_ (List.Perm.swap _ _ _)
      refine x_weak (x_popBd (m := ls.length) rfl (r_varE rfl) (r_cons (r_call (R := Bd) ls.length ⟨by omega, by omega⟩ (r_cons (r_var rfl h1') (r_cons (r_is (r_lnC List.mem_cons_self (r_cons (r_varE rfl) r_nil)) (by rw [List.length_map])) r_nil))) r_nil) (by omega)) ?_
      rintro v F3 L3 ⟨n, y, hn, hy, rfl, rfl⟩
      exact ⟨_, List.Perm.swap _ _ _, ⟨[(l, .lst (vN (ls.eraseIdx n)))], rfl, n, y, hn, hy, rfl, rfl⟩⟩
    · rintro v F3 L3 e3 ⟨n, y, hn, hy, rfl, rfl⟩
      refine ⟨_, ls.eraseIdx n, fs ++ [y], rfl, by rw [vN_app]; rfl, ?_, by rw [List.length_append, hfl]; rfl⟩
      have hye : ls[n] = y := by rw [List.getElem?_eq_getElem hn] at hy; exact Option.some.inj hy
      have p1 : (ls.eraseIdx n ++ (fs ++ [y])).Perm (y :: ls.eraseIdx n ++ fs) := by
        rw [← List.append_assoc]
        exact List.perm_append_comm
      refine p1.trans (List.Perm.trans ?_ hpm)
      exact List.Perm.append_right fs (by rw [← hye]; exact er_perm ls n hn)
  · rintro σ' F2 L2 e2 ⟨o, ls, fs, rfl, rfl, hpm, hfl⟩
    have hlen : ls.length + fs.length = g.length := by
      have := hpm.length_eq
      rwa [List.length_append] at this
    refine RunS.keep fun hm => ?_
    refine s_ret (r_var (R := LsP K (FewP g)) rfl ⟨fs, ⟨?_, ?_, by omega⟩, ?_⟩)
    · have := hpm.nodup_iff.mpr hp1
      exact (List.nodup_append.mp this).2.1
    · intro x hx
      exact hpm.mem_iff.mp (List.mem_append_right _ hx)
    · refine ls_dt.mp ⟨m, vN fs, rfl, .inl (.inl upd_same), ?_⟩
      rw [row_int]
      have e1 : vN fs = (cI fs).map V.int := by rw [List.map_map]; rfl
      rw [e1]
      exact each_dt.mpr ints_vs
end
end Wb

namespace Wb
open PySem PySem.Spec PyProof.Rows L2 SlX StX Rs Ma
local macro_rules | `(tactic| walk_at "rr") => `(tactic| (first
  | exact r_nil | exact r_int | exact r_bl | exact r_str
  | (refine r_var rfl ?_; assumption)
  | exact r_c rfl
  | (refine r_cons ?_ ?_ <;> walk_at "rr")))
section
variable {P : Program} {w : World} {K : PySem.W.Frag} {mg : Str → Option Value} {base : Heap} {C_Web : Addr}
abbrev waysL : List (List Nat) := [[0, 1, 1, 2], [1], [0, 1], [1, 2, 3, 4], [4]]
abbrev RowsP (n : Nat) (rs : Rows) : Prop := Ok rs ∧ rs.length = n
abbrev spRows (K : PySem.W.Frag) : Sp := SpF (γ := Nat) (fun n => 1 ≤ n ∧ n ≤ 5) (fun n => [Ck 3, Dt K (nI n)]) (fun n => RwP K (RowsP n))
def PartOk (n : Nat) (rs : Rows) : Prop := ∀ (j : Nat) (r : List Nat), rs[j]? = some r → Asc r ∧ (∀ x ∈ r, x < n) ∧ j ∉ r
theorem PartOk.snoc {n : Nat} {rs : Rows} {r : List Nat} (h : PartOk n rs) (h1 : Asc r) (h2 : ∀ x ∈ r, x < n) (h3 : rs.length ∉ r) : PartOk n (rs ++ [r]) := fun j q hq => by
  rcases Nat.lt_trichotomy j rs.length with c | c | c
  · rw [List.getElem?_append_left c] at hq; exact h j q hq
  · subst c
    rw [List.getElem?_append_right (Nat.le_refl _), Nat.sub_self] at hq
    cases hq
    exact ⟨h1, h2, h3⟩
  · rw [List.getElem?_eq_none (by rw [List.length_append, List.length_singleton]; omega)] at hq; cases hq
theorem PartOk.ok {n : Nat} {rs : Rows} (h : PartOk n rs) (hl : rs.length = n) (h1 : 1 ≤ n) (h2 : n ≤ 5) : Ok rs := by
  refine ⟨by omega, by omega, fun r hr => ?_, fun r hr x hx => ?_, fun i r hr => (h i r hr).2.2⟩
  · obtain ⟨j, hj⟩ := List.mem_iff_getElem?.mp hr
    exact (h j r hj).1
  · obtain ⟨j, hj⟩ := List.mem_iff_getElem?.mp hr
    rw [hl]; exact (h j r hj).2.1 x hx
-- _law_rows: 0:_law_cask_here 1:_law_size 2:_law_way 3:_law_found 4:_law_house 5:_law_others 6:_law_one 7:_law_count
abbrev s__law_rows : Stmt := topS 26
abbrev N__law_rows : List Str := ["_law_cask_here", "_law_size", "_law_way", "_law_found", "_law_house", "_law_others", "_law_one", "_law_count"]
theorem sc__law_rows : FnScope N__law_rows ["_law_cask_here", "_law_size"] (defScope s__law_rows) := ⟨rfl, rfl, rfl, by decide +kernel, rfl, by decide +kernel, by decide +kernel⟩
theorem ok_rows {f : Addr} {fd : FuncData} (B : Bf mg) (c_law_scoop : Gf P w K mg base 1 "_law_scoop" (spScoop K)) (c_law_any_of : Gf P w K mg base 2 "_law_any_of" (spAnyOf K)) (c_law_few_of : Gf P w K mg base 2 "_law_few_of" (spFewOf K)) (F : Fun K "_law_rows" "_law_rows" s__law_rows f fd) (hm : mg "_law_rows" = some (.ref f)) (b : Binds K fd ["_law_cask_here", "_law_size"] []) : Gf P w K mg base 3 "_law_rows" (spRows K) := by
  refine gf_mk F hm b sc__law_rows (fun _ => rfl) fun cdv A outer s H E n vs F0 hr ⟨hp1, hp2⟩ hv => ?_
  obtain ⟨v, v1, rfl, h1, h2⟩ := each2 hv
  refine ⟨_, (pss_cons (ps_par (i := 2) (j := 3) rfl sc__law_rows.nd rfl rfl (by decide) rfl rfl (pa_cons (p_call c_law_scoop hr (by decide) (pa_cons (pv 0) (pa_cons pe_int pa_nil))) (pa_cons (pe_lst pa_nil) pa_nil)) (by rfl))
      (pss_cons (ps_for PassesOwn.never rfl (pi_range1 (by rfl) B.range (pa_cons (pv 1) pa_nil)) (pg_name (i := 4) sc__law_rows.nd rfl (by first | exact Or.inl rfl | exact Or.inr rfl))
        (pss_cons (ps_setLc (i := 5) (own := [("_law_one", 6)]) (g := gName 6)  rfl sc__law_rows.nd rfl rfl (sw_true rfl rfl rfl (by decide +kernel)) (pi_range1 (by rfl) B.range (pa_cons (pv 1) pa_nil)) (blkOk_by (N := N__law_rows) (sc := defScope s__law_rows) (by decide +kernel)) (fun _ _ _ _ _ => (pg_name (i := 6) sc__law_rows.nd rfl (by first | exact Or.inl rfl | exact Or.inr rfl))) (fun _ _ _ _ _ => (pts_one (pt_cmpR op_ne (pv 6) (pv 4) (nomark _)))) (fun _ _ _ _ _ => by exact (pv 6)))
        (pss_cons (ps_set (i := 7) sc__law_rows.nd rfl (by first | exact Or.inl rfl | exact Or.inr rfl) (p_min2 rfl B (pa_cons (p_len B (pa_cons (pv 5) pa_nil)) (pa_cons (p_call c_law_any_of hr (by decide) (pa_cons (pv 0) (pa_cons (pe_ix ix_list (pe_lst (pa_cons (pe_lst (pa_cons pe_int (pa_cons pe_int (pa_cons pe_int (pa_cons pe_int pa_nil))))) (pa_cons (pe_lst (pa_cons pe_int pa_nil)) (pa_cons (pe_lst (pa_cons pe_int (pa_cons pe_int pa_nil))) (pa_cons (pe_lst (pa_cons pe_int (pa_cons pe_int (pa_cons pe_int (pa_cons pe_int pa_nil))))) (pa_cons (pe_lst (pa_cons pe_int pa_nil)) pa_nil)))))) (pv 2) (fun _ _ => rfl)) pa_nil))) pa_nil))))
        (pss_one (ps_expr (pe_bm PySem.F.plainAttrs_list PySem.F.slot_list_append PySem.F.type_list_append mt_append (pv 3) (pa_cons (p_tuple B (pa_cons (p_sortedL B (pa_cons (p_call c_law_few_of hr (by decide) (pa_cons (pv 0) (pa_cons (pv 5) (pa_cons (pv 7) pa_nil)))) pa_nil)) pa_nil)) pa_nil)))))))
      (pss_one (ps_ret (p_tuple B (pa_cons (pv 3) pa_nil)))))), ?_⟩
  refine q_par (S := fun x y F1 L1 => ∃ (k : Nat) (m : Addr), k < 5 ∧ x = .int k ∧ y = .ref m ∧ L1 = [(m, .lst [])]) ?_ ?_
  · refine x_cons (Run.x (P := fun v _ L1 => (∃ k : Nat, k < 5 ∧ v = V.int (k : Int)) ∧ L1 = []) (r_call (R := Bd) 5 ⟨by decide, by decide⟩ (r_cons (r_var rfl h1) (r_cons (r_int (j := 5)) r_nil))) fun v F2 e2 hv => ⟨hv, rfl⟩) ?_
    rintro x F1 L1 e1 ⟨⟨k, hk, rfl⟩, rfl⟩
    refine x_cons (x_lst (Rs := []) r_nil (by decide)) ?_
    rintro y F2 L2 e2 ⟨m, ws, rfl, hw, rfl⟩
    obtain rfl := each0 hw
    exact x_ret fun F3 e3 => ⟨_, _, rfl, k, m, hk, rfl, rfl, rfl⟩
  rintro x y F1 L1 e1 ⟨k, m, hk, rfl, rfl, rfl⟩
  refine q_for (fun i σ' F' L' => ∃ o4 o5 o6 o7 rs vs, σ' = [some v, some v1, some (.int (k : Int)), some (.ref m), o4, o5, o6, o7] ∧ L' = [(m, .lst vs)] ∧ PartOk n rs ∧ rs.length = i ∧ Each (rs.map fun r => Dt K (dRow r)) vs F')
    (i_rangeN (n := n) (r_var rfl (dp_up e1 h2)) (by omega)) (fun F2 e2 => ⟨_, _, _, _, [], [], rfl, rfl, (fun j r hr => by cases hr), rfl, True.intro⟩) (fun i σ' F' F'' L' e ⟨o4, o5, o6, o7, rs, vs, q1, q2, q3, q4, q5⟩ => ⟨o4, o5, o6, o7, rs, vs, q1, q2, q3, q4, MonoL.mono _ _ _ e q5⟩) ?_ ?_
  · rintro i S x σ' F2 L2 e2 hS hx ⟨o4, o5, o6, o7, rs, ws, rfl, rfl, hpo, hrl, hws⟩
    have hi : i < n := by
      have := (List.getElem?_eq_some_iff.mp hS).1
      rwa [List.length_map, List.length_range] at this
    rw [List.getElem?_map, List.getElem?_range hi] at hS
    cases hS
    have h1' := Mono.go h1 (e1.trans e2)
    have h2' := Mono.go h2 (e1.trans e2)
    have hwl : ws.length = i := by rw [each_length hws, List.length_map, hrl]
    refine g_name ?_
    refine q_set (R := Dt K (.list (((List.range n).filter fun y => !decide (y = i)).map nI))) (r_lnD (α := Nat) (f := nI) (r_lcF (ι := Nat) (xs := List.range n) (f := fun y => !decide (y = i)) (Ri := fun y => Dt K (nI y)) (Re := fun y => Dt K (nI y))
      (i_rangeN (n := n) (r_var rfl h2') (by omega)) (by rw [List.length_range]; omega) (fun _ => rfl) (fun y u G1 e hy hu => t_test (r_neN (r_var rfl hu) (r_var rfl (dp_up e hx)))) fun y u G1 e hy hu _ => r_var rfl hu)) fun x5 F5 e5 h5 => ?_
    have hol : ((List.range n).filter fun y => !decide (y = i)).length ≤ n := Nat.le_trans (List.length_filter_le _ _) (by rw [List.length_range]; exact Nat.le_refl _)
    refine q_set (R := NatV) (r_minN (i := ((List.range n).filter fun y => !decide (y = i)).length) (r_cons (r_is (r_lnLD (r_var rfl h5)) (by rw [List.length_map])) (r_cons (Run.weak (r_callE (pre := fun g : List Nat => g ≠ [] ∧ g.length ≤ 1000) (Rs := fun g => [Ck 3, Dt K (.list (g.map nI))]) (R := fun _ => NatV) (fun g => inferInstance) (Run.weak (r_cons (R := Ck 3) (r_var rfl (Mono.go h1' e5)) (r_cons (R := OneD K (waysL.map fun o => .list (o.map nI))) (r_ixBd (ds := waysL.map fun o => .list (o.map nI)) (n := 5) rfl (r_lnD (xs := waysL) (f := fun o => .list (o.map nI)) (r_lst (Rs := waysL.map fun o => Dt K (.list (o.map nI))) ?_ (by show 5 ≤ 100000; decide))) (r_var (R := Bd 5) rfl ⟨k, hk, rfl⟩)) r_nil)) fun vs F e hvs => ?_)) fun v F e ⟨g, _, hv⟩ => hv) r_nil))) fun x6 F6 e6 h6 => ?_
    · have lst : ∀ o : List Nat, ∀ t, Run (t [some v, some v1, some (V.int (k : Int)), some (V.ref m), some x, some x5, o6, o7]) F5 [(m, .lst ws)] (Each (o.map fun y => Dt K (nI y))) → o.length ≤ 100 → Run (tLst t [some v, some v1, some (V.int (k : Int)), some (V.ref m), some x, some x5, o6, o7]) F5 [(m, .lst ws)] (Dt K (.list (o.map nI))) := fun o t h hl => r_lnD (r_lst h (by rw [List.length_map]; omega))
      refine r_cons (lst [0, 1, 1, 2] _ ?_ (by decide)) (r_cons (lst [1] _ ?_ (by decide)) (r_cons (lst [0, 1] _ ?_ (by decide)) (r_cons (lst [1, 2, 3, 4] _ ?_ (by decide)) (r_cons (lst [4] _ ?_ (by decide)) r_nil))))
      all_goals (repeat (first | exact r_nil | refine r_cons r_int ?_))
    · obtain ⟨a, b', rfl, ha, ⟨d, hd, hb⟩⟩ := each2 hvs
      obtain ⟨o, ho, rfl⟩ := List.mem_map.mp hd
      refine ⟨o, ⟨?_, ?_⟩, ha, hb, True.intro⟩
      · intro z; subst z; revert ho; decide
      · exact Nat.le_trans ((by decide : ∀ o ∈ waysL, o.length ≤ 10) o ho) (by decide)
    have h5' := dp_up e6 h5
    refine s_app (R := TpP K fun r => Asc r ∧ (∀ x ∈ r, x < n) ∧ i ∉ r) (r_varE rfl) ?_ (by omega) fun u F7 e7 ⟨r, ⟨hr1, hr2, hr3⟩, hu⟩ => ?_
    · refine r_cbV (S := LsP K fun r => Asc r ∧ (∀ x ∈ r, x < n) ∧ i ∉ r) (r_cbV (S := LsP K (FewP ((List.range n).filter fun y => !decide (y = i)))) (r_call ((List.range n).filter fun y => !decide (y = i)) ⟨List.nodup_range.filter _, by omega⟩ (r_cons (r_var rfl (Mono.go h1' (e5.trans e6))) (r_cons (r_var rfl h5') (r_cons (r_var rfl h6) r_nil)))) fun v F e ⟨fs, ⟨f1, f2, f3⟩, hf⟩ => ?_) fun v F e ⟨r, hr, hf⟩ => ?_
      · obtain ⟨os, o1, o2⟩ := asc_of f1
        refine Run.weak (r_sortedN (r_c hf) (by omega) o1 o2) fun v F e hv => ⟨os, ⟨o2, fun x hx => ?_, fun hx => ?_⟩, hv⟩
        · have := f2 x (o1.mem_iff.mp hx)
          exact List.mem_range.mp (List.mem_filter.mp this).1
        · have := f2 i (o1.mem_iff.mp hx)
          simpa using (List.mem_filter.mp this).2
      · exact Run.weak (r_tupD (r_cons (r_c hf) r_nil)) fun v F e hv => ⟨r, hr, hv⟩
    · refine ⟨_, _, _, _, rs ++ [r], _, rfl, rfl, hpo.snoc hr1 hr2 (by rw [hrl]; exact hr3), by rw [List.length_append, hrl]; rfl, ?_⟩
      rw [List.map_append]
      exact each_app (MonoL.mono _ _ _ ((e5.trans e6).trans e7) hws) ⟨hu, True.intro⟩
  · rintro σ' F2 L2 e2 ⟨o4, o5, o6, o7, rs, ws, rfl, rfl, hpo, hrl, hws⟩
    rw [List.length_map, List.length_range] at hrl
    exact s_ret (Run.weak (r_tpD (xs := rs) (f := dRow) (r_tupC (l := m) (xs := ws) List.mem_cons_self (r_cons (r_varE (i := 3) rfl) r_nil) hws)) fun v F e hv => ⟨rs, ⟨hpo.ok hrl hp1 hp2, hrl⟩, hv⟩)
end
end Wb

namespace Wb
open PySem PySem.Spec PyProof.Rows L2 SlX StX Rs Ma
local macro_rules | `(tactic| walk_at "rr") => `(tactic| (first
  | exact r_nil | exact r_int | exact r_bl | exact r_str
  | (refine r_var rfl ?_; assumption)
  | exact r_c rfl
  | (refine r_cons ?_ ?_ <;> walk_at "rr")))
section
variable {P : Program} {w : World} {K : PySem.W.Frag} {mg : Str → Option Value} {base : Heap} {C_Web : Addr}
noncomputable abbrev spHeralds (C_Web : Addr) (K : PySem.W.Frag) : Sp := SpF (γ := Rows) (fun _ => True) (fun g => [webP C_Web K g]) (fun g => Dt K (.list ((heraldsL g).map nI)))
-- _law_heralds: 0:_law_web 1:_law_size 2:_law_house 3:_law_one
abbrev s__law_heralds : Stmt := topS 27
abbrev N__law_heralds : List Str := ["_law_web", "_law_size", "_law_house", "_law_one"]
theorem sc__law_heralds : FnScope N__law_heralds ["_law_web"] (defScope s__law_heralds) := ⟨rfl, rfl, rfl, by decide +kernel, rfl, by decide +kernel, by decide +kernel⟩
theorem ok_heralds {f : Addr} {fd : FuncData} (B : Bf mg) (c_web_size : PrpS P w K mg base 1 C_Web "size" (spProp C_Web K fun rs => Dt K (nI rs.length))) (c_web_hears : MetS P w K mg base 5 C_Web "hears" (spHears C_Web K)) (F : Fun K "_law_heralds" "_law_heralds" s__law_heralds f fd) (hm : mg "_law_heralds" = some (.ref f)) (b : Binds K fd ["_law_web"] []) : Gf P w K mg base 6 "_law_heralds" (spHeralds C_Web K) := by
  refine gf_mk F hm b sc__law_heralds (fun _ => rfl) fun cdv A outer s H E rs vs F0 hr hp hv => ?_
  obtain ⟨v, rfl, h1⟩ := each1 hv
  refine ⟨_, (pss_cons (ps_set (i := 1) sc__law_heralds.nd rfl (by first | exact Or.inl rfl | exact Or.inr rfl) (p_prp c_web_size hr (by decide) (pv 0)))
      (pss_one (ps_ret (pe_lc (own := [("_law_house", 2)]) (g := gName 2) rfl sc__law_heralds.nd (pi_range1 (by rfl) B.range (pa_cons (pv 1) pa_nil)) (blkOk_by (N := N__law_heralds) (sc := defScope s__law_heralds) (by decide +kernel)) (fun _ _ _ _ _ => (pg_name (i := 2) sc__law_heralds.nd rfl (by first | exact Or.inl rfl | exact Or.inr rfl))) (fun _ _ _ _ _ => (pts_one (pt_cmpR (op_eqDK K hr.units) (pe_lc (own := [("_law_one", 3)]) (g := gName 3) rfl sc__law_heralds.nd (pi_range1 (by rfl) B.range (pa_cons (pv 1) pa_nil)) (blkOk_by (N := N__law_heralds) (by first | decide +kernel | (dsimp only [Cx.blk, compEnvC]; decide +kernel) | exact rfl)) (fun _ _ _ _ _ => (pg_name (i := 3) sc__law_heralds.nd rfl (by first | exact Or.inl rfl | exact Or.inr rfl))) (fun _ _ _ _ _ => (pts_one (pt_cmpR (op_notIn_seqK K) (pv 2) (p_met c_web_hears hr (by decide) (pv 0) (pa_cons (pv 3) pa_nil)) rfl))) (fun _ _ _ _ _ => by exact (pv 3))) (pe_lst pa_nil) (nomark _)))) (fun _ _ _ _ _ => by exact (pv 2)))))), ?_⟩
  have ok : Ok rs := h1.1
  have hl := ok.le
  refine q_set (R := Dt K (nI rs.length)) (r_prp rs True.intro rfl (r_var rfl h1) fun _ _ => webP.is) fun x1 F1 e1 g1 => ?_
  have h1' := Mono.go h1 e1
  refine s_ret (r_lnD (α := Nat) (f := nI) (r_lcF (ι := Nat) (xs := List.range rs.length) (f := fun h => decide (((List.range rs.length).filter fun o => !decide (h ∈ hbL rs o)) = [])) (Ri := fun y => Dt K (nI y)) (Re := fun y => Dt K (nI y))
    (i_rangeN (r_var rfl g1) (by omega)) (by rw [List.length_range]; omega) (fun _ => rfl) (fun y u G1 e hy hu => ?_) fun y u G1 e hy hu _ => r_var rfl hu))
  refine t_test (r_eqNil (r_lnD (α := Nat) (f := nI) (r_lcF (ι := Nat) (xs := List.range rs.length) (f := fun o => !decide (y ∈ hbL rs o)) (Ri := fun y => Dt K (nI y)) (Re := fun y => Dt K (nI y))
    (i_rangeN (r_var rfl (dp_up e g1)) (by omega)) (by rw [List.length_range]; omega) (fun _ => rfl) (fun o u2 G2 e2 ho hu2 => ?_) fun o u2 G2 e2 ho hu2 _ => r_var rfl hu2)))
  exact t_test (r_notInN (r_var rfl (dp_up e2 hu)) (r_met (Ss := [Dt K (nI o)]) (rs, o) (List.mem_range.mp ho) rfl (r_var rfl (Mono.go h1' (e.trans e2))) (fun _ _ => webP.is) (r_cons (r_var rfl hu2) r_nil)))
noncomputable abbrev spTogether (C_Web : Addr) (K : PySem.W.Frag) : Sp := SpF (γ := List Rows × Nat) (fun g => (∀ rs ∈ g.1, rs.length = g.2) ∧ 1 ≤ g.2 ∧ g.2 ≤ 5 ∧ g.1.length ≤ 100) (fun g => [Ls K (g.1.map fun rs => webP C_Web K rs), Dt K (nI g.2)]) (fun g => webP C_Web K (wholeR g.1 g.2))
-- _law_together: 0:_law_webs 1:_law_size 2:_law_found 3:_law_web
abbrev s__law_together : Stmt := topS 28
abbrev N__law_together : List Str := ["_law_webs", "_law_size", "_law_found", "_law_web"]
theorem sc__law_together : FnScope N__law_together ["_law_webs", "_law_size"] (defScope s__law_together) := ⟨rfl, rfl, rfl, by decide +kernel, rfl, by decide +kernel, by decide +kernel⟩
theorem ok_together {f : Addr} {fd : FuncData} (B : Bf mg) (c_silent_web : Gf P w K mg base 8 "silent_web" (spSilent C_Web K)) (c_web_then : MetS P w K mg base 8 C_Web "then" (spThen C_Web K)) (F : Fun K "_law_together" "_law_together" s__law_together f fd) (hm : mg "_law_together" = some (.ref f)) (b : Binds K fd ["_law_webs", "_law_size"] []) : Gf P w K mg base 9 "_law_together" (spTogether C_Web K) := by
  refine gf_mk F hm b sc__law_together (fun _ => rfl) fun cdv A outer s H E ⟨webs, n⟩ vs F0 hr ⟨hp1, hp2, hp3, hp4⟩ hv => ?_
  obtain ⟨v, v1, rfl, h1, h2⟩ := each2 hv
  refine ⟨_, (pss_cons (ps_set (i := 2) sc__law_together.nd rfl (by first | exact Or.inl rfl | exact Or.inr rfl) (p_call c_silent_web hr (by decide) (pa_cons (pv 1) pa_nil)))
      (pss_cons (ps_for PassesOwn.never rfl (pi_list (pv 0)) (pg_name (i := 3) sc__law_together.nd rfl (by first | exact Or.inl rfl | exact Or.inr rfl))
        (pss_one (ps_set (i := 2) sc__law_together.nd rfl (by first | exact Or.inl rfl | exact Or.inr rfl) (p_met c_web_then hr (by decide) (pv 2) (pa_cons (pv 3) pa_nil)))))
      (pss_one (ps_ret (pv 2))))), ?_⟩
  refine q_set (R := webP C_Web K (silentR n)) (r_call n ⟨hp2, hp3⟩ (r_cons (r_var rfl h2) r_nil)) fun x1 F1 e1 g1 => ?_
  refine q_for (Rs := webs.map fun rs => webP C_Web K rs) (fun i σ' F' L' => ∃ o u, σ' = [some v, some v1, some u, o] ∧ L' = [] ∧ webP C_Web K (wholeR (webs.take i) n) u F')
    (i_lst (r_var (R := Ls K (webs.map fun rs => webP C_Web K rs)) rfl (Mono.go h1 e1))) (fun F2 e2 => ⟨_, _, rfl, rfl, Mono.go g1 e2⟩) (fun i σ' F' F'' L' e ⟨o, u, q1, q2, q3⟩ => ⟨o, u, q1, q2, Mono.go q3 e⟩) ?_ ?_
  · rintro i S x σ' F2 L2 e2 hS hx ⟨o, u, rfl, rfl, hu⟩
    rw [List.getElem?_map] at hS
    cases hw : webs[i]? with
    | none => rw [hw] at hS; cases hS
    | some r =>
      rw [hw] at hS
      cases hS
      refine g_name (s_set (R := webP C_Web K (wholeR (webs.take (i + 1)) n)) ?_ fun u' F3 e3 hu' => ⟨_, _, rfl, rfl, hu'⟩)
      rw [List.take_succ, hw, Option.toList_some, whole_snoc]
      exact r_met (Ss := [webP C_Web K r]) (wholeR (webs.take i) n, r) (by show r.length = _; rw [whole_len]; exact hp1 r (List.mem_of_getElem? hw)) rfl (r_var rfl hu) (fun _ _ => webP.is) (r_cons (r_var rfl hx) r_nil)
  · rintro σ' F2 L2 e2 ⟨o, u, rfl, rfl, hu⟩
    rw [List.length_map, List.take_length] at hu
    exact s_ret (r_var rfl hu)
end
end Wb

namespace Wb
open PySem PySem.Spec PyProof.Rows L2 SlX StX Rs Ma
local macro_rules | `(tactic| walk_at "rr") => `(tactic| (first
  | exact r_nil | exact r_int | exact r_bl | exact r_str
  | (refine r_var rfl ?_; assumption)
  | exact r_c rfl
  | (refine r_cons ?_ ?_ <;> walk_at "rr")))
theorem eqv_dI {a b : List Int} : PyData.eqv (dI a) (dI b) = decide (a = b) := eqv_tupI
theorem row_dI {r : List Nat} : dRow r = dI (cI r) := dRow_int
theorem any_parts {re : Rows} {r : List Nat} : (((partsI re).map dI).any fun z => PyData.eqv z (dRow r)) = decide (cI r ∈ partsI re) := by
  rw [List.any_map, Bool.eq_iff_iff, List.any_eq_true, decide_eq_true_eq]
  constructor
  · rintro ⟨x, hx, h⟩
    have h2 : PyData.eqv (dI x) (dI (cI r)) = true := by rw [← row_dI]; exact h
    rw [eqv_dI, decide_eq_true_eq] at h2
    exact h2 ▸ hx
  · intro h
    refine ⟨_, h, ?_⟩
    show PyData.eqv (dI (cI r)) (dRow r) = true
    rw [row_dI, eqv_dI]
    exact decide_eq_true rfl
theorem lay_dI {a : List Int} : (dI a).canLay0 = true := by rw [dI, PyData.canLay0]; exact lay_ints
theorem dep_dI {a : List Int} : (dI a).depth ≤ 1 := by rw [dI, PyData.depth, dep_ints]; decide
theorem sh_parts {l : List (List Int)} : SeqAt.shaped (.tuple (l.map dI)) = true := shaped_of (by rw [PyData.canLay0]; exact lay_all fun a => lay_dI) (by rw [PyData.depth]; have := dep_all (f := dI) (k := 1) (fun a => dep_dI) (xs := l); omega)
theorem eqv_parts {a b : List (List Int)} : PyData.eqv (.tuple (a.map dI)) (.tuple (b.map dI)) = decide (a = b) := by
  rw [PyData.eqv]; exact eqvAll_of fun a b => eqv_dI
section
variable {P : Program} {w : World} {K : PySem.W.Frag} {mg : Str → Option Value} {base : Heap} {C_Web : Addr}
structure Kit (P : Program) (w : World) (K : PySem.W.Frag) (mg : Str → Option Value) (base : Heap) (C_Web : Addr) : Prop where
  B : Bf mg
  W : WebK K C_Web
  nf : PySem.W.notFirst K C_Web (.ref C_Web) = true
  scoop : Gf P w K mg base 1 "_law_scoop" (spScoop K)
  rows : Gf P w K mg base 3 "_law_rows" (spRows K)
  web : MkF P w K mg base 6 "Web" C_Web (spWebInit C_Web K)
  roots : PrpS P w K mg base 1 C_Web "roots" (spProp C_Web K fun rs => Dt K (dRow (rootsN rs)))
  parts : PrpS P w K mg base 1 C_Web "parts" (spProp C_Web K fun rs => Dt K (.tuple ((partsI (reachs rs)).map dI)))
  heralds : Gf P w K mg base 6 "_law_heralds" (spHeralds C_Web K)
  together : Gf P w K mg base 9 "_law_together" (spTogether C_Web K)
  then_ : MetS P w K mg base 8 C_Web "then" (spThen C_Web K)
  within : MetS P w K mg base 3 C_Web "is_within" (spWithin C_Web K)
  eq : EqS P w K mg base 1 C_Web (spEq C_Web K)
abbrev spRight (K : PySem.W.Frag) : Sp := SpF (γ := Unit) (fun _ => True) (fun _ => [Ck 3]) (fun _ => Dt K (.bool true))
-- _law_right: 0:_law_cask_here 1:_law_size 2:_law_rows_here 3:_law_web 4:_law_house 5:_law_far 6:_law_webs 7:_law_turn 8:_law_spot 9:_law_whole 10:_law_halves 11:_law_again
abbrev s__law_right : Stmt := topS 29
abbrev N__law_right : List Str := ["_law_cask_here", "_law_size", "_law_rows_here", "_law_web", "_law_house", "_law_far", "_law_webs", "_law_turn", "_law_spot", "_law_whole", "_law_halves", "_law_again"]
theorem sc__law_right : FnScope N__law_right ["_law_cask_here"] (defScope s__law_right) := ⟨rfl, rfl, rfl, by decide +kernel, rfl, by decide +kernel, by decide +kernel⟩
theorem ok_right {f : Addr} {fd : FuncData} (Z : Kit P w K mg base C_Web) (F : Fun K "_law_right" "_law_right" s__law_right f fd) (hm : mg "_law_right" = some (.ref f)) (b : Binds K fd ["_law_cask_here"] []) : Gf P w K mg base 10 "_law_right" (spRight K) := by
  obtain ⟨B, W, nf, c_law_scoop, c_law_rows, c_Web, c_web_roots, c_web_parts, c_law_heralds, c_law_together, c_web_then, c_web_is_within, c_web_eq⟩ := Z
  refine gf_mk F hm b sc__law_right (fun _ => rfl) fun cdv A outer s H E _ vs F0 hr hp hv => ?_
  obtain ⟨v, rfl, h1⟩ := each1 hv
  refine ⟨_, (pss_cons (ps_set (i := 1) sc__law_right.nd rfl (by first | exact Or.inl rfl | exact Or.inr rfl) (pe_op op_add pe_int (p_call c_law_scoop hr (by decide) (pa_cons (pv 0) (pa_cons pe_int pa_nil)))))
      (pss_cons (ps_set (i := 2) sc__law_right.nd rfl (by first | exact Or.inl rfl | exact Or.inr rfl) (p_call c_law_rows hr (by decide) (pa_cons (pv 0) (pa_cons (pv 1) pa_nil))))
      (pss_cons (ps_set (i := 3) sc__law_right.nd rfl (by first | exact Or.inl rfl | exact Or.inr rfl) (p_mk c_Web hr (by decide) (pa_cons (pv 2) pa_nil)))
      (pss_cons (ps_if (PW.pt (pw_and (pt_cmpR (op_neD hr.units) (p_prp c_web_roots hr (by decide) (pv 3)) (pe_tup pa_nil) (nomark _)) (pw_and1 (pt_cmpR (Nq.op_notInDT (room65 hr)) (p_prp c_web_roots hr (by decide) (pv 3)) (p_prp c_web_parts hr (by decide) (pv 3)) rfl))))
        (pss_one (ps_ret pe_bl))
        pss_nil)
      (pss_cons (ps_if (pt_cmpR (op_neD hr.units) (p_tuple B (pa_cons (p_call c_law_heralds hr (by decide) (pa_cons (p_call c_law_together hr (by decide) (pa_cons (pe_op op_rep (pe_lst (pa_cons (pv 3) pa_nil)) (pe_op op_sub (pv 1) pe_int)) (pa_cons (pv 1) pa_nil))) pa_nil)) pa_nil)) (p_prp c_web_roots hr (by decide) (pv 3)) (nomark _))
        (pss_one (ps_ret pe_bl))
        pss_nil)
      (pss_cons (ps_if (pt_cmpR (op_neD hr.units) (pe_lc (own := [("_law_house", 4)]) (g := gName 4) rfl sc__law_right.nd (pi_tup (p_prp c_web_roots hr (by decide) (pv 3))) (blkOk_by (N := N__law_right) (sc := defScope s__law_right) (by decide +kernel)) (fun _ _ _ _ _ => (pg_name (i := 4) sc__law_right.nd rfl (by first | exact Or.inl rfl | exact Or.inr rfl))) (fun _ _ _ _ _ => (pts_one (pt_cmpR (op_neDK K hr.units) (pe_lc (own := [("_law_far", 5)]) (g := gName 5) rfl sc__law_right.nd (pi_tupK K (pe_ix (ix_tupK K) (pv 2) (pv 4) (fun _ _ => rfl))) (blkOk_by (N := N__law_right) (by first | decide +kernel | (dsimp only [Cx.blk, compEnvC]; decide +kernel) | exact rfl)) (fun _ _ _ _ _ => (pg_name (i := 5) sc__law_right.nd rfl (by first | exact Or.inl rfl | exact Or.inr rfl))) (fun _ _ _ _ _ => (pts_one (pt_cmpR (op_notIn_seqK K) (pv 5) (p_prp c_web_roots hr (by decide) (pv 3)) rfl))) (fun _ _ _ _ _ => by exact (pv 5))) (pe_lst pa_nil) (nomark _)))) (fun _ _ _ _ _ => by exact (pv 4))) (pe_lst pa_nil) (nomark _))
        (pss_one (ps_ret pe_bl))
        pss_nil)
      (pss_cons (ps_set (i := 6) sc__law_right.nd rfl (by first | exact Or.inl rfl | exact Or.inr rfl) (pe_op op_rep (pe_lst (pa_cons (pv 3) pa_nil)) (pe_op op_add (pe_op op_sub (pv 1) pe_int) (p_call c_law_scoop hr (by decide) (pa_cons (pv 0) (pa_cons pe_int pa_nil))))))
      (pss_cons (ps_for PassesOwn.never rfl (pi_range1 (by rfl) B.range (pa_cons (p_call c_law_scoop hr (by decide) (pa_cons (pv 0) (pa_cons pe_int pa_nil))) pa_nil)) (pg_name (i := 7) sc__law_right.nd rfl (by first | exact Or.inl rfl | exact Or.inr rfl))
        (pss_cons (ps_set (i := 8) sc__law_right.nd rfl (by first | exact Or.inl rfl | exact Or.inr rfl) (p_call c_law_scoop hr (by decide) (pa_cons (pv 0) (pa_cons (pe_op op_add (p_len B (pa_cons (pv 6) pa_nil)) pe_int) pa_nil))))
        (pss_one (ps_set (i := 6) sc__law_right.nd rfl (by first | exact Or.inl rfl | exact Or.inr rfl) (pe_op op_cat (pe_op op_cat (pe_slice sl_list (pv 6) po_none (po_some (pv 8))) (pe_lst (pa_cons (p_mk c_Web hr (by decide) (pa_cons (p_call c_law_rows hr (by decide) (pa_cons (pv 0) (pa_cons (pv 1) pa_nil))) pa_nil)) pa_nil))) (pe_slice sl_list (pv 6) (po_some (pv 8)) po_none))))))
      (pss_cons (ps_set (i := 9) sc__law_right.nd rfl (by first | exact Or.inl rfl | exact Or.inr rfl) (p_call c_law_together hr (by decide) (pa_cons (pv 6) (pa_cons (pv 1) pa_nil))))
      (pss_cons (ps_if (pt_cmpR (op_neD hr.units) (pe_lc (own := [("_law_house", 4)]) (g := gName 4) rfl sc__law_right.nd (pi_tup (p_prp c_web_roots hr (by decide) (pv 3))) (blkOk_by (N := N__law_right) (sc := defScope s__law_right) (by decide +kernel)) (fun _ _ _ _ _ => (pg_name (i := 4) sc__law_right.nd rfl (by first | exact Or.inl rfl | exact Or.inr rfl))) (fun _ _ _ _ _ => (pts_one (pt_cmpR (op_notIn_seqK K) (pv 4) (p_call c_law_heralds hr (by decide) (pa_cons (pv 9) pa_nil)) rfl))) (fun _ _ _ _ _ => by exact (pv 4))) (pe_lst pa_nil) (nomark _))
        (pss_one (ps_ret pe_bl))
        pss_nil)
      (pss_cons (ps_set (i := 8) sc__law_right.nd rfl (by first | exact Or.inl rfl | exact Or.inr rfl) (p_call c_law_scoop hr (by decide) (pa_cons (pv 0) (pa_cons (pe_op op_add (p_len B (pa_cons (pv 6) pa_nil)) pe_int) pa_nil))))
      (pss_cons (ps_set (i := 10) sc__law_right.nd rfl (by first | exact Or.inl rfl | exact Or.inr rfl) (pe_lst (pa_cons (p_call c_law_together hr (by decide) (pa_cons (pe_slice sl_list (pv 6) po_none (po_some (pv 8))) (pa_cons (pv 1) pa_nil))) (pa_cons (p_call c_law_together hr (by decide) (pa_cons (pe_slice sl_list (pv 6) (po_some (pv 8)) po_none) (pa_cons (pv 1) pa_nil))) pa_nil))))
      (pss_cons (ps_if (PW.pt (pw_or (pt_cmpR (op_neO c_web_eq hr (by decide)) (p_met c_web_then hr (by decide) (pe_ix ix_list (pv 10) pe_int (fun _ _ => rfl)) (pa_cons (pe_ix ix_list (pv 10) pe_int (fun _ _ => rfl)) pa_nil)) (pv 9) (nomark _)) (pw_or (pt_not (pt_val (p_met c_web_is_within hr (by decide) (pe_ix ix_list (pv 10) pe_int (fun _ _ => rfl)) (pa_cons (pv 9) pa_nil)))) (pw_or1 (pt_not (pt_val (p_met c_web_is_within hr (by decide) (pe_ix ix_list (pv 10) pe_int (fun _ _ => rfl)) (pa_cons (pv 9) pa_nil))))))))
        (pss_one (ps_ret pe_bl))
        pss_nil)
      (pss_cons (ps_set (i := 11) sc__law_right.nd rfl (by first | exact Or.inl rfl | exact Or.inr rfl) (p_call c_law_together hr (by decide) (pa_cons (pe_op op_rep (pe_lst (pa_cons (pv 3) pa_nil)) (pv 1)) (pa_cons (pv 1) pa_nil))))
      (pss_one (ps_ret (pe_and (pe_cmpR (op_eqO c_web_eq hr (by decide)) (p_met c_web_then hr (by decide) (pv 11) (pa_cons (pv 3) pa_nil)) (pv 11) (nomark _)) (pe_and (pe_cmpR (op_eqD hr.units) (p_prp c_web_roots hr (by decide) (pv 11)) (p_prp c_web_roots hr (by decide) (pv 3)) (nomark _)) (pe_one (pe_cmpR (op_eqD hr.units) (p_prp c_web_parts hr (by decide) (pv 11)) (p_prp c_web_parts hr (by decide) (pv 3)) (nomark _))))))))))))))))))))), ?_⟩
  -- size, rows, web
  refine q_set (R := NumP fun n => 1 ≤ n ∧ n < 1 + 5) (r_addBd (K := K) (c := 1) (m := 5) (r_int (j := 1)) (r_call (R := Bd) 5 ⟨by decide, by decide⟩ (r_cons (r_var rfl h1) (r_cons (r_int (j := 5)) r_nil)))) fun x1 F1 e1 ⟨n, ⟨n1, n2⟩, g1⟩ => ?_
  subst g1
  have a1 := Mono.go h1 e1
  refine q_set (R := RwP K (RowsP n)) (r_call n ⟨n1, by omega⟩ (r_cons (r_var rfl a1) (r_cons (r_var (R := Dt K (nI n)) rfl (.int _)) r_nil))) fun x2 F2 e2 ⟨rs, ⟨ok, hl⟩, g2⟩ => ?_
  subst hl
  refine q_set (R := webP C_Web K rs) (r_mk rs ok (r_cons (r_var rfl g2) r_nil)) fun x3 F3 e3 g3 => ?_
  have a3 := Mono.go a1 (e2.trans e3)
  have g23 := dp_up e3 g2
  have hle := ok.le
  -- the roots are one of the parts
  refine q_if (b := !decide (rootsN rs = []) && !decide (cI (rootsN rs) ∈ partsI (reachs rs))) (t_and (t_test (r_neRow (a := rootsN rs) (b := []) (r_prp rs True.intro rfl (r_var rfl g3) fun _ _ => webP.is) (r_tpD (xs := ([] : List Nat)) (f := nI) (r_tup (Rs := []) r_nil (by decide))) sh_row sh_row eqv_row)) fun _ => t_is (t_test (r_notInDT (ds := (partsI (reachs rs)).map dI) (r_prp rs True.intro rfl (r_var rfl g3) fun _ _ => webP.is) (r_prp rs True.intro rfl (r_var rfl g3) fun _ _ => webP.is) sh_row sh_parts)) (by rw [any_parts])) (fun hb => ?_) fun _ => q_next ?_
  · exfalso
    rw [Bool.and_eq_true, Bool.not_eq_true', decide_eq_false_iff_not, Bool.not_eq_true', decide_eq_false_iff_not] at hb
    exact hb.2 (roots_parts hb.1)
  -- n - 1 rounds
  have reps : ∀ m : Nat, ∀ r ∈ List.replicate m rs, r.length = rs.length := fun m r hr => by rw [(List.mem_replicate.mp hr).2]
  have num : ∀ (F : Hp) (L : Cells) (σ : L2.St) (i : Nat), σ[i]? = some (some (.int (rs.length : Int))) → Run (tVar i σ) F L (Dt K (nI rs.length)) := fun F L σ i h => r_var h (Dp.int (K := K) _)
  have minus : ∀ (F : Hp) (L : Cells) (σ : L2.St), σ[1]? = some (some (.int (rs.length : Int))) → Run (tOp (rI0 fun i j => .int (i - j)) (tVar 1) (tC (.int 1)) σ) F L (Dt K (nI (rs.length - 1))) := fun F L σ h => r_is (r_I0i (num F L σ 1 h) r_int) (congrArg PyData.int (by omega))
  refine q_if (b := false) (t_is (t_test (r_neRow (a := heraldsL (wholeR (List.replicate (rs.length - 1) rs) rs.length)) (b := rootsN rs) (r_tupD (r_cons (r_call (wholeR (List.replicate (rs.length - 1) rs) rs.length) True.intro (r_cons (r_call (List.replicate (rs.length - 1) rs, rs.length) ⟨reps _, n1, by show rs.length ≤ 5; omega, by rw [List.length_replicate]; omega⟩ (r_cons (r_wsE (Run.weak (r_repW (P := fun m => m = rs.length - 1) (r_var rfl g3) (Run.weak (minus _ _ _ rfl) fun v F e hv => ⟨_, rfl, dt_int hv⟩) (by omega)) fun v F e ⟨l, ⟨m, hm, hl⟩, hv⟩ => ⟨l, by rw [hl, hm], hv⟩)) (r_cons (num _ _ _ 1 rfl) r_nil))) r_nil)) r_nil)) (r_prp rs True.intro rfl (r_var rfl g3) fun _ _ => webP.is) sh_row sh_row eqv_row)) ?_) (fun hb => nomatch hb) fun _ => q_next ?_
  · rw [heralds_pow ok (Nat.le_refl _), decide_eq_true rfl]; rfl
  -- roots hear roots
  refine q_if (b := false) (t_is (t_test (r_neNil (xs := (rootsN rs).filter fun h => !decide (((row rs h).filter fun x => !decide (x ∈ rootsN rs)) = [])) (r_lnD (α := Nat) (f := nI) (r_lcF (ι := Nat) (xs := rootsN rs) (f := fun h => !decide (((row rs h).filter fun x => !decide (x ∈ rootsN rs)) = [])) (Ri := fun y => Dt K (nI y)) (Re := fun y => Dt K (nI y))
    (i_tupN (xs := rootsN rs) (f := nI) (r_prp rs True.intro rfl (r_var rfl g3) fun _ _ => webP.is)) ?_ (fun _ => rfl) (fun y u G1 e hy hu => t_test (r_neNil (r_lnD (α := Nat) (f := nI) (r_lcF (ι := Nat) (xs := row rs y) (f := fun x => !decide (x ∈ rootsN rs)) (Ri := fun y => Dt K (nI y)) (Re := fun y => Dt K (nI y))
      (i_tupN (xs := row rs y) (f := nI) (r_rowN (r_var rfl (dp_up e g23)) (r_var rfl hu) (mem_roots.mp hy).1)) ?_ (fun _ => rfl) (fun x u2 G2 e2 hx hu2 => t_test (r_notInN (r_var rfl hu2) (r_prp rs True.intro rfl (r_var rfl (Mono.go g3 (e.trans e2))) fun _ _ => webP.is))) fun x u2 G2 e2 hx hu2 _ => r_var rfl hu2)))) fun y u G1 e hy hu _ => r_var rfl hu)))) ?_) (fun hb => nomatch hb) fun _ => q_next ?_
  · have := len_le (a := rootsN rs) (b := List.range rs.length) (asc_nodup asc_roots) fun z hz => List.mem_range.mpr (mem_roots.mp hz).1
    rw [List.length_range] at this
    omega
  · have := nodup_len _ _ (asc_nodup (ok.row_asc y)) fun x hx => ok.row_lt hx
    omega
  · rw [Bool.not_eq_false', decide_eq_true_eq, List.filter_eq_nil_iff]
    intro h hh
    rw [Bool.not_eq_true, Bool.not_eq_false', decide_eq_true_eq, List.filter_eq_nil_iff]
    intro x hx
    rw [Bool.not_eq_true, Bool.not_eq_false', decide_eq_true_eq]
    exact roots_hear ok hh hx
  -- webs
  let LP : Nat → List Rows → Prop := fun B l => (∀ r ∈ l, Ok r ∧ r.length = rs.length) ∧ rs.length - 1 ≤ l.count rs ∧ l.length ≤ B
  refine q_set (R := WsP C_Web K (LP 10)) (Run.weak (r_repW (P := fun m => rs.length - 1 ≤ m ∧ m < rs.length - 1 + 2) (r_var rfl g3) (r_addBd (K := K) (c := rs.length - 1) (m := 2) (minus _ _ _ rfl) (r_call (R := Bd) 2 ⟨by decide, by decide⟩ (r_cons (r_var rfl a3) (r_cons (r_int (j := 2)) r_nil)))) (by omega)) fun v F e ⟨l, ⟨m, hm, hl⟩, hv⟩ => ⟨l, ?_, hv⟩) fun x6 F6 e6 g6 => ?_
  · subst hl
    exact ⟨fun r hr => by rw [(List.mem_replicate.mp hr).2]; exact ⟨ok, rfl⟩, by rw [List.count_replicate_self]; exact hm.1, by rw [List.length_replicate]; omega⟩
  have a6 := Mono.go a3 e6
  have g36 := Mono.go g3 e6
  have lenW : ∀ (F : Hp) (L : Cells) (σ : L2.St) (u : V) (l : List Rows), σ[6]? = some (some u) → Ln (l.map fun r => webP C_Web K r) u F → Run (tOp (rI0 fun i j => .int (i + j)) (tCB (rLn K) (tCons (tVar 6) tNil)) (tC (.int 1)) σ) F L (Dt K (nI (l.length + 1))) := fun F L σ u l h hu => r_is (r_I0i (r_lnL (Rs := l.map fun r => webP C_Web K r) (r_cons (r_ls (r_var h hu)) r_nil)) r_int) (congrArg PyData.int (by rw [List.length_map]; omega))
  refine q_forE (ι := Nat) (P := fun k => k < 5) (Rs := fun k => (List.range k).map fun i => Dt K (nI i)) (fun i σ' F' L' => ∃ o7 o8 u, σ' = [some v, some (.int (rs.length : Int)), some x2, some x3, none, none, some u, o7, o8, none, none, none] ∧ L' = [] ∧ WsP C_Web K (LP (10 + i)) u F')
    (i_rangeBd (r_call (R := Bd) 5 ⟨by decide, by decide⟩ (r_cons (r_var rfl a6) (r_cons (r_int (j := 5)) r_nil))) (by decide)) (fun F7 e7 => ⟨_, _, _, rfl, rfl, Mono.go g6 e7⟩) (fun i σ' F' F'' L' e ⟨o7, o8, u, q1, q2, q3⟩ => ⟨o7, o8, u, q1, q2, Mono.go q3 e⟩) ?_ ?_
  · rintro k hk i S x σ' F7 L7 e7 hS hx ⟨o7, o8, u, rfl, rfl, l, hl, hu⟩
    have hi : i < k := by
      have := (List.getElem?_eq_some_iff.mp hS).1
      rwa [List.length_map, List.length_range] at this
    have a7 := Mono.go a6 e7
    obtain ⟨hl1, hl2, hl3⟩ : LP (10 + i) l := hl
    refine g_name ?_
    refine q_set (R := Bd (l.length + 1)) (r_call (R := Bd) (l.length + 1) ⟨by omega, by omega⟩ (r_cons (r_var rfl a7) (r_cons (lenW _ _ _ u l rfl hu) r_nil))) fun x8 F8 e8 ⟨p, hp8, g8⟩ => ?_
    subst g8
    have hu8 := Mono.go hu e8
    have a8 := Mono.go a7 e8
    refine s_set (R := WsP C_Web K (LP (10 + (i + 1)))) (Run.weak (r_catW (P1 := fun m => ∃ l1 l2, l1 = l.take p ∧ (∃ q, RowsP rs.length q ∧ l2 = [q]) ∧ m = l1 ++ l2) (P2 := fun m => m = l.drop p) (r_catW (P1 := fun m => m = l.take p) (P2 := fun m => ∃ q, RowsP rs.length q ∧ m = [q]) (r_takeW (r_var rfl hu8) (r_var (R := Dt K (nI p)) rfl (.int _)) (by omega))
      (r_one (P := RowsP rs.length) (r_mkE (fun r hr => hr.1) (r_call rs.length ⟨n1, by omega⟩ (r_cons (r_var rfl a8) (r_cons (num _ _ _ 1 rfl) r_nil))))) ?_) (r_dropW (r_var rfl hu8) (r_var (R := Dt K (nI p)) rfl (.int _)) (by omega)) ?_) fun v F e ⟨m, ⟨l1, l2, ⟨l3, l4, h3, ⟨q, hq, h4⟩, h5⟩, h6, h7⟩, hv⟩ => ⟨m, ?_, hv⟩) fun u' F9 e9 hu' => ⟨_, _, _, rfl, rfl, hu'⟩
    · rintro l1 l2 rfl ⟨q, hq, rfl⟩
      rw [List.length_take, List.length_singleton]
      omega
    · rintro l1 l2 ⟨l3, l4, rfl, ⟨q, hq, rfl⟩, rfl⟩ rfl
      rw [List.length_append, List.length_take, List.length_drop, List.length_singleton]
      omega
    · subst h3 h4 h5 h6 h7
      refine ⟨fun r hr => ?_, ?_, ?_⟩
      · rcases List.mem_append.mp hr with hr | hr
        · rcases List.mem_append.mp hr with hr | hr
          · exact hl1 r (List.mem_of_mem_take hr)
          · rw [List.mem_singleton.mp hr]; exact hq
        · exact hl1 r (List.mem_of_mem_drop hr)
      · have h1 : (l.take p ++ l.drop p).count rs = l.count rs := by rw [List.take_append_drop]
        rw [List.count_append] at h1
        rw [List.count_append, List.count_append]
        omega
      · rw [List.length_append, List.length_append, List.length_take, List.length_drop, List.length_singleton]
        omega
  rintro k hk σ' F7 L7 e7 ⟨o7, o8, u, rfl, rfl, l, hl, hu⟩
  rw [List.length_map, List.length_range] at hl
  obtain ⟨hl1, hl2, hl3⟩ : LP (10 + k) l := hl
  have hlen : ∀ r ∈ l, r.length = rs.length := fun r hr => (hl1 r hr).2
  have a7 := Mono.go a6 e7
  have g37 := Mono.go g36 e7
  -- the whole
  refine q_set (R := webP C_Web K (wholeR l rs.length)) (r_call (l, rs.length) ⟨hlen, n1, by show rs.length ≤ 5; omega, by show l.length ≤ 100; omega⟩ (r_cons (r_ls (r_var rfl hu)) (r_cons (num _ _ _ 1 rfl) r_nil))) fun x9 F9 e9 g9 => ?_
  have a9 := Mono.go a7 e9
  have g39 := Mono.go g37 e9
  have u9 := Mono.go hu e9
  refine q_if (b := false) (t_is (t_test (r_neNil (xs := (rootsN rs).filter fun h => !decide (h ∈ heraldsL (wholeR l rs.length))) (r_lnD (α := Nat) (f := nI) (r_lcF (ι := Nat) (xs := rootsN rs) (f := fun h => !decide (h ∈ heraldsL (wholeR l rs.length))) (Ri := fun y => Dt K (nI y)) (Re := fun y => Dt K (nI y))
    (i_tupN (xs := rootsN rs) (f := nI) (r_prp rs True.intro rfl (r_var rfl g39) fun _ _ => webP.is)) ?_ (fun _ => rfl) (fun y u G1 e hy hu => t_test (r_notInL (r_var rfl hu) (r_call (wholeR l rs.length) True.intro (r_cons (r_var rfl (Mono.go g9 e)) r_nil)))) fun y u G1 e hy hu _ => r_var rfl hu)))) ?_) (fun hb => nomatch hb) fun _ => q_next ?_
  · have := len_le (a := rootsN rs) (b := List.range rs.length) (asc_nodup asc_roots) fun z hz => List.mem_range.mpr (mem_roots.mp hz).1
    rw [List.length_range] at this
    omega
  · rw [Bool.not_eq_false', decide_eq_true_eq, List.filter_eq_nil_iff]
    intro h hh
    rw [Bool.not_eq_true, Bool.not_eq_false', decide_eq_true_eq]
    exact roots_heralds ok hl1 hl2 hh
  -- halves
  refine q_set (R := Bd (l.length + 1)) (r_call (R := Bd) (l.length + 1) ⟨by omega, by omega⟩ (r_cons (r_var rfl a9) (r_cons (lenW _ _ _ u l rfl u9) r_nil))) fun x8 F8 e8 ⟨p, hp8, g8⟩ => ?_
  subst g8
  have u8 := Mono.go u9 e8
  have hlt : ∀ r ∈ l.take p, r.length = rs.length := fun r hr => hlen r (List.mem_of_mem_take hr)
  have hld : ∀ r ∈ l.drop p, r.length = rs.length := fun r hr => hlen r (List.mem_of_mem_drop hr)
  refine q_set (R := Ln [webP C_Web K (wholeR (l.take p) rs.length), webP C_Web K (wholeR (l.drop p) rs.length)]) (r_lst (r_cons (r_call (l.take p, rs.length) ⟨hlt, n1, by show rs.length ≤ 5; omega, by rw [List.length_take]; omega⟩ (r_cons (r_wsE (r_takeW (r_var rfl u8) (r_var (R := Dt K (nI p)) rfl (.int _)) (by omega))) (r_cons (num _ _ _ 1 rfl) r_nil))) (r_cons (r_call (l.drop p, rs.length) ⟨hld, n1, by show rs.length ≤ 5; omega, by rw [List.length_drop]; omega⟩ (r_cons (r_wsE (r_dropW (r_var rfl u8) (r_var (R := Dt K (nI p)) rfl (.int _)) (by omega))) (r_cons (num _ _ _ 1 rfl) r_nil))) r_nil)) (by show 2 ≤ 100000; decide)) fun x10 F10 e10 g10 => ?_
  have g9' := Mono.go g9 (e8.trans e10)
  have okA : Ok (wholeR (l.take p) rs.length) := whole_ok n1 (by omega)
  have okB : Ok (wholeR (l.drop p) rs.length) := whole_ok n1 (by omega)
  have hAB : (wholeR (l.drop p) rs.length).length = (wholeR (l.take p) rs.length).length := by rw [whole_len, whole_len]
  have hW : thenR (wholeR (l.take p) rs.length) (wholeR (l.drop p) rs.length) = wholeR l rs.length := by
    have := whole_app (l1 := l.take p) (l2 := l.drop p) n1 (by omega) fun r hr => hl1 r (List.mem_of_mem_drop hr)
    rwa [List.take_append_drop] at this
  have wA : withinB (wholeR (l.take p) rs.length) (wholeR l rs.length) = true := (within_iff (by rw [whole_len, whole_len])).mpr fun i x hx => by rw [← hW]; exact within_left okA okB hAB i x hx
  have wB : withinB (wholeR (l.drop p) rs.length) (wholeR l rs.length) = true := (within_iff (by rw [whole_len, whole_len])).mpr fun i x hx => by rw [← hW]; exact within_right okA okB hAB i x hx
  have hwl : ∀ m : List Rows, (wholeR l rs.length).length = (wholeR m rs.length).length := fun m => by rw [whole_len, whole_len]
  refine q_if (b := false) (t_is (t_or (t_test (r_neOwn (c := fun g : Rows × Rows => decide (g.1 = g.2)) (S1 := webP C_Web K (thenR (wholeR (l.take p) rs.length) (wholeR (l.drop p) rs.length))) (S2 := webP C_Web K (wholeR l rs.length)) (thenR (wholeR (l.take p) rs.length) (wholeR (l.drop p) rs.length), wholeR l rs.length) True.intro rfl nf (fun _ _ => webP.is) (fun _ _ => webP.is)
      (r_met (Ss := [webP C_Web K (wholeR (l.drop p) rs.length)]) (wholeR (l.take p) rs.length, wholeR (l.drop p) rs.length) hAB rfl (r_ixLs (n := 0) (r_ls (r_var rfl g10)) r_int rfl) (fun _ _ => webP.is) (r_cons (r_ixLs (n := 1) (r_ls (r_var rfl g10)) r_int rfl) r_nil)) (r_var rfl g9'))) fun _ =>
    t_or (t_not (t_B (r_met (Ss := [webP C_Web K (wholeR l rs.length)]) (wholeR (l.take p) rs.length, wholeR l rs.length) (hwl _) rfl (r_ixLs (n := 0) (r_ls (r_var rfl g10)) r_int rfl) (fun _ _ => webP.is) (r_cons (r_var rfl g9') r_nil)))) fun _ =>
    t_not (t_B (r_met (Ss := [webP C_Web K (wholeR l rs.length)]) (wholeR (l.drop p) rs.length, wholeR l rs.length) (hwl _) rfl (r_ixLs (n := 1) (r_ls (r_var rfl g10)) r_int rfl) (fun _ _ => webP.is) (r_cons (r_var rfl g9') r_nil)))) ?_) (fun hb => nomatch hb) fun _ => q_next ?_
  · show (!decide (thenR _ _ = wholeR l rs.length) || (!withinB _ _ || !withinB _ _)) = false
    rw [hW, wA, wB, decide_eq_true rfl]; rfl
  -- again
  have g310 := Mono.go g39 (e8.trans e10)
  refine q_set (R := webP C_Web K (wholeR (List.replicate rs.length rs) rs.length)) (r_call (List.replicate rs.length rs, rs.length) ⟨reps _, n1, by show rs.length ≤ 5; omega, by rw [List.length_replicate]; omega⟩ (r_cons (r_wsE (Run.weak (r_repW (P := fun m => m = rs.length) (r_var rfl g310) (Run.weak (num _ _ _ 1 rfl) fun v F e hv => ⟨_, rfl, dt_int hv⟩) (by omega)) fun v F e ⟨l, ⟨m, hm, hl⟩, hv⟩ => ⟨l, by rw [hl, hm], hv⟩)) (r_cons (num _ _ _ 1 rfl) r_nil))) fun x11 F11 e11 g11 => ?_
  have g311 := Mono.go g310 e11
  refine s_ret (r_is (r_and (a := true) (b := true) (r_is (r_eqOwn (S1 := webP C_Web K (thenR (wholeR (List.replicate rs.length rs) rs.length) rs)) (S2 := webP C_Web K (wholeR (List.replicate rs.length rs) rs.length)) (thenR (wholeR (List.replicate rs.length rs) rs.length) rs, wholeR (List.replicate rs.length rs) rs.length) True.intro rfl nf (fun _ _ => webP.is) (fun _ _ => webP.is)
    (r_met (Ss := [webP C_Web K rs]) (wholeR (List.replicate rs.length rs) rs.length, rs) (by show rs.length = _; rw [whole_len]) rfl (r_var rfl g11) (fun _ _ => webP.is) (r_cons (r_var rfl g311) r_nil)) (r_var rfl g11)) ?_) fun _ => r_and (a := true) (b := true) (r_is (r_eqD (r_prp (wholeR (List.replicate rs.length rs) rs.length) True.intro rfl (r_var rfl g11) fun _ _ => webP.is) (r_prp rs True.intro rfl (r_var rfl g311) fun _ _ => webP.is) sh_row sh_row) ?_) fun _ => r_is (r_eqD (r_prp (wholeR (List.replicate rs.length rs) rs.length) True.intro rfl (r_var rfl g11) fun _ _ => webP.is) (r_prp rs True.intro rfl (r_var rfl g311) fun _ _ => webP.is) sh_parts sh_parts) ?_) rfl)
  · show PyData.bool (decide (thenR _ _ = wholeR _ _)) = _
    rw [again_then ok, decide_eq_true rfl]
  · rw [eqv_row, again_roots ok, decide_eq_true rfl]
  · rw [eqv_parts, again_reachs ok, decide_eq_true rfl]
end
end Wb

namespace Wb
open PySem PySem.Spec PyProof.Rows L2 SlX StX Rs Ma
local macro_rules | `(tactic| walk_at "rr") => `(tactic| (first
  | exact r_nil | exact r_int | exact r_bl | exact r_str
  | (refine r_var rfl ?_; assumption)
  | exact r_c rfl
  | (refine r_cons ?_ ?_ <;> walk_at "rr")))
section
variable {P : Program} {w : World} {K : PySem.W.Frag} {mg : Str → Option Value} {base : Heap}
abbrev spLawF (K : PySem.W.Frag) : Sp := SpF (γ := List Int) (fun ns => ns.length ≤ 63) (fun ns => [Dt K (.list (ns.map .int))]) (fun _ => Dt K (.bool true))
/-- law's, as the head asks it -/
def spLaw (K : PySem.W.Frag) : Sp := fun vs H Q _ => ∃ (a : Addr) (ns : List Int), vs = [.ref a] ∧ SqL K H a (ns.map V.int) ∧ ns.length ≤ 63 ∧ ∀ H', Q (.bl true) H'
-- law: 0:_law_script 1:_law_at 2:_law_cask_here 3:_law_turn
abbrev s_law : Stmt := topS 30
abbrev N_law : List Str := ["_law_script", "_law_at", "_law_cask_here", "_law_turn"]
theorem sc_law : FnScope N_law ["_law_script"] (defScope s_law) := ⟨rfl, rfl, rfl, by decide +kernel, rfl, by decide +kernel, by decide +kernel⟩
theorem ok_law {f : Addr} {fd : FuncData} (B : Bf mg) (c_law_cask : Gf P w K mg base 1 "_law_cask" (spCask K)) (c_law_right : Gf P w K mg base 10 "_law_right" (spRight K)) (F : Fun K "law" "law" s_law f fd) : FnOk P w K mg base CX0 11 f fd ["_law_script"] (spLaw K) := by
  have G : FnOk P w K mg base CX0 11 f fd ["_law_script"] (spLawF K) := by
    refine gf_ok F sc_law (fun _ => rfl) fun cdv A outer s H E ns vs F0 hr hp hv => ?_
    obtain ⟨v, rfl, h1⟩ := each1 hv
    have h1 : Dt K (.list (ns.map .int)) v F0 := h1
    refine ⟨_, (pss_cons (ps_for PassesOwn.never rfl (pi_range1 (by rfl) B.range (pa_cons (p_max2 rfl B (pa_cons pe_int (pa_cons (p_min2 rfl B (pa_cons pe_int (pa_cons (p_len B (pa_cons (pv 0) pa_nil)) pa_nil))) pa_nil))) pa_nil)) (pg_name (i := 1) sc_law.nd rfl (by first | exact Or.inl rfl | exact Or.inr rfl))
        (pss_cons (ps_set (i := 2) sc_law.nd rfl (by first | exact Or.inl rfl | exact Or.inr rfl) (p_call c_law_cask hr (by decide) (pa_cons (pv 0) (pa_cons (pv 1) pa_nil))))
        (pss_one (ps_for PassesOwn.never rfl (pi_range1 (by rfl) B.range (pa_cons pe_int pa_nil)) (pg_name (i := 3) sc_law.nd rfl (by first | exact Or.inl rfl | exact Or.inr rfl))
          (pss_one (ps_if (pt_not (pt_val (p_call c_law_right hr (by decide) (pa_cons (pv 2) pa_nil))))
            (pss_one (ps_ret pe_bl))
            pss_nil))))))
      (pss_one (ps_ret pe_bl))), ?_⟩
    refine q_for (fun i σ' F' L' => ∃ o1 o2 o3, σ' = [some v, o1, o2, o3] ∧ L' = [])
      (i_rangeN (n := max 1 (min 4 ns.length)) (r_max2N (r_cons (r_int (j := 1)) (r_cons (r_min2N (r_cons (r_int (j := 4)) (r_cons (r_is (r_lnLD (r_var rfl h1)) (by rw [List.length_map])) r_nil))) r_nil))) (by omega)) (fun F2 e2 => ⟨_, _, _, rfl, rfl⟩) (fun _ _ _ _ _ _ z => z) ?_ ?_
    · rintro i S x σ' F2 L2 e2 hS hx ⟨o1, o2, o3, rfl, rfl⟩
      rw [List.getElem?_map] at hS
      cases hq : (List.range (max 1 (min 4 ns.length)))[i]? with
      | none => rw [hq] at hS; cases hS
      | some j =>
        rw [hq] at hS
        cases hS
        refine g_name ?_
        refine q_set (R := Ck 3) (r_call (ns, j) hp (r_cons (r_var rfl (dp_up e2 h1)) (r_cons (r_var rfl hx) r_nil))) fun x2 F3 e3 g2 => ?_
        refine s_for (fun i σ' F' L' => ∃ o3, σ' = [some v, some x, some x2, o3] ∧ L' = [])
          (i_rangeN (K := K) (n := 8) (r_int (j := 8)) (by decide)) (fun F4 e4 => ⟨_, rfl, rfl⟩) (fun _ _ _ _ _ _ z => z) ?_ ?_
        · rintro i2 S2 y σ' F4 L4 e4 hS2 hy ⟨o3, rfl, rfl⟩
          refine g_name ?_
          refine s_if (b := false) (t_is (t_not (t_B (r_call () True.intro (r_cons (r_var rfl (Mono.go g2 e4)) r_nil)))) rfl) (fun hb => nomatch hb) fun _ => s_next fun F5 e5 => ⟨_, rfl, rfl⟩
        · rintro σ' F4 L4 e4 ⟨o3, rfl, rfl⟩
          exact ⟨_, _, _, rfl, rfl⟩
    · rintro σ' F2 L2 e2 ⟨o1, o2, o3, rfl, rfl⟩
      exact s_ret r_bl
  refine G.imp fun vs H Q E ⟨a, ns, e, hs, hl, q⟩ => ?_
  subst e
  refine ⟨ns, H, [], hl, At.self, ⟨?_, True.intro⟩, fun v F' H' _ _ hv => ?_⟩
  · exact ls_dt.mp ⟨a, _, rfl, hs, each_dt.mpr ints_vs⟩
  · rw [dt_bl hv]; exact q H'
end
end Wb

namespace Wb
open PySem PySem.Spec PyProof.Rows L2 SlX StX Rs Ma
def TopFn (K : PySem.W.Frag) (x : Str) (st : Stmt) (ps : List Str) : Prop := ∃ f fd, PySem.W.nsIn K mainGlobals x = some (some (.ref f)) ∧ Fun K x x st f fd ∧ Binds K fd ps []
theorem top_fn {K : PySem.W.Frag} {x : Str} {st : Stmt} {ps : List Str} {f : Addr} {oc : Value} {od an : Option Addr} {osl : Array (Option Value)} {kV doc pm cdv ct : Value} (a : PySem.W.nsIn K mainGlobals x = some (some (.ref f)))
    (l : K.lookup f = some ⟨oc, od, .func (PySem.W.fnOf x x (defArgs st) (defBody st) (defScope st) .none kV doc pm an cdv ct), osl⟩) (c : PySem.W.codeIn K cdv x = true) (k : PySem.W.keepIn K (.ref f) = true)
    (b : ∀ (kV doc pm : Value) (an : Option Addr) (cdv ct : Value) (us : List Value), us.length = ps.length → bindArgs (PySem.W.fnOf x x (defArgs st) (defBody st) (defScope st) .none kV doc pm an cdv ct) ⟨us, []⟩ = pure (ps.zip us)) : TopFn K x st ps :=
  ⟨f, _, a, fun_mk l c k, (fun_mk (st := st) l c k).binds b⟩
def MetFn (K : PySem.W.Frag) (C : Addr) (x qual : Str) (st : Stmt) (ps : List Str) : Prop := ∃ f fd, PySem.W.findIn K (.ref C) x = some (some (.ref f)) ∧ PySem.W.isFn K (.ref f) = true ∧ Fun K x qual st f fd ∧ Binds K fd ps []
theorem met_fn {K : PySem.W.Frag} {C : Addr} {x qual : Str} {st : Stmt} {ps : List Str} {f : Addr} {oc : Value} {od an : Option Addr} {osl : Array (Option Value)} {kV doc pm cdv ct : Value} (a : PySem.W.findIn K (.ref C) x = some (some (.ref f))) (i : PySem.W.isFn K (.ref f) = true)
    (l : K.lookup f = some ⟨oc, od, .func (PySem.W.fnOf x qual (defArgs st) (defBody st) (defScope st) .none kV doc pm an cdv ct), osl⟩) (c : PySem.W.codeIn K cdv qual = true) (k : PySem.W.keepIn K (.ref f) = true)
    (b : ∀ (kV doc pm : Value) (an : Option Addr) (cdv ct : Value) (us : List Value), us.length = ps.length → bindArgs (PySem.W.fnOf x qual (defArgs st) (defBody st) (defScope st) .none kV doc pm an cdv ct) ⟨us, []⟩ = pure (ps.zip us)) : MetFn K C x qual st ps :=
  ⟨f, _, a, i, fun_mk l c k, (fun_mk (st := st) l c k).binds b⟩
def PrpFn (K : PySem.W.Frag) (C : Addr) (x qual : Str) (st : Stmt) : Prop := ∃ p g fd, PySem.W.findIn K (.ref C) x = some (some (.ref p)) ∧ PySem.W.specialIn K (.ref p) "__get__" = some (some (.builtin "property.__get__")) ∧ PySem.W.takesIn K (.ref p) = some true ∧
    (∃ rest, PySem.W.recIn K p "property" = some (.ref g :: rest)) ∧ Fun K x qual st g fd ∧ Binds K fd ["self"] []
theorem prp_fn {K : PySem.W.Frag} {C p : Addr} {x qual : Str} {st : Stmt} {f : Addr} {rest : List Value} {oc : Value} {od an : Option Addr} {osl : Array (Option Value)} {kV doc pm cdv ct : Value} (a : PySem.W.findIn K (.ref C) x = some (some (.ref p)))
    (s : PySem.W.specialIn K (.ref p) "__get__" = some (some (.builtin "property.__get__"))) (t : PySem.W.takesIn K (.ref p) = some true) (r : PySem.W.recIn K p "property" = some (.ref f :: rest))
    (l : K.lookup f = some ⟨oc, od, .func (PySem.W.fnOf x qual (defArgs st) (defBody st) (defScope st) .none kV doc pm an cdv ct), osl⟩) (c : PySem.W.codeIn K cdv qual = true) (k : PySem.W.keepIn K (.ref f) = true)
    (b : ∀ (kV doc pm : Value) (an : Option Addr) (cdv ct : Value) (us : List Value), us.length = 1 → bindArgs (PySem.W.fnOf x qual (defArgs st) (defBody st) (defScope st) .none kV doc pm an cdv ct) ⟨us, []⟩ = pure ((["self"] : List Str).zip us)) : PrpFn K C x qual st :=
  ⟨p, f, _, a, s, t, ⟨rest, r⟩, fun_mk l c k, (fun_mk (st := st) l c k).binds b⟩
def SlotAt (K : PySem.W.Frag) (C : Addr) (x : Str) (i : Nat) : Prop := ∃ p, Slot1 K C x p i
theorem slot_at {K : PySem.W.Frag} {C p : Addr} {x : Str} {i : Nat} (a : PySem.W.findIn K (.ref C) x = some (some (.ref p))) (s : PySem.W.specialIn K (.ref p) "__get__" = some (some (.builtin "member_descriptor.__get__"))) (t : PySem.W.takesIn K (.ref p) = some true)
    (y : PySem.W.typeIn K (.ref p) = some (.type "member_descriptor")) (j : PySem.W.slotIn K p C = some i) (h : i < 1000) : SlotAt K C x i := ⟨p, a, s, t, y, j, h⟩

theorem kit_self {K : PySem.W.Frag} {C : Addr} : PySem.W.kitOne K (.ref C) (.ref C) = some true := by
  unfold PySem.W.kitOne; rw [if_pos (by simp)]
theorem law_binds {K : PySem.W.Frag} {f : Addr} {fd : FuncData} (F : Fun K "law" "law" s_law f fd) (s : Shared) (v : Value) : BindsTo s fd ⟨[v], []⟩ [("_law_script", v)] := by
  obtain ⟨oc, od, kV, doc, pm, an, cdv, ct, osl, rfl, lk, hcd⟩ := F.ex
  exact .of_eq rfl

theorem all_mk {P : Program} {w : World} {K : PySem.W.Frag} {h : Heap} {mg : Str → Option Value} {fa C : Addr} {tM tG : Tok} (X : K.In h) (G : h.Ns mainGlobals mg) (hfa : mg "law" = some (.ref fa))
    (t_is_integer : TopFn K "is_integer" s_is_integer ["value"])
    (t_is_between : TopFn K "is_between" s_is_between ["value", "low", "high"])
    (t_require_number : TopFn K "require_number" s_require_number ["value", "low", "high"])
    (t_is_rising : TopFn K "is_rising" s_is_rising ["value", "low", "high"])
    (t_is_heard_row : TopFn K "is_heard_row" s_is_heard_row ["value", "house", "size"])
    (t_is_heard : TopFn K "is_heard" s_is_heard ["value"])
    (t_houses_from : TopFn K "houses_from" s_houses_from ["heard", "house"])
    (t_heard_by : TopFn K "heard_by" s_heard_by ["web", "house"])
    (t_require_house : TopFn K "require_house" s_require_house ["web", "house"])
    (t_is_like : TopFn K "is_like" s_is_like ["web", "other"])
    (t_require_like : TopFn K "require_like" s_require_like ["web", "other"])
    (t_silent_web : TopFn K "silent_web" s_silent_web ["size"])
    (t_law_cask : TopFn K "_law_cask" s__law_cask ["_law_script", "_law_at"])
    (t_law_scoop : TopFn K "_law_scoop" s__law_scoop ["_law_cask_here", "_law_total"])
    (t_law_any_of : TopFn K "_law_any_of" s__law_any_of ["_law_cask_here", "_law_items"])
    (t_law_few_of : TopFn K "_law_few_of" s__law_few_of ["_law_cask_here", "_law_items", "_law_count"])
    (t_law_rows : TopFn K "_law_rows" s__law_rows ["_law_cask_here", "_law_size"])
    (t_law_heralds : TopFn K "_law_heralds" s__law_heralds ["_law_web"])
    (t_law_together : TopFn K "_law_together" s__law_together ["_law_webs", "_law_size"])
    (t_law_right : TopFn K "_law_right" s__law_right ["_law_cask_here"])
    (t_law : TopFn K "law" s_law ["_law_script"])
    (m__init__ : MetFn K C "__init__" "Web.__init__" s_Webu__initu_ ["self", "heard"])
    (mthen : MetFn K C "then" "Web.then" s_Web_then ["self", "other"])
    (mis_within : MetFn K C "is_within" "Web.is_within" s_Web_is_within ["self", "other"])
    (m__eq__ : MetFn K C "__eq__" "Web.__eq__" s_Webu__equ_ ["self", "other"])
    (mhears : MetFn K C "hears" "Web.hears" s_Web_hears ["self", "house"])
    (p_size : PrpFn K C "size" "Web.size" s_Web_size)
    (p_roots : PrpFn K C "roots" "Web.roots" s_Web_roots)
    (p_parts : PrpFn K C "parts" "Web.parts" s_Web_parts)
    (s_heard : SlotAt K C "own_heard" 0)
    (s_size : SlotAt K C "own_size" 4)
    (s_reached : SlotAt K C "own_reached" 2)
    (s_roots : SlotAt K C "own_roots" 3)
    (s_pairs : SlotAt K C "own_pairs" 1)
    (z_len : PySem.W.nsIn K mainGlobals "len" = some none)
    (z_range : PySem.W.nsIn K mainGlobals "range" = some none)
    (z_list : PySem.W.nsIn K mainGlobals "list" = some none)
    (z_tuple : PySem.W.nsIn K mainGlobals "tuple" = some none)
    (z_set : PySem.W.nsIn K mainGlobals "set" = some none)
    (z_sorted : PySem.W.nsIn K mainGlobals "sorted" = some none)
    (z_all : PySem.W.nsIn K mainGlobals "all" = some none)
    (z_isinstance : PySem.W.nsIn K mainGlobals "isinstance" = some none)
    (z_int : PySem.W.nsIn K mainGlobals "int" = some none)
    (z_bool : PySem.W.nsIn K mainGlobals "bool" = some none)
    (z_enumerate : PySem.W.nsIn K mainGlobals "enumerate" = some none)
    (z_zip : PySem.W.nsIn K mainGlobals "zip" = some none)
    (z_min : PySem.W.nsIn K mainGlobals "min" = some none)
    (z_max : PySem.W.nsIn K mainGlobals "max" = some none)
    (z_abs : PySem.W.nsIn K mainGlobals "abs" = some none)
    (z_str : PySem.W.nsIn K mainGlobals "str" = some none)
    (z_repr : PySem.W.nsIn K mainGlobals "repr" = some none)
    (z_dict : PySem.W.nsIn K mainGlobals "dict" = some none)
    (aC : PySem.W.nsIn K mainGlobals "Web" = some (some (.ref C)))
    (aM : PySem.W.nsIn K mainGlobals "MAX_SIZE" = some (some (.int 5 tM)))
    (aG : PySem.W.nsIn K mainGlobals "GREATEST" = some (some (.int (10 ^ 60) tG)))
    (pg : PySem.W.plainGet K C Str.empty = true)
    (ic : PySem.W.isClsIn K C = true)
    (po : PySem.W.plainOver K C = true)
    (sa : PySem.W.findIn K (.ref C) "__setattr__" = some (some (.builtin "object.__setattr__")))
    (ca : PySem.W.findIn K (.ref C) "__class__" = some (some (.builtin "object.__class__")))
    (cn : PySem.W.specialIn K (.builtin "object.__class__") "__get__" = some (some (.builtin "getset_descriptor.__get__")))
    (ct : PySem.W.takesIn K (.builtin "object.__class__") = some true)
    (cm : PySem.W.mroIn K C (.type "object") = some true)
    (nf : PySem.W.notFirst K C (.ref C) = true)
    (ne : PySem.W.findIn K (.ref C) "__ne__" = some (some (.builtin "object.__ne__")))
    (mk : PySem.W.makesIn K C = true)
    (kc : PySem.W.keepIn K (.ref C) = true)
    : ∃ fd : FuncData, (∀ (s : Shared) (v : Value), BindsTo s fd ⟨[v], []⟩ [("_law_script", v)]) ∧ ∀ base : Heap, K.In base → base.Ns mainGlobals mg → FnOk P w K mg base CX0 11 fa fd ["_law_script"] (spLaw K) := by
  obtain ⟨f_is_integer, d_is_integer, a_is_integer, F_is_integer, b_is_integer⟩ := t_is_integer
  obtain ⟨f_is_between, d_is_between, a_is_between, F_is_between, b_is_between⟩ := t_is_between
  obtain ⟨f_require_number, d_require_number, a_require_number, F_require_number, b_require_number⟩ := t_require_number
  obtain ⟨f_is_rising, d_is_rising, a_is_rising, F_is_rising, b_is_rising⟩ := t_is_rising
  obtain ⟨f_is_heard_row, d_is_heard_row, a_is_heard_row, F_is_heard_row, b_is_heard_row⟩ := t_is_heard_row
  obtain ⟨f_is_heard, d_is_heard, a_is_heard, F_is_heard, b_is_heard⟩ := t_is_heard
  obtain ⟨f_houses_from, d_houses_from, a_houses_from, F_houses_from, b_houses_from⟩ := t_houses_from
  obtain ⟨f_heard_by, d_heard_by, a_heard_by, F_heard_by, b_heard_by⟩ := t_heard_by
  obtain ⟨f_require_house, d_require_house, a_require_house, F_require_house, b_require_house⟩ := t_require_house
  obtain ⟨f_is_like, d_is_like, a_is_like, F_is_like, b_is_like⟩ := t_is_like
  obtain ⟨f_require_like, d_require_like, a_require_like, F_require_like, b_require_like⟩ := t_require_like
  obtain ⟨f_silent_web, d_silent_web, a_silent_web, F_silent_web, b_silent_web⟩ := t_silent_web
  obtain ⟨f_law_cask, d_law_cask, a_law_cask, F_law_cask, b_law_cask⟩ := t_law_cask
  obtain ⟨f_law_scoop, d_law_scoop, a_law_scoop, F_law_scoop, b_law_scoop⟩ := t_law_scoop
  obtain ⟨f_law_any_of, d_law_any_of, a_law_any_of, F_law_any_of, b_law_any_of⟩ := t_law_any_of
  obtain ⟨f_law_few_of, d_law_few_of, a_law_few_of, F_law_few_of, b_law_few_of⟩ := t_law_few_of
  obtain ⟨f_law_rows, d_law_rows, a_law_rows, F_law_rows, b_law_rows⟩ := t_law_rows
  obtain ⟨f_law_heralds, d_law_heralds, a_law_heralds, F_law_heralds, b_law_heralds⟩ := t_law_heralds
  obtain ⟨f_law_together, d_law_together, a_law_together, F_law_together, b_law_together⟩ := t_law_together
  obtain ⟨f_law_right, d_law_right, a_law_right, F_law_right, b_law_right⟩ := t_law_right
  obtain ⟨f_law, d_law, a_law, F_law, b_law⟩ := t_law
  obtain ⟨fm_init, dm_init, am_init, im_init, Fm_init, bm_init⟩ := m__init__
  obtain ⟨fm_then, dm_then, am_then, im_then, Fm_then, bm_then⟩ := mthen
  obtain ⟨fm_is_within, dm_is_within, am_is_within, im_is_within, Fm_is_within, bm_is_within⟩ := mis_within
  obtain ⟨fm_eq, dm_eq, am_eq, im_eq, Fm_eq, bm_eq⟩ := m__eq__
  obtain ⟨fm_hears, dm_hears, am_hears, im_hears, Fm_hears, bm_hears⟩ := mhears
  obtain ⟨pp_size, fp_size, dp_size, ap_size, sp_size, tp_size, rp_size, Fp_size, bp_size⟩ := p_size
  obtain ⟨pp_roots, fp_roots, dp_roots, ap_roots, sp_roots, tp_roots, rp_roots, Fp_roots, bp_roots⟩ := p_roots
  obtain ⟨pp_parts, fp_parts, dp_parts, ap_parts, sp_parts, tp_parts, rp_parts, Fp_parts, bp_parts⟩ := p_parts
  have e := hfa.symm.trans (PySem.W.mg_of X G a_law)
  cases e
  have sc : SCls K C := ⟨pg, ic, po, sa⟩
  have W : WebK K C := ⟨sc, ⟨ca, cn, ct, cm⟩, kit_self, ⟨sc, s_heard⟩, ⟨sc, s_size⟩, ⟨sc, s_reached⟩, ⟨sc, s_roots⟩, ⟨sc, s_pairs⟩⟩
  have B : Bf mg := ⟨PySem.W.mg_none_of X G z_len, PySem.W.mg_none_of X G z_range, PySem.W.mg_none_of X G z_list, PySem.W.mg_none_of X G z_tuple, PySem.W.mg_none_of X G z_set, PySem.W.mg_none_of X G z_sorted, PySem.W.mg_none_of X G z_all, PySem.W.mg_none_of X G z_isinstance, PySem.W.mg_none_of X G z_int, PySem.W.mg_none_of X G z_bool, PySem.W.mg_none_of X G z_enumerate, PySem.W.mg_none_of X G z_zip, PySem.W.mg_none_of X G z_min, PySem.W.mg_none_of X G z_max, PySem.W.mg_none_of X G z_abs, PySem.W.mg_none_of X G z_str, PySem.W.mg_none_of X G z_repr, PySem.W.mg_none_of X G z_dict⟩
  have mW : mg "Web" = some (.ref C) := PySem.W.mg_of X G aC
  have gM : GInt mg "MAX_SIZE" 5 := ⟨_, PySem.W.mg_of X G aM⟩
  have gG : GInt mg "GREATEST" (10 ^ 60) := ⟨_, PySem.W.mg_of X G aG⟩
  refine ⟨d_law, ?_, fun base _ _ => ?_⟩
  · exact law_binds F_law
  have c1 : Gf P w K mg base 1 "is_integer" _ := ok_is_integer B gG F_is_integer (PySem.W.mg_of X G a_is_integer) b_is_integer
  have c2 : Gf P w K mg base 2 "is_between" _ := ok_is_between c1 F_is_between (PySem.W.mg_of X G a_is_between) b_is_between
  have c3 : Gf P w K mg base 3 "require_number" _ := ok_require_number c2 F_require_number (PySem.W.mg_of X G a_require_number) b_require_number
  have c4 : Gf P w K mg base 3 "is_rising" _ := ok_is_rising B c2 F_is_rising (PySem.W.mg_of X G a_is_rising) b_is_rising
  have c5 : Gf P w K mg base 4 "is_heard_row" _ := ok_is_heard_row c4 F_is_heard_row (PySem.W.mg_of X G a_is_heard_row) b_is_heard_row
  have c6 : Gf P w K mg base 5 "is_heard" _ := ok_is_heard B gM c5 F_is_heard (PySem.W.mg_of X G a_is_heard) b_is_heard
  have c7 : Gf P w K mg base 1 "houses_from" _ := ok_houses_from B F_houses_from (PySem.W.mg_of X G a_houses_from) b_houses_from
  have cW : MkF P w K mg base 6 "Web" C (spWebInit C K) := ⟨fm_init, dm_init, _, ⟨mk, am_init, im_init, kc⟩, ok_web_init B W c6 c7 Fm_init, mW, bm_init⟩
  have c8 : Gf P w K mg base 1 "heard_by" _ := ok_heard_by B W F_heard_by (PySem.W.mg_of X G a_heard_by) b_heard_by
  have c9 : Gf P w K mg base 4 "require_house" _ := ok_require_house W c3 F_require_house (PySem.W.mg_of X G a_require_house) b_require_house
  have c10 : Gf P w K mg base 1 "is_like" _ := ok_is_like B W mW F_is_like (PySem.W.mg_of X G a_is_like) b_is_like
  have c11 : Gf P w K mg base 2 "require_like" _ := ok_require_like c10 F_require_like (PySem.W.mg_of X G a_require_like) b_require_like
  have c12 : Gf P w K mg base 8 "silent_web" _ := ok_silent_web gM cW c3 F_silent_web (PySem.W.mg_of X G a_silent_web) b_silent_web
  have cThen : MetS P w K mg base 8 C "then" (spThen C K) := ⟨fm_then, sc, ⟨am_then, im_then, Fm_then.kp⟩, fnr_mk (ok_then B W cW c11 c8 Fm_then) bm_then⟩
  have cWithin : MetS P w K mg base 3 C "is_within" (spWithin C K) := ⟨fm_is_within, sc, ⟨am_is_within, im_is_within, Fm_is_within.kp⟩, fnr_mk (ok_within B W c11 Fm_is_within) bm_is_within⟩
  have cHears : MetS P w K mg base 5 C "hears" (spHears C K) := ⟨fm_hears, sc, ⟨am_hears, im_hears, Fm_hears.kp⟩, fnr_mk (ok_hears c9 c8 Fm_hears) bm_hears⟩
  have cEq : EqS P w K mg base 1 C (spEq C K) := ⟨fm_eq, ne, cm, am_eq, im_eq, fnr_mk (ok_eq B W mW Fm_eq) bm_eq⟩
  have cP_size : PrpS P w K mg base 1 C "size" (spProp C K fun rs => Dt K (nI rs.length)) := ⟨pp_size, fp_size, sc, ap_size, sp_size, tp_size, rp_size, fnr_mk (ok_size W Fp_size) bp_size⟩
  have cP_roots : PrpS P w K mg base 1 C "roots" (spProp C K fun rs => Dt K (dRow (rootsN rs))) := ⟨pp_roots, fp_roots, sc, ap_roots, sp_roots, tp_roots, rp_roots, fnr_mk (ok_roots W Fp_roots) bp_roots⟩
  have cP_parts : PrpS P w K mg base 1 C "parts" (spProp C K fun rs => Dt K (.tuple ((partsI (reachs rs)).map dI))) := ⟨pp_parts, fp_parts, sc, ap_parts, sp_parts, tp_parts, rp_parts, fnr_mk (ok_parts B W Fp_parts) bp_parts⟩
  have l1 : Gf P w K mg base 1 "_law_cask" _ := ok_cask B F_law_cask (PySem.W.mg_of X G a_law_cask) b_law_cask
  have l2 : Gf P w K mg base 1 "_law_scoop" _ := ok_scoop B F_law_scoop (PySem.W.mg_of X G a_law_scoop) b_law_scoop
  have l3 : Gf P w K mg base 2 "_law_any_of" _ := ok_any_of B l2 F_law_any_of (PySem.W.mg_of X G a_law_any_of) b_law_any_of
  have l4 : Gf P w K mg base 2 "_law_few_of" _ := ok_few_of B l2 F_law_few_of (PySem.W.mg_of X G a_law_few_of) b_law_few_of
  have l5 : Gf P w K mg base 3 "_law_rows" _ := ok_rows B l2 l3 l4 F_law_rows (PySem.W.mg_of X G a_law_rows) b_law_rows
  have l6 : Gf P w K mg base 6 "_law_heralds" _ := ok_heralds B cP_size cHears F_law_heralds (PySem.W.mg_of X G a_law_heralds) b_law_heralds
  have l7 : Gf P w K mg base 9 "_law_together" _ := ok_together B c12 cThen F_law_together (PySem.W.mg_of X G a_law_together) b_law_together
  have l8 : Gf P w K mg base 10 "_law_right" _ := ok_right ⟨B, W, nf, l2, l5, cW, cP_roots, cP_parts, l6, l7, cThen, cWithin, cEq⟩ F_law_right (PySem.W.mg_of X G a_law_right) b_law_right
  exact ok_law B l1 l8 F_law
theorem walk {l : PySem.W.OpenLaw} {q : Program} {loose : List Str} {XP : (Str → Option Value) → Heap → Prop} {YP : World → Heap → Prop} {d : DefRec} {K : Params → PySem.W.Frag} (hn : l.most = some 63) (hdf : d.params.defaults = [])
    (hY : ∀ (w : World) (h : Heap), YP w h → (K w.params).In h)
    (F : ∀ (w : World) (mg : Str → Option Value) (fa : Addr) (h : Heap), (K w.params).In h → h.Ns mainGlobals mg → mg d.name = some (.ref fa) →
      ∃ fd : FuncData, (∀ (s : Shared) (u : Value), BindsTo s fd ⟨[u], []⟩ [("_law_script", u)]) ∧ ∀ base : Heap, (K w.params).In base → base.Ns mainGlobals mg → FnOk l.prog w (K w.params) mg base CX0 11 fa fd ["_law_script"] (spLaw (K w.params))) :
    PySem.W.WalkO q loose XP YP l.row.toRowW d [] (fun f vs => PySem.call f vs) :=
  L2.walk_of (n := 63) (k := 11) (x := "_law_script") (CX := fun _ => CX0) (sp := fun w => spLaw (K w.params)) hn (by decide) hdf ⟨rfl, by decide, by decide⟩ hY F (fun _ _ a ns hl _ hS => ⟨a, ns, rfl, hS, hl, fun _ => rfl⟩) fun _ _ _ _ _ z => z
end Wb

open PySem PySem.W PyProof.Rows
set_option maxRecDepth 100000 in
set_option maxHeartbeats 0 in
theorem PySem.Challenge.cw_rootshared_k02_whole_roots_and_rounds_holds : PySem.Challenge.rw_rootshared_k02_whole_roots_and_rounds.Holds := by
  w_on; o_law; k_head; (case hw => w_witness2)
  k_fill
  refine Wb.walk (l := PySem.Challenge.rw_rootshared_k02_whole_roots_and_rounds) rfl rfl (fun w h Y => PySem.W.kIn_of Y) ?F
  case F =>
    intro w mg fa h KX G hmg
    refine' Wb.all_mk KX G hmg ?t_is_integer ?t_is_between ?t_require_number ?t_is_rising ?t_is_heard_row ?t_is_heard ?t_houses_from ?t_heard_by ?t_require_house ?t_is_like ?t_require_like ?t_silent_web ?t_law_cask ?t_law_scoop ?t_law_any_of ?t_law_few_of ?t_law_rows ?t_law_heralds ?t_law_together ?t_law_right ?t_law ?m__init__ ?mthen ?mis_within ?m__eq__ ?mhears ?p_size ?p_roots ?p_parts ?s_heard ?s_size ?s_reached ?s_roots ?s_pairs ?z_len ?z_range ?z_list ?z_tuple ?z_set ?z_sorted ?z_all ?z_isinstance ?z_int ?z_bool ?z_enumerate ?z_zip ?z_min ?z_max ?z_abs ?z_str ?z_repr ?z_dict ?aC ?aM ?aG ?pg ?ic ?po ?sa ?ca ?cn ?ct ?cm ?nf ?ne ?mk ?kc
    (case aC => k_is)
    (case t_is_integer => (refine' Wb.top_fn ?a ?l ?c ?k ?b; (case a => k_is); (case l => k_is); (case c => k_is); (case k => k_is); (case b => exact fun _ _ _ _ _ _ us hl => match us, hl with | [_], _ => rfl)))
    (case t_is_between => (refine' Wb.top_fn ?a ?l ?c ?k ?b; (case a => k_is); (case l => k_is); (case c => k_is); (case k => k_is); (case b => exact fun _ _ _ _ _ _ us hl => match us, hl with | [_, _, _], _ => rfl)))
    (case t_require_number => (refine' Wb.top_fn ?a ?l ?c ?k ?b; (case a => k_is); (case l => k_is); (case c => k_is); (case k => k_is); (case b => exact fun _ _ _ _ _ _ us hl => match us, hl with | [_, _, _], _ => rfl)))
    (case t_is_rising => (refine' Wb.top_fn ?a ?l ?c ?k ?b; (case a => k_is); (case l => k_is); (case c => k_is); (case k => k_is); (case b => exact fun _ _ _ _ _ _ us hl => match us, hl with | [_, _, _], _ => rfl)))
    (case t_is_heard_row => (refine' Wb.top_fn ?a ?l ?c ?k ?b; (case a => k_is); (case l => k_is); (case c => k_is); (case k => k_is); (case b => exact fun _ _ _ _ _ _ us hl => match us, hl with | [_, _, _], _ => rfl)))
    (case t_is_heard => (refine' Wb.top_fn ?a ?l ?c ?k ?b; (case a => k_is); (case l => k_is); (case c => k_is); (case k => k_is); (case b => exact fun _ _ _ _ _ _ us hl => match us, hl with | [_], _ => rfl)))
    (case t_houses_from => (refine' Wb.top_fn ?a ?l ?c ?k ?b; (case a => k_is); (case l => k_is); (case c => k_is); (case k => k_is); (case b => exact fun _ _ _ _ _ _ us hl => match us, hl with | [_, _], _ => rfl)))
    (case t_heard_by => (refine' Wb.top_fn ?a ?l ?c ?k ?b; (case a => k_is); (case l => k_is); (case c => k_is); (case k => k_is); (case b => exact fun _ _ _ _ _ _ us hl => match us, hl with | [_, _], _ => rfl)))
    (case t_require_house => (refine' Wb.top_fn ?a ?l ?c ?k ?b; (case a => k_is); (case l => k_is); (case c => k_is); (case k => k_is); (case b => exact fun _ _ _ _ _ _ us hl => match us, hl with | [_, _], _ => rfl)))
    (case t_is_like => (refine' Wb.top_fn ?a ?l ?c ?k ?b; (case a => k_is); (case l => k_is); (case c => k_is); (case k => k_is); (case b => exact fun _ _ _ _ _ _ us hl => match us, hl with | [_, _], _ => rfl)))
    (case t_require_like => (refine' Wb.top_fn ?a ?l ?c ?k ?b; (case a => k_is); (case l => k_is); (case c => k_is); (case k => k_is); (case b => exact fun _ _ _ _ _ _ us hl => match us, hl with | [_, _], _ => rfl)))
    (case t_silent_web => (refine' Wb.top_fn ?a ?l ?c ?k ?b; (case a => k_is); (case l => k_is); (case c => k_is); (case k => k_is); (case b => exact fun _ _ _ _ _ _ us hl => match us, hl with | [_], _ => rfl)))
    (case t_law_cask => (refine' Wb.top_fn ?a ?l ?c ?k ?b; (case a => k_is); (case l => k_is); (case c => k_is); (case k => k_is); (case b => exact fun _ _ _ _ _ _ us hl => match us, hl with | [_, _], _ => rfl)))
    (case t_law_scoop => (refine' Wb.top_fn ?a ?l ?c ?k ?b; (case a => k_is); (case l => k_is); (case c => k_is); (case k => k_is); (case b => exact fun _ _ _ _ _ _ us hl => match us, hl with | [_, _], _ => rfl)))
    (case t_law_any_of => (refine' Wb.top_fn ?a ?l ?c ?k ?b; (case a => k_is); (case l => k_is); (case c => k_is); (case k => k_is); (case b => exact fun _ _ _ _ _ _ us hl => match us, hl with | [_, _], _ => rfl)))
    (case t_law_few_of => (refine' Wb.top_fn ?a ?l ?c ?k ?b; (case a => k_is); (case l => k_is); (case c => k_is); (case k => k_is); (case b => exact fun _ _ _ _ _ _ us hl => match us, hl with | [_, _, _], _ => rfl)))
    (case t_law_rows => (refine' Wb.top_fn ?a ?l ?c ?k ?b; (case a => k_is); (case l => k_is); (case c => k_is); (case k => k_is); (case b => exact fun _ _ _ _ _ _ us hl => match us, hl with | [_, _], _ => rfl)))
    (case t_law_heralds => (refine' Wb.top_fn ?a ?l ?c ?k ?b; (case a => k_is); (case l => k_is); (case c => k_is); (case k => k_is); (case b => exact fun _ _ _ _ _ _ us hl => match us, hl with | [_], _ => rfl)))
    (case t_law_together => (refine' Wb.top_fn ?a ?l ?c ?k ?b; (case a => k_is); (case l => k_is); (case c => k_is); (case k => k_is); (case b => exact fun _ _ _ _ _ _ us hl => match us, hl with | [_, _], _ => rfl)))
    (case t_law_right => (refine' Wb.top_fn ?a ?l ?c ?k ?b; (case a => k_is); (case l => k_is); (case c => k_is); (case k => k_is); (case b => exact fun _ _ _ _ _ _ us hl => match us, hl with | [_], _ => rfl)))
    (case t_law => (refine' Wb.top_fn ?a ?l ?c ?k ?b; (case a => k_is); (case l => k_is); (case c => k_is); (case k => k_is); (case b => exact fun _ _ _ _ _ _ us hl => match us, hl with | [_], _ => rfl)))
    (case m__init__ => (refine' Wb.met_fn ?a ?i ?l ?c ?k ?b; (case a => k_is); (case i => k_is); (case l => k_is); (case c => k_is); (case k => k_is); (case b => exact fun _ _ _ _ _ _ us hl => match us, hl with | [_, _], _ => rfl)))
    (case mthen => (refine' Wb.met_fn ?a ?i ?l ?c ?k ?b; (case a => k_is); (case i => k_is); (case l => k_is); (case c => k_is); (case k => k_is); (case b => exact fun _ _ _ _ _ _ us hl => match us, hl with | [_, _], _ => rfl)))
    (case mis_within => (refine' Wb.met_fn ?a ?i ?l ?c ?k ?b; (case a => k_is); (case i => k_is); (case l => k_is); (case c => k_is); (case k => k_is); (case b => exact fun _ _ _ _ _ _ us hl => match us, hl with | [_, _], _ => rfl)))
    (case m__eq__ => (refine' Wb.met_fn ?a ?i ?l ?c ?k ?b; (case a => k_is); (case i => k_is); (case l => k_is); (case c => k_is); (case k => k_is); (case b => exact fun _ _ _ _ _ _ us hl => match us, hl with | [_, _], _ => rfl)))
    (case mhears => (refine' Wb.met_fn ?a ?i ?l ?c ?k ?b; (case a => k_is); (case i => k_is); (case l => k_is); (case c => k_is); (case k => k_is); (case b => exact fun _ _ _ _ _ _ us hl => match us, hl with | [_, _], _ => rfl)))
    (case p_size => (refine' Wb.prp_fn ?a ?s ?t ?r ?l ?c ?k ?b; (case a => k_is); (case s => k_is); (case t => k_is); (case r => k_is); (case l => k_is); (case c => k_is); (case k => k_is); (case b => exact fun _ _ _ _ _ _ us hl => match us, hl with | [_], _ => rfl)))
    (case p_roots => (refine' Wb.prp_fn ?a ?s ?t ?r ?l ?c ?k ?b; (case a => k_is); (case s => k_is); (case t => k_is); (case r => k_is); (case l => k_is); (case c => k_is); (case k => k_is); (case b => exact fun _ _ _ _ _ _ us hl => match us, hl with | [_], _ => rfl)))
    (case p_parts => (refine' Wb.prp_fn ?a ?s ?t ?r ?l ?c ?k ?b; (case a => k_is); (case s => k_is); (case t => k_is); (case r => k_is); (case l => k_is); (case c => k_is); (case k => k_is); (case b => exact fun _ _ _ _ _ _ us hl => match us, hl with | [_], _ => rfl)))
    (case s_heard => (refine' Wb.slot_at ?a ?s ?t ?y ?j ?h; (case a => k_is); (case s => k_is); (case t => k_is); (case y => k_is); (case j => k_is); (case h => decide)))
    (case s_size => (refine' Wb.slot_at ?a ?s ?t ?y ?j ?h; (case a => k_is); (case s => k_is); (case t => k_is); (case y => k_is); (case j => k_is); (case h => decide)))
    (case s_reached => (refine' Wb.slot_at ?a ?s ?t ?y ?j ?h; (case a => k_is); (case s => k_is); (case t => k_is); (case y => k_is); (case j => k_is); (case h => decide)))
    (case s_roots => (refine' Wb.slot_at ?a ?s ?t ?y ?j ?h; (case a => k_is); (case s => k_is); (case t => k_is); (case y => k_is); (case j => k_is); (case h => decide)))
    (case s_pairs => (refine' Wb.slot_at ?a ?s ?t ?y ?j ?h; (case a => k_is); (case s => k_is); (case t => k_is); (case y => k_is); (case j => k_is); (case h => decide)))
    (case z_len => k_is)
    (case z_range => k_is)
    (case z_list => k_is)
    (case z_tuple => k_is)
    (case z_set => k_is)
    (case z_sorted => k_is)
    (case z_all => k_is)
    (case z_isinstance => k_is)
    (case z_int => k_is)
    (case z_bool => k_is)
    (case z_enumerate => k_is)
    (case z_zip => k_is)
    (case z_min => k_is)
    (case z_max => k_is)
    (case z_abs => k_is)
    (case z_str => k_is)
    (case z_repr => k_is)
    (case z_dict => k_is)
    (case aM => k_is)
    (case aG => k_is)
    (case pg => k_is)
    (case ic => k_is)
    (case po => k_is)
    (case sa => k_is)
    (case ca => k_is)
    (case cn => k_is)
    (case ct => k_is)
    (case cm => k_is)
    (case nf => k_is)
    (case ne => k_is)
    (case mk => k_is)
    (case kc => k_is)

