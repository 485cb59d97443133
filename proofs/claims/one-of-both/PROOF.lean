import PyProof.Rows.All
import PySem.Str
import Wide.All
import OpenK.AllK
import Wide.FinOn
import HandS.ForMost
import HandS.TupSets
import KE.KeyNested
import KE.SortCalls
import KE.LtSeq
import HandS.SortKw
import KE.KMinBuiltin
import HandS.Sort
import KE.KDictCopyH
import KE.KDictSum
import KE.SortData
import HandS.Deep
import PySem.Challenge.RW_kindfill_k40_whole_one_of_both
import PyProof.Rows.StrMeet
import HandS.IsInst
import HandS.Steps
set_option Elab.async false
set_option autoImplicit false
set_option linter.all false
set_option maxRecDepth 100000
set_option maxHeartbeats 4000000
/-! Kinds, their ends, what can be had of them (by height), and the plain law that joins the two searches. -/
namespace KF
open PySem

inductive Kd where
  | one
  | mk (m : Str)
  | to (a b : Kd)
  | both (a b : Kd)
  deriving DecidableEq

/-- the ends: what is taken, and the mark -/
def ends : Kd → List (List Kd × Str)
  | .one => []
  | .mk m => [([], m)]
  | .to a b => (ends b).map fun e => (a :: e.1, e.2)
  | .both a b => ends a ++ ends b
/-- the program's ways: a move is a number or a kind -/
def pways : Kd → List (List (Int ⊕ Kd) × Str)
  | .one => []
  | .mk m => [([], m)]
  | .to a b => (pways b).map fun e => (.inr a :: e.1, e.2)
  | .both a b => (pways a).map (fun e => (.inl 1 :: e.1, e.2)) ++ (pways b).map (fun e => (.inl 2 :: e.1, e.2))
def mvK : List (Int ⊕ Kd) → List Kd
  | [] => []
  | .inl _ :: r => mvK r
  | .inr k :: r => k :: mvK r
theorem pways_ends : ∀ k : Kd, (pways k).map (fun e => (mvK e.1, e.2)) = ends k
  | .one => rfl
  | .mk _ => rfl
  | .to a b => by
    have ih := pways_ends b
    show ((pways b).map fun e => (Sum.inr a :: e.1, e.2)).map (fun e => (mvK e.1, e.2)) = (ends b).map fun e => (a :: e.1, e.2)
    rw [← ih, List.map_map, List.map_map]
    rfl
  | .both a b => by
    have iha := pways_ends a
    have ihb := pways_ends b
    show ((pways a).map (fun e => (Sum.inl 1 :: e.1, e.2)) ++ (pways b).map (fun e => (Sum.inl 2 :: e.1, e.2))).map (fun e => (mvK e.1, e.2)) = ends a ++ ends b
    rw [← iha, ← ihb, List.map_append, List.map_map, List.map_map]
    rfl

/-! ### what can be had -/
def DerN : Nat → List Kd → Str → Prop
  | 0, _, _ => False
  | n + 1, S, m => ∃ k ∈ S, ∃ e ∈ ends k, e.2 = m ∧ ∀ j ∈ e.1, ∀ f ∈ ends j, DerN n (S ++ f.1) f.2
def Der (S : List Kd) (m : Str) : Prop := ∃ n, DerN n S m
/-- a kind can be had -/
def Has (S : List Kd) (k : Kd) : Prop := ∀ e ∈ ends k, Der (S ++ e.1) e.2

theorem DerN.mono : ∀ {n : Nat} {S T : List Kd} {m : Str}, (∀ k ∈ S, k ∈ T) → DerN n S m → DerN n T m
  | 0, _, _, _, _, h => h.elim
  | n + 1, S, T, m, hs, h => by
    obtain ⟨k, hk, e, he, em, hp⟩ := h
    refine ⟨k, hs k hk, e, he, em, fun j hj f hf => ?_⟩
    refine DerN.mono (fun k hk => ?_) (hp j hj f hf)
    rcases List.mem_append.mp hk with h | h
    · exact List.mem_append_left _ (hs k h)
    · exact List.mem_append_right _ h
theorem DerN.up : ∀ {n : Nat} {S : List Kd} {m : Str}, DerN n S m → DerN (n + 1) S m
  | 0, _, _, h => h.elim
  | n + 1, S, m, h => by
    obtain ⟨k, hk, e, he, em, hp⟩ := h
    exact ⟨k, hk, e, he, em, fun j hj f hf => DerN.up (hp j hj f hf)⟩
theorem DerN.le {n n' : Nat} {S : List Kd} {m : Str} (h : n ≤ n') (d : DerN n S m) : DerN n' S m := by
  induction h with
  | refl => exact d
  | step _ ih => exact ih.up
theorem Der.mono {S T : List Kd} {m : Str} (hs : ∀ k ∈ S, k ∈ T) (h : Der S m) : Der T m := let ⟨n, d⟩ := h; ⟨n, d.mono hs⟩
theorem Has.mono {S T : List Kd} {k : Kd} (hs : ∀ k ∈ S, k ∈ T) (h : Has S k) : Has T k := fun e he => (h e he).mono fun k hk => by
  rcases List.mem_append.mp hk with h | h
  · exact List.mem_append_left _ (hs k h)
  · exact List.mem_append_right _ h

/-- finitely many, one height -/
theorem all_height {α : Type} {p : Nat → α → Prop} (up : ∀ n n' x, n ≤ n' → p n x → p n' x) : ∀ l : List α, (∀ x ∈ l, ∃ n, p n x) → ∃ n, ∀ x ∈ l, p n x
  | [], _ => ⟨0, fun _ h => nomatch h⟩
  | x :: l, h => by
    obtain ⟨n, hn⟩ := all_height up l fun y hy => h y (List.mem_cons_of_mem _ hy)
    obtain ⟨n', hn'⟩ := h x List.mem_cons_self
    refine ⟨n + n', fun y hy => ?_⟩
    rcases List.mem_cons.mp hy with e | hy
    · rw [e]; exact up _ _ _ (Nat.le_add_left ..) hn'
    · exact up _ _ _ (Nat.le_add_right ..) (hn y hy)
theorem Has.height {S : List Kd} {k : Kd} (h : Has S k) : ∃ n, ∀ e ∈ ends k, DerN n (S ++ e.1) e.2 :=
  all_height (p := fun n (e : List Kd × Str) => DerN n (S ++ e.1) e.2) (fun _ _ _ hn d => d.le hn) (ends k) h
/-- one step of the book -/
theorem Der.step {S : List Kd} {k : Kd} {e : List Kd × Str} (hk : k ∈ S) (he : e ∈ ends k) (h : ∀ j ∈ e.1, Has S j) : Der S e.2 := by
  obtain ⟨n, hn⟩ := all_height (p := fun n (j : Kd) => ∀ f ∈ ends j, DerN n (S ++ f.1) f.2) (fun _ _ _ hn d f hf => (d f hf).le hn) e.1 fun j hj => (h j hj).height
  exact ⟨n + 1, k, hk, e, he, rfl, hn⟩
theorem Der.inv {S : List Kd} {m : Str} (h : Der S m) : ∃ k ∈ S, ∃ e ∈ ends k, e.2 = m ∧ ∀ j ∈ e.1, Has S j := by
  obtain ⟨n, d⟩ := h
  cases n with
  | zero => exact d.elim
  | succ n =>
    obtain ⟨k, hk, e, he, em, hp⟩ := d
    exact ⟨k, hk, e, he, em, fun j hj f hf => ⟨n, hp j hj f hf⟩⟩

/-! ### forward: a set of marks that one more way does not make greater -/
/-- an end is come to, the marks M being had by what is there -/
def OkM (S : List Kd) (M : List Str) (f : List Kd × Str) : Prop := ((∀ t ∈ f.1, t ∈ S) ∧ f.2 ∈ M) ∨ ((¬ ∀ t ∈ f.1, t ∈ S) ∧ Der (S ++ f.1) f.2)
def OkK (S : List Kd) (M : List Str) (k : Kd) : Prop := ∀ f ∈ ends k, OkM S M f
theorem OkM.der {S : List Kd} {M : List Str} (hM : ∀ m ∈ M, Der S m) {f : List Kd × Str} (h : OkM S M f) : Der (S ++ f.1) f.2 := by
  rcases h with ⟨_, h⟩ | ⟨_, h⟩
  · exact (hM _ h).mono fun k hk => List.mem_append_left _ hk
  · exact h
theorem OkK.has {S : List Kd} {M : List Str} (hM : ∀ m ∈ M, Der S m) {k : Kd} (h : OkK S M k) : Has S k := fun f hf => (h f hf).der hM
theorem OkM.up {S : List Kd} {M M' : List Str} (hs : ∀ m ∈ M, m ∈ M') {f : List Kd × Str} (h : OkM S M f) : OkM S M' f := by
  rcases h with ⟨a, h⟩ | ⟨a, h⟩
  · exact .inl ⟨a, hs _ h⟩
  · exact .inr ⟨a, h⟩
theorem closed_has {S : List Kd} {M : List Str} (hc : ∀ k ∈ S, ∀ e ∈ ends k, (∀ j ∈ e.1, OkK S M j) → e.2 ∈ M) : ∀ (n : Nat) (m : Str), DerN n S m → m ∈ M
  | 0, _, h => h.elim
  | n + 1, m, h => by
    obtain ⟨k, hk, e, he, em, hp⟩ := h
    rw [← em]
    refine hc k hk e he fun j hj f hf => ?_
    have d := hp j hj f hf
    by_cases ht : ∀ t ∈ f.1, t ∈ S
    · refine .inl ⟨ht, closed_has hc n f.2 (d.mono fun k hk => ?_)⟩
      rcases List.mem_append.mp hk with h | h
      · exact h
      · exact ht k h
    · exact .inr ⟨ht, n, d⟩
/-- all marks that can be had -/
def IsHad (S : List Kd) (M : List Str) : Prop := ∀ m, m ∈ M ↔ Der S m
theorem closed_all {S : List Kd} {M : List Str} (hM : ∀ m ∈ M, Der S m) (hc : ∀ k ∈ S, ∀ e ∈ ends k, (∀ j ∈ e.1, OkK S M j) → e.2 ∈ M) : IsHad S M :=
  fun m => ⟨hM m, fun ⟨n, d⟩ => closed_has hc n m d⟩
theorem IsHad.okK {S : List Kd} {M : List Str} (h : IsHad S M) {k : Kd} (hk : Has S k) : OkK S M k := fun f hf => by
  by_cases ht : ∀ t ∈ f.1, t ∈ S
  · refine .inl ⟨ht, (h _).2 ((hk f hf).mono fun k hk => ?_)⟩
    rcases List.mem_append.mp hk with h | h
    · exact h
    · exact ht k h
  · exact .inr ⟨ht, hk f hf⟩
theorem IsHad.okK_iff {S : List Kd} {M : List Str} (h : IsHad S M) {k : Kd} : OkK S M k ↔ Has S k := ⟨fun q => q.has fun m hm => (h m).1 hm, h.okK⟩

/-! ### backward: what is being asked is not asked again -/
def SameSet (S T : List Kd) : Prop := ∀ k, k ∈ S ↔ k ∈ T
theorem SameSet.symm {S T : List Kd} (h : SameSet S T) : SameSet T S := fun k => (h k).symm
theorem SameSet.trans {S T R : List Kd} (h : SameSet S T) (h' : SameSet T R) : SameSet S R := fun k => (h k).trans (h' k)
theorem SameSet.refl (S : List Kd) : SameSet S S := fun _ => Iff.rfl
theorem DerN.same {n : Nat} {S T : List Kd} {m : Str} (h : SameSet S T) : DerN n S m ↔ DerN n T m := ⟨DerN.mono fun k hk => (h k).1 hk, DerN.mono fun k hk => (h k).2 hk⟩
theorem Has.same {S T : List Kd} {k : Kd} (h : SameSet S T) : Has S k ↔ Has T k := ⟨Has.mono fun k hk => (h k).1 hk, Has.mono fun k hk => (h k).2 hk⟩
/-- all rooms of a list are higher than n -/
def High (n : Nat) (asked : List (List Kd × Str)) : Prop := ∀ r ∈ asked, ¬ DerN n r.1 r.2
/-- what the backward search is worth, asked for a room -/
def RoomSays (S : List Kd) (m : Str) (asked : List (List Kd × Str)) (b : Bool) : Prop :=
  (b = true → Der S m) ∧ ∀ n, DerN (n + 1) S m → High n asked → b = true
/-- .. for a kind -/
def KindSays (S : List Kd) (k : Kd) (asked : List (List Kd × Str)) (b : Bool) : Prop :=
  (b = true → Has S k) ∧ ∀ n, (∀ e ∈ ends k, DerN n (S ++ e.1) e.2) → High n asked → b = true
theorem DerN.least {S : List Kd} {m : Str} : ∀ {n : Nat}, DerN n S m → ∃ j, j + 1 ≤ n ∧ DerN (j + 1) S m ∧ ¬ DerN j S m
  | 0, h => h.elim
  | n + 1, h => by
    by_cases c : DerN n S m
    · obtain ⟨j, h1, h2, h3⟩ := DerN.least c
      exact ⟨j, Nat.le_succ_of_le h1, h2, h3⟩
    · exact ⟨n, Nat.le_refl _, h, c⟩
theorem High.le {n n' : Nat} {asked : List (List Kd × Str)} (h : n ≤ n') (q : High n' asked) : High n asked := fun r hr d => q r hr (d.le h)
/-- an end that is searched says so -/
theorem end_low {S : List Kd} {e : List Kd × Str} {asked : List (List Kd × Str)} {b : Bool} {n : Nat} (d : DerN n (S ++ e.1) e.2) (hi : High n asked) (q : RoomSays (S ++ e.1) e.2 (asked ++ [(S ++ e.1, e.2)]) b) : b = true := by
  obtain ⟨j, h1, h2, h3⟩ := d.least
  refine q.2 j h2 fun r hr => ?_
  rcases List.mem_append.mp hr with hr | hr
  · exact hi.le (by omega) r hr
  · rw [List.mem_singleton.mp hr]
    exact h3
theorem end_new {S : List Kd} {e : List Kd × Str} {asked : List (List Kd × Str)} {n : Nat} (d : DerN n (S ++ e.1) e.2) (hi : High n asked) : ¬ ∃ r ∈ asked, SameSet r.1 (S ++ e.1) ∧ r.2 = e.2 := by
  rintro ⟨r, hr, h1, h2⟩
  refine hi r hr ?_
  rw [h2]
  exact (DerN.same h1).2 d
end KF
/-! Texts of kinds (no two alike), what is there in the order of the texts, and the measures of both recursions. -/
namespace KF
open PySem PyProof.Rows

/-! ### texts -/
/-- the codes of a kind's text -/
def sh : Kd → List Nat
  | .one => [49]
  | .mk m => m.cps.toList
  | .to a b => [40, 32] ++ sh a ++ [32] ++ [45, 62] ++ [32] ++ sh b ++ [32, 41]
  | .both a b => [40, 32] ++ sh a ++ [32] ++ [42] ++ [32] ++ sh b ++ [32, 41]
def txt : Kd → Str
  | .one => Str.ofString "1"
  | .mk m => m
  | .to a b => Str.ofString "( " ++ txt a ++ Str.ofString " " ++ Str.ofString "->" ++ Str.ofString " " ++ txt b ++ Str.ofString " )"
  | .both a b => Str.ofString "( " ++ txt a ++ Str.ofString " " ++ Str.ofString "*" ++ Str.ofString " " ++ txt b ++ Str.ofString " )"
theorem cps_app (x y : Str) : (x ++ y).cps.toList = x.cps.toList ++ y.cps.toList := by
  show (x.cps ++ y.cps).toList = _
  rw [Array.toList_append]
theorem txt_sh : ∀ k : Kd, (txt k).cps.toList = sh k
  | .one => by decide +kernel
  | .mk _ => rfl
  | .to a b => by
    have ea := txt_sh a
    have eb := txt_sh b
    have e1 : (Str.ofString "( ").cps.toList = [40, 32] := by decide +kernel
    have e2 : (Str.ofString " ").cps.toList = [32] := by decide +kernel
    have e3 : (Str.ofString "->").cps.toList = [45, 62] := by decide +kernel
    have e4 : (Str.ofString " )").cps.toList = [32, 41] := by decide +kernel
    show (Str.ofString "( " ++ txt a ++ Str.ofString " " ++ Str.ofString "->" ++ Str.ofString " " ++ txt b ++ Str.ofString " )").cps.toList = _
    simp only [cps_app, ea, eb, e1, e2, e3, e4]
    rfl
  | .both a b => by
    have ea := txt_sh a
    have eb := txt_sh b
    have e1 : (Str.ofString "( ").cps.toList = [40, 32] := by decide +kernel
    have e2 : (Str.ofString " ").cps.toList = [32] := by decide +kernel
    have e3 : (Str.ofString "*").cps.toList = [42] := by decide +kernel
    have e4 : (Str.ofString " )").cps.toList = [32, 41] := by decide +kernel
    show (Str.ofString "( " ++ txt a ++ Str.ofString " " ++ Str.ofString "*" ++ Str.ofString " " ++ txt b ++ Str.ofString " )").cps.toList = _
    simp only [cps_app, ea, eb, e1, e2, e3, e4]
    rfl
/-- a mark's text: small letters, one at least -/
def WfM (m : Str) : Prop := m.cps.toList ≠ [] ∧ ∀ c ∈ m.cps.toList, 97 ≤ c ∧ c ≤ 122
def Wf : Kd → Prop
  | .one => True
  | .mk m => WfM m ∧ m.length ≤ 6
  | .to a b => Wf a ∧ Wf b
  | .both a b => Wf a ∧ Wf b
/-- what may stand behind a kind's text -/
def Stop (x : List Nat) : Prop := ∀ c r, x = c :: r → c = 32
theorem word_cut : ∀ {a b x y : List Nat}, (∀ c ∈ a, 97 ≤ c ∧ c ≤ 122) → (∀ c ∈ b, 97 ≤ c ∧ c ≤ 122) → Stop x → Stop y → a ++ x = b ++ y → a = b ∧ x = y
  | [], [], _, _, _, _, _, _, h => ⟨rfl, h⟩
  | [], c :: b, x, y, _, hb, hx, _, h => by
    have e : x = c :: (b ++ y) := h
    have := hx c _ e
    have := hb c List.mem_cons_self
    omega
  | c :: a, [], x, y, ha, _, _, hy, h => by
    have e : y = c :: (a ++ x) := h.symm
    have := hy c _ e
    have := ha c List.mem_cons_self
    omega
  | c :: a, d :: b, x, y, ha, hb, hx, hy, h => by
    injection h with h1 h2
    obtain ⟨e1, e2⟩ := word_cut (fun z hz => ha z (List.mem_cons_of_mem _ hz)) (fun z hz => hb z (List.mem_cons_of_mem _ hz)) hx hy h2
    exact ⟨by rw [h1, e1], e2⟩
/-- the first sign tells the form -/
theorem head_mk {m : Str} (h : WfM m) : ∃ c r, m.cps.toList = c :: r ∧ 97 ≤ c := by
  obtain ⟨h1, h2⟩ := h
  cases e : m.cps.toList with
  | nil => exact absurd e h1
  | cons c r => exact ⟨c, r, rfl, (h2 c (by rw [e]; exact List.mem_cons_self)).1⟩
theorem stop32 (x : List Nat) : Stop (32 :: x) := fun _ _ e => by injection e with e _; exact e.symm
theorem sh_cut : ∀ {k j : Kd} {x y : List Nat}, Wf k → Wf j → Stop x → Stop y → sh k ++ x = sh j ++ y → k = j ∧ x = y := by
  intro k
  induction k with
  | one =>
    intro j x y _ hj hx hy h
    cases j with
    | one => simp only [sh, List.cons_append, List.nil_append] at h; injection h with _ h; exact ⟨rfl, h⟩
    | mk m =>
      obtain ⟨c, r, e, hc⟩ := head_mk hj.1
      simp only [sh, e, List.cons_append, List.nil_append] at h
      injection h with h _
      omega
    | to a b => simp only [sh, List.cons_append, List.nil_append, List.append_assoc] at h; injection h with h _; omega
    | both a b => simp only [sh, List.cons_append, List.nil_append, List.append_assoc] at h; injection h with h _; omega
  | mk m =>
    intro j x y hk hj hx hy h
    obtain ⟨c, r, e, hc⟩ := head_mk hk.1
    cases j with
    | one => simp only [sh, e, List.cons_append, List.nil_append] at h; injection h with h _; omega
    | mk m' =>
      obtain ⟨e1, e2⟩ := word_cut hk.1.2 hj.1.2 hx hy h
      refine ⟨?_, e2⟩
      have e3 : m.cps = m'.cps := Array.toList_inj.mp e1
      cases m; cases m'
      exact congrArg (fun z => Kd.mk (Str.mk z)) e3
    | to a b => simp only [sh, e, List.cons_append, List.nil_append, List.append_assoc] at h; injection h with h _; omega
    | both a b => simp only [sh, e, List.cons_append, List.nil_append, List.append_assoc] at h; injection h with h _; omega
  | to a b iha ihb =>
    intro j x y hk hj hx hy h
    cases j with
    | one => simp only [sh, List.cons_append, List.nil_append, List.append_assoc] at h; injection h with h _; omega
    | mk m =>
      obtain ⟨c, r, e, hc⟩ := head_mk hj.1
      simp only [sh, e, List.cons_append, List.nil_append, List.append_assoc] at h; injection h with h _; omega
    | to a' b' =>
      simp only [sh, List.cons_append, List.nil_append, List.append_assoc] at h
      injection h with _ h
      injection h with _ h
      obtain ⟨e1, h⟩ := iha hk.1 hj.1 (stop32 _) (stop32 _) h
      injection h with _ h
      injection h with _ h
      injection h with _ h
      injection h with _ h
      obtain ⟨e2, h⟩ := ihb hk.2 hj.2 (stop32 _) (stop32 _) h
      injection h with _ h
      injection h with _ h
      exact ⟨by rw [e1, e2], h⟩
    | both a' b' =>
      simp only [sh, List.cons_append, List.nil_append, List.append_assoc] at h
      injection h with _ h
      injection h with _ h
      obtain ⟨e1, h⟩ := iha hk.1 hj.1 (stop32 _) (stop32 _) h
      injection h with _ h
      injection h with h _
      omega
  | both a b iha ihb =>
    intro j x y hk hj hx hy h
    cases j with
    | one => simp only [sh, List.cons_append, List.nil_append, List.append_assoc] at h; injection h with h _; omega
    | mk m =>
      obtain ⟨c, r, e, hc⟩ := head_mk hj.1
      simp only [sh, e, List.cons_append, List.nil_append, List.append_assoc] at h; injection h with h _; omega
    | to a' b' =>
      simp only [sh, List.cons_append, List.nil_append, List.append_assoc] at h
      injection h with _ h
      injection h with _ h
      obtain ⟨e1, h⟩ := iha hk.1 hj.1 (stop32 _) (stop32 _) h
      injection h with _ h
      injection h with h _
      omega
    | both a' b' =>
      simp only [sh, List.cons_append, List.nil_append, List.append_assoc] at h
      injection h with _ h
      injection h with _ h
      obtain ⟨e1, h⟩ := iha hk.1 hj.1 (stop32 _) (stop32 _) h
      injection h with _ h
      injection h with _ h
      injection h with _ h
      obtain ⟨e2, h⟩ := ihb hk.2 hj.2 (stop32 _) (stop32 _) h
      injection h with _ h
      injection h with _ h
      exact ⟨by rw [e1, e2], h⟩
theorem txt_inj {k j : Kd} (hk : Wf k) (hj : Wf j) (h : txt k = txt j) : k = j := by
  have e : sh k ++ [] = sh j ++ [] := by rw [← txt_sh k, ← txt_sh j, h]
  exact (sh_cut hk hj (fun c r (e : [] = c :: r) => nomatch e) (fun c r (e : [] = c :: r) => nomatch e) e).1
def leaves : Kd → Nat
  | .one => 1
  | .mk _ => 1
  | .to a b => leaves a + leaves b
  | .both a b => leaves a + leaves b
theorem leaves_pos : ∀ k : Kd, 1 ≤ leaves k
  | .one => Nat.le_refl _
  | .mk _ => Nat.le_refl _
  | .to a b => Nat.le_trans (leaves_pos a) (Nat.le_add_right ..)
  | .both a b => Nat.le_trans (leaves_pos a) (Nat.le_add_right ..)
theorem sh_len : ∀ {k : Kd}, Wf k → (sh k).length + 8 ≤ 16 * leaves k
  | .one, _ => by decide
  | .mk m, h => by
    have e : m.length = m.cps.toList.length := rfl
    have := h.2
    simp only [sh, leaves]
    omega
  | .to a b, h => by
    have := sh_len h.1
    have := sh_len h.2
    simp only [sh, leaves, List.length_append, List.length_cons, List.length_nil]
    omega
  | .both a b, h => by
    have := sh_len h.1
    have := sh_len h.2
    simp only [sh, leaves, List.length_append, List.length_cons, List.length_nil]
    omega
theorem txt_len {k : Kd} (h : Wf k) : (txt k).length ≤ 16 * leaves k := by
  have e : (txt k).length = (txt k).cps.toList.length := rfl
  have := sh_len h
  rw [e, txt_sh]
  omega

/-! ### parts -/
def subs : Kd → List Kd
  | .one => [.one]
  | .mk m => [.mk m]
  | .to a b => .to a b :: (subs a ++ subs b)
  | .both a b => .both a b :: (subs a ++ subs b)
theorem subs_self : ∀ k : Kd, k ∈ subs k
  | .one => List.mem_cons_self
  | .mk _ => List.mem_cons_self
  | .to _ _ => List.mem_cons_self
  | .both _ _ => List.mem_cons_self
theorem subs_len : ∀ k : Kd, (subs k).length + 1 = 2 * leaves k
  | .one => rfl
  | .mk _ => rfl
  | .to a b => by
    have := subs_len a
    have := subs_len b
    simp only [subs, leaves, List.length_cons, List.length_append]
    omega
  | .both a b => by
    have := subs_len a
    have := subs_len b
    simp only [subs, leaves, List.length_cons, List.length_append]
    omega
theorem subs_trans {i j : Kd} (h : i ∈ subs j) : ∀ k : Kd, j ∈ subs k → i ∈ subs k
  | .one, e => by rw [List.mem_singleton.mp e] at h; exact h
  | .mk m, e => by rw [List.mem_singleton.mp e] at h; exact h
  | .to a b, e => by
    rcases List.mem_cons.mp e with e | e
    · rw [e] at h; exact h
    · rcases List.mem_append.mp e with e | e
      · exact List.mem_cons_of_mem _ (List.mem_append_left _ (subs_trans h a e))
      · exact List.mem_cons_of_mem _ (List.mem_append_right _ (subs_trans h b e))
  | .both a b, e => by
    rcases List.mem_cons.mp e with e | e
    · rw [e] at h; exact h
    · rcases List.mem_append.mp e with e | e
      · exact List.mem_cons_of_mem _ (List.mem_append_left _ (subs_trans h a e))
      · exact List.mem_cons_of_mem _ (List.mem_append_right _ (subs_trans h b e))
/-- what an end takes is a part -/
theorem ends_subs : ∀ {k : Kd} {e : List Kd × Str}, e ∈ ends k → ∀ t ∈ e.1, t ∈ subs k
  | .one, e, h, _, _ => nomatch h
  | .mk m, e, h, t, ht => by
    rw [List.mem_singleton.mp h] at ht
    exact nomatch ht
  | .to a b, e, h, t, ht => by
    obtain ⟨f, hf, rfl⟩ := List.mem_map.mp h
    rcases List.mem_cons.mp ht with e | ht
    · rw [e]; exact List.mem_cons_of_mem _ (List.mem_append_left _ (subs_self a))
    · exact List.mem_cons_of_mem _ (List.mem_append_right _ (ends_subs hf t ht))
  | .both a b, e, h, t, ht => by
    rcases List.mem_append.mp h with h | h
    · exact List.mem_cons_of_mem _ (List.mem_append_left _ (ends_subs h t ht))
    · exact List.mem_cons_of_mem _ (List.mem_append_right _ (ends_subs h t ht))
theorem ends_len : ∀ {k : Kd}, (ends k).length ≤ leaves k
  | .one => Nat.zero_le _
  | .mk m => Nat.le_refl _
  | .to a b => by
    have h : (ends b).length ≤ leaves b := ends_len
    simp only [ends, leaves, List.length_map]
    omega
  | .both a b => by
    have h1 : (ends a).length ≤ leaves a := ends_len
    have h2 : (ends b).length ≤ leaves b := ends_len
    simp only [ends, leaves, List.length_append]
    omega
theorem taken_len : ∀ {k : Kd} {e : List Kd × Str}, e ∈ ends k → e.1.length + 1 ≤ leaves k
  | .one, e, h => nomatch h
  | .mk m, e, h => by
    rw [List.mem_singleton.mp h]
    exact Nat.le_refl _
  | .to a b, e, h => by
    obtain ⟨f, hf, rfl⟩ := List.mem_map.mp h
    have := taken_len hf
    have := leaves_pos a
    simp only [leaves, List.length_cons]
    omega
  | .both a b, e, h => by
    rcases List.mem_append.mp h with h | h
    · have := taken_len h
      simp only [leaves]
      omega
    · have := taken_len h
      simp only [leaves]
      omega
theorem leaves_subs : ∀ {k j : Kd}, j ∈ subs k → leaves j ≤ leaves k
  | .one, j, h => by rw [List.mem_singleton.mp h]; exact Nat.le_refl _
  | .mk m, j, h => by rw [List.mem_singleton.mp h]; exact Nat.le_refl _
  | .to a b, j, h => by
    rcases List.mem_cons.mp h with e | h
    · rw [e]; exact Nat.le_refl _
    · rcases List.mem_append.mp h with h | h
      · have := leaves_subs h; simp only [leaves]; omega
      · have := leaves_subs h; simp only [leaves]; omega
  | .both a b, j, h => by
    rcases List.mem_cons.mp h with e | h
    · rw [e]; exact Nat.le_refl _
    · rcases List.mem_append.mp h with h | h
      · have := leaves_subs h; simp only [leaves]; omega
      · have := leaves_subs h; simp only [leaves]; omega
theorem wf_subs : ∀ {k j : Kd}, Wf k → j ∈ subs k → Wf j
  | .one, j, w, h => by rw [List.mem_singleton.mp h]; exact w
  | .mk m, j, w, h => by rw [List.mem_singleton.mp h]; exact w
  | .to a b, j, w, h => by
    rcases List.mem_cons.mp h with e | h
    · rw [e]; exact w
    · rcases List.mem_append.mp h with h | h
      · exact wf_subs w.1 h
      · exact wf_subs w.2 h
  | .both a b, j, w, h => by
    rcases List.mem_cons.mp h with e | h
    · rw [e]; exact w
    · rcases List.mem_append.mp h with h | h
      · exact wf_subs w.1 h
      · exact wf_subs w.2 h
/-- a list of kinds with all that their ends take -/
structure Clo (U : List Kd) : Prop where
  wf : ∀ k ∈ U, Wf k
  cl : ∀ k ∈ U, ∀ e ∈ ends k, ∀ t ∈ e.1, t ∈ U
  lv : ∀ k ∈ U, leaves k ≤ 8
  sz : U.length ≤ 18
/-- a kind all of whose takes lie in U -/
structure In (U : List Kd) (k : Kd) : Prop where
  wf : Wf k
  cl : ∀ e ∈ ends k, ∀ t ∈ e.1, t ∈ U
  lv : leaves k ≤ 8
theorem Clo.inn {U : List Kd} (c : Clo U) {k : Kd} (h : k ∈ U) : In U k := ⟨c.wf k h, c.cl k h, c.lv k h⟩
theorem clo_of {ks : List Kd} (hw : ∀ k ∈ ks, Wf k) (h8 : ∀ k ∈ ks, leaves k ≤ 8) (hl : (ks.map leaves).sum ≤ 9) : Clo (ks.flatMap subs) := by
  have lv : ∀ (l : List Kd) (k : Kd), k ∈ l → leaves k ≤ (l.map leaves).sum := by
    intro l
    induction l with
    | nil => intro k h; cases h
    | cons x r ih =>
      intro k h
      rw [List.map_cons, List.sum_cons]
      rcases List.mem_cons.mp h with e | h
      · rw [e]; exact Nat.le_add_right ..
      · exact Nat.le_trans (ih k h) (Nat.le_add_left ..)
  have sz : ∀ l : List Kd, (l.flatMap subs).length ≤ 2 * (l.map leaves).sum := by
    intro l
    induction l with
    | nil => exact Nat.le_refl _
    | cons x r ih =>
      have := subs_len x
      rw [List.flatMap_cons, List.length_append, List.map_cons, List.sum_cons]
      omega
  refine ⟨fun k h => ?_, fun k h e he t ht => ?_, fun k h => ?_, ?_⟩
  · obtain ⟨x, hx, hk⟩ := List.mem_flatMap.mp h
    exact wf_subs (hw x hx) hk
  · obtain ⟨x, hx, hk⟩ := List.mem_flatMap.mp h
    exact List.mem_flatMap.mpr ⟨x, hx, subs_trans (ends_subs he t ht) x hk⟩
  · obtain ⟨x, hx, hk⟩ := List.mem_flatMap.mp h
    have := leaves_subs hk
    have := h8 x hx
    omega
  · have := sz ks
    omega

/-! ### what is there, in the order of the texts -/
def Ltx (a b : Kd) : Prop := (txt a).cps.toList < (txt b).cps.toList
def Ctx (S : List Kd) : Prop := S.Pairwise Ltx
theorem Ltx.ne {a b : Kd} (h : Ltx a b) : a ≠ b := fun e => by
  subst e
  exact List.lt_irrefl _ h
theorem Ctx.nodup {S : List Kd} (h : Ctx S) : S.Nodup := List.Pairwise.imp (fun h => Ltx.ne h) h
theorem Ctx.uniq : ∀ {S T : List Kd}, Ctx S → Ctx T → SameSet S T → S = T
  | [], [], _, _, _ => rfl
  | [], t :: T, _, _, h => absurd ((h t).2 List.mem_cons_self) (by simp)
  | s :: S, [], _, _, h => absurd ((h s).1 List.mem_cons_self) (by simp)
  | s :: S, t :: T, hS, hT, h => by
    obtain ⟨s1, s2⟩ := List.pairwise_cons.mp hS
    obtain ⟨t1, t2⟩ := List.pairwise_cons.mp hT
    have e : s = t := by
      rcases List.mem_cons.mp ((h s).1 List.mem_cons_self) with e | hs
      · exact e
      · rcases List.mem_cons.mp ((h t).2 List.mem_cons_self) with e | ht
        · exact e.symm
        · have l1 : Ltx t s := t1 s hs
          have l2 : Ltx s t := s1 t ht
          exact absurd (List.lt_trans l1 l2) (List.lt_irrefl _)
    subst e
    have q : SameSet S T := fun k => by
      constructor
      · intro hk
        rcases List.mem_cons.mp ((h k).1 (List.mem_cons_of_mem _ hk)) with e | z
        · exact absurd (e ▸ s1 k hk) (fun z => (Ltx.ne z) rfl)
        · exact z
      · intro hk
        rcases List.mem_cons.mp ((h k).2 (List.mem_cons_of_mem _ hk)) with e | z
        · exact absurd (e ▸ t1 k hk) (fun z => (Ltx.ne z) rfl)
        · exact z
    rw [Ctx.uniq s2 t2 q]

/-! ### measures -/
noncomputable def mu (U T : List Kd) : Nat := by
  classical exact (U.filter fun k => decide (k ∉ T)).length
theorem filter_le {α : Type} {p q : α → Bool} : ∀ {l : List α}, (∀ x ∈ l, p x = true → q x = true) → (l.filter p).length ≤ (l.filter q).length
  | [], _ => Nat.le_refl _
  | x :: l, h => by
    have ih := filter_le (l := l) fun y hy => h y (List.mem_cons_of_mem _ hy)
    have hx := h x List.mem_cons_self
    rw [List.filter_cons, List.filter_cons]
    cases ep : p x with
    | false =>
      cases eq : q x with
      | false => simpa using ih
      | true => simp; omega
    | true =>
      rw [hx ep]
      simpa using ih
theorem filter_lt {α : Type} {p q : α → Bool} : ∀ {l : List α}, (∀ x ∈ l, p x = true → q x = true) → (∃ x ∈ l, p x = false ∧ q x = true) → (l.filter p).length < (l.filter q).length
  | [], _, h => by obtain ⟨_, h, _⟩ := h; exact nomatch h
  | x :: l, h, hx => by
    have ih0 := filter_le (l := l) fun y hy => h y (List.mem_cons_of_mem _ hy)
    rw [List.filter_cons, List.filter_cons]
    obtain ⟨y, hy, y1, y2⟩ := hx
    rcases List.mem_cons.mp hy with e | hy
    · subst e
      rw [y1, y2]
      simp
      omega
    · have ih := filter_lt (l := l) (fun y hy => h y (List.mem_cons_of_mem _ hy)) ⟨y, hy, y1, y2⟩
      have hq := h x List.mem_cons_self
      cases ep : p x with
      | false =>
        cases eq : q x with
        | false => simpa using ih
        | true => simp; omega
      | true =>
        rw [hq ep]
        simpa using ih
theorem mu_bd (U T : List Kd) : mu U T ≤ U.length := by
  unfold mu
  exact List.length_filter_le ..
theorem mu_le {U S T : List Kd} (h : ∀ k ∈ S, k ∈ T) : mu U T ≤ mu U S := by
  unfold mu
  refine filter_le fun x _ hx => ?_
  rw [decide_eq_true_eq] at hx ⊢
  exact fun z => hx (h x z)
theorem mu_lt {U S T : List Kd} (h : ∀ k ∈ S, k ∈ T) {k : Kd} (hU : k ∈ U) (hT : k ∈ T) (hS : k ∉ S) : mu U T < mu U S := by
  unfold mu
  refine filter_lt (fun x _ hx => ?_) ⟨k, hU, ?_, ?_⟩
  · rw [decide_eq_true_eq] at hx ⊢
    exact fun z => hx (h x z)
  · rw [decide_eq_false_iff_not]
    exact fun z => z hT
  · rw [decide_eq_true_eq]
    exact hS
theorem mu_same {U S T : List Kd} (h : SameSet S T) : mu U S = mu U T := Nat.le_antisymm (mu_le fun k hk => (h k).2 hk) (mu_le fun k hk => (h k).1 hk)
/-- rooms of this set that are not yet asked -/
noncomputable def left (M : List Str) (T : List Kd) (asked : List (List Kd × Str)) : Nat := by
  classical exact (M.filter fun m => decide (¬ ∃ r ∈ asked, SameSet r.1 T ∧ r.2 = m)).length
theorem left_bd (M : List Str) (T : List Kd) (asked : List (List Kd × Str)) : left M T asked ≤ M.length := by
  unfold left
  exact List.length_filter_le ..
noncomputable def nu (U : List Kd) (M : List Str) (T : List Kd) (asked : List (List Kd × Str)) : Nat := mu U T * (M.length + 1) + left M T asked
theorem nu_bd {U : List Kd} {M : List Str} {T : List Kd} {asked : List (List Kd × Str)} : nu U M T asked ≤ U.length * (M.length + 1) + M.length := by
  have h1 := mu_bd U T
  have h2 := left_bd M T asked
  have h3 := Nat.mul_le_mul_right (M.length + 1) h1
  unfold nu
  omega
open Classical in
/-- a room that is not asked yet lies lower -/
theorem nu_lt {U : List Kd} {M : List Str} {S t : List Kd} {m : Str} {asked : List (List Kd × Str)} {T : List Kd} (hT : SameSet T (S ++ t)) (ht : ∀ k ∈ t, k ∈ U) (hm : m ∈ M) (hn : ¬ ∃ r ∈ asked, SameSet r.1 T ∧ r.2 = m) :
    nu U M T (asked ++ [(T, m)]) < nu U M S asked := by
  have hs : ∀ k ∈ S, k ∈ T := fun k hk => (hT k).2 (List.mem_append_left _ hk)
  by_cases c : ∀ k ∈ t, k ∈ S
  · have q : SameSet S T := fun k => ⟨hs k, fun hk => by
      rcases List.mem_append.mp ((hT k).1 hk) with z | z
      · exact z
      · exact c k z⟩
    have e := mu_same (U := U) q
    unfold nu
    rw [← e]
    refine Nat.add_lt_add_left ?_ _
    unfold left
    refine filter_lt (fun x _ hx => ?_) ⟨m, hm, ?_, ?_⟩
    · rw [decide_eq_true_eq] at hx ⊢
      rintro ⟨r, hr, r1, r2⟩
      exact hx ⟨r, List.mem_append_left _ hr, r1.trans q, r2⟩
    · rw [decide_eq_false_iff_not]
      exact fun z => z ⟨(T, m), List.mem_append_right _ List.mem_cons_self, SameSet.refl T, rfl⟩
    · rw [decide_eq_true_eq]
      rintro ⟨r, hr, r1, r2⟩
      exact hn ⟨r, hr, r1.trans q, r2⟩
  · obtain ⟨k, hk, hkS⟩ : ∃ k, k ∈ t ∧ k ∉ S := by
      rcases Classical.em (∃ k, k ∈ t ∧ k ∉ S) with z | z
      · exact z
      · exact absurd (fun k hk => Classical.byContradiction fun w => z ⟨k, hk, w⟩) c
    have l := mu_lt (U := U) hs (ht k hk) ((hT k).2 (List.mem_append_right _ hk)) hkS
    have b := left_bd M T (asked ++ [(T, m)])
    have l2 : mu U T * (M.length + 1) + (M.length + 1) ≤ mu U S * (M.length + 1) := by
      have := Nat.mul_le_mul_right (M.length + 1) (Nat.succ_le_of_lt l)
      rw [Nat.succ_mul] at this
      exact this
    unfold nu
    omega
end KF
/-! Kinds in the heap: as keys of sets (hash, ==, what is quiet), their order, and that lists of them can be sorted. -/
namespace KF
open PySem PyProof.Rows PySem.SeqAt

abbrev sOne : Str := "one"
abbrev sMark : Str := "mark"
abbrev sTo : Str := "to"
abbrev sBoth : Str := "both"
def enc : Kd → NestedKey
  | .one => .tup [.text sOne]
  | .mk m => .tup [.text sMark, .text m]
  | .to a b => .tup [.text sTo, enc a, enc b]
  | .both a b => .tup [.text sBoth, enc a, enc b]
theorem to_ne_both : sTo ≠ sBoth := by decide +kernel
theorem enc_inj : ∀ {k j : Kd}, enc k = enc j → k = j
  | .one, .one, _ => rfl
  | .one, .mk _, h => by simp [enc] at h
  | .one, .to _ _, h => by simp [enc] at h
  | .one, .both _ _, h => by simp [enc] at h
  | .mk _, .one, h => by simp [enc] at h
  | .mk m, .mk m', h => by
    simp only [enc, NestedKey.tup.injEq, List.cons.injEq, NestedKey.text.injEq, and_true, true_and] at h
    rw [h]
  | .mk _, .to _ _, h => by simp [enc] at h
  | .mk _, .both _ _, h => by simp [enc] at h
  | .to _ _, .one, h => by simp [enc] at h
  | .to _ _, .mk _, h => by simp [enc] at h
  | .to a b, .to a' b', h => by
    simp only [enc, NestedKey.tup.injEq, List.cons.injEq, and_true, true_and] at h
    rw [enc_inj h.1, enc_inj h.2]
  | .to a b, .both a' b', h => by
    simp only [enc, NestedKey.tup.injEq, List.cons.injEq, NestedKey.text.injEq] at h
    exact absurd h.1 to_ne_both
  | .both _ _, .one, h => by simp [enc] at h
  | .both _ _, .mk _, h => by simp [enc] at h
  | .both a b, .to a' b', h => by
    simp only [enc, NestedKey.tup.injEq, List.cons.injEq, NestedKey.text.injEq] at h
    exact absurd h.1.symm to_ne_both
  | .both a b, .both a' b', h => by
    simp only [enc, NestedKey.tup.injEq, List.cons.injEq, and_true, true_and] at h
    rw [enc_inj h.1, enc_inj h.2]
theorem enc_dec (x y : Kd) : decide (enc x = enc y) = decide (x = y) := by
  by_cases e : x = y
  · subst e; simp
  · rw [decide_eq_false e, decide_eq_false fun q => e (enc_inj q)]
theorem enc_depth : ∀ k : Kd, (enc k).depth ≤ leaves k
  | .one => by simp [enc, NestedKey.depth, NestedKey.depthAll, leaves]
  | .mk m => by simp [enc, NestedKey.depth, NestedKey.depthAll, leaves]
  | .to a b => by
    have h1 := enc_depth a
    have h2 := enc_depth b
    have h3 := leaves_pos a
    have h4 := leaves_pos b
    simp only [enc, NestedKey.depth, NestedKey.depthAll, leaves]
    omega
  | .both a b => by
    have h1 := enc_depth a
    have h2 := enc_depth b
    have h3 := leaves_pos a
    have h4 := leaves_pos b
    simp only [enc, NestedKey.depth, NestedKey.depthAll, leaves]
    omega
/-- the value is this kind -/
abbrev KIs (h : Heap) (k : Kd) (v : Value) : Prop := NestedIs h (enc k) v
/-- the tuple at a is this kind, of eight leaves at most -/
def IsN (h : Heap) (k : Kd) (a : Addr) : Prop := KIs h k (.ref a) ∧ leaves k ≤ 8
/-- its items -/
def Its (h : Heap) : Kd → List Value → Prop
  | .one, vs => ∃ t, vs = [.str sOne t]
  | .mk m, vs => ∃ t u, vs = [.str sMark t, .str m u]
  | .to a b, vs => ∃ t p q, vs = [.str sTo t, p, q] ∧ KIs h a p ∧ KIs h b q
  | .both a b, vs => ∃ t p q, vs = [.str sBoth t, p, q] ∧ KIs h a p ∧ KIs h b q
theorem KIs.items {h : Heap} {k : Kd} {v : Value} (x : KIs h k v) : ∃ a o vs n, v = .ref a ∧ h.get? a = some o ∧ o.cls = .type "tuple" ∧ o.data = .seq vs n ∧ Its h k vs.toList := by
  cases k with
  | one =>
    cases x with
    | @tup a o vs n _ h1 h2 h3 h4 =>
      refine ⟨a, o, vs, n, rfl, h1, h2, h3, ?_⟩
      cases e : vs.toList with
      | nil => rw [e] at h4; cases h4
      | cons v r =>
        rw [e] at h4
        cases h4 with
        | cons g1 g2 => cases g1 with | text _ t => cases g2; exact ⟨t, rfl⟩
  | mk m =>
    cases x with
    | @tup a o vs n _ h1 h2 h3 h4 =>
      refine ⟨a, o, vs, n, rfl, h1, h2, h3, ?_⟩
      generalize vs.toList = l at h4
      cases h4 with
      | cons g1 g2 => cases g1 with
        | text _ t => cases g2 with
          | cons g3 g4 => cases g3 with | text _ u => cases g4; exact ⟨t, u, rfl⟩
  | to a b =>
    cases x with
    | @tup a o vs n _ h1 h2 h3 h4 =>
      refine ⟨a, o, vs, n, rfl, h1, h2, h3, ?_⟩
      generalize vs.toList = l at h4
      cases h4 with
      | cons g1 g2 => cases g1 with
        | text _ t => cases g2 with
          | cons g3 g4 => cases g4 with | cons g5 g6 => cases g6; exact ⟨t, _, _, rfl, g3, g5⟩
  | both a b =>
    cases x with
    | @tup a o vs n _ h1 h2 h3 h4 =>
      refine ⟨a, o, vs, n, rfl, h1, h2, h3, ?_⟩
      generalize vs.toList = l at h4
      cases h4 with
      | cons g1 g2 => cases g1 with
        | text _ t => cases g2 with
          | cons g3 g4 => cases g4 with | cons g5 g6 => cases g6; exact ⟨t, _, _, rfl, g3, g5⟩
theorem KIs.inj {h : Heap} {k j : Kd} {v : Value} (x : KIs h k v) (y : KIs h j v) : k = j := enc_inj (NestedIs.inj _ _ _ x y)
theorem KIs.at {h h' : Heap} {k : Kd} {v : Value} (hk : ∀ a o vs n, h.get? a = some o → o.data = .seq vs n → h'.get? a = some o) (x : KIs h k v) : KIs h' k v := NestedIs.at hk _ _ x
theorem IsN.at {h h' : Heap} {k : Kd} {a : Addr} (hk : ∀ a o vs n, h.get? a = some o → o.data = .seq vs n → h'.get? a = some o) (x : IsN h k a) : IsN h' k a := ⟨x.1.at hk, x.2⟩
theorem IsN.inj {h : Heap} {k j : Kd} {a : Addr} (x : IsN h k a) (y : IsN h j a) : k = j := x.1.inj y.1
theorem IsN.typeIs {s : Shared} {k : Kd} {a : Addr} (x : IsN s.heap k a) : s.TypeIs (.ref a) "tuple" := by
  obtain ⟨b, o, vs, n, e, h1, h2, _⟩ := x.1.items
  cases e
  exact ⟨o, h1, h2⟩
abbrev nhash (w : World) (k : Kd) : Int := (enc k).hash w
section
variable {P : Program} {w : World} {A : Around} {E : Value → Shared → Prop} {s : Shared}
theorem eqBool_N {k j : Kd} {a b : Addr} {Q : Bool → Shared → Prop} (hu : A.units + 8 < cLine) (hx : IsN s.heap k a) (hy : IsN s.heap j b) (h : Q (decide (k = j)) s) : wpAny (model P w) A (eqBool (.ref a) (.ref b)) Q E s := by
  have d := enc_depth k
  have l := hx.2
  exact eqAt_key _ _ A s _ _ hx.1 hy.1 (by omega) _ _ _ _ (by rw [← NestedKey.decide_eq, enc_dec]; exact h)
theorem quiet_N {k : Kd} {a : Addr} {Q : Bool → Shared → Prop} (hk : IsN s.heap k a) (h : Q true s) : wpAny (model P w) A (eqIsQuiet 8 (.ref a)) Q E s := by
  have d := enc_depth k
  have l := hk.2
  exact quiet_key _ _ 8 s hk.1 (by omega) A E Q h
theorem pyHash_N {k : Kd} {a : Addr} {Q : Int → Shared → Prop} (hu : A.units + 8 < cLine) (hk : IsN s.heap k a) (h : Q (nhash w k) { s with toks := s.toks + (enc k).draws }) : wpAny (model P w) A (pyHash (.ref a)) Q E s := by
  have d := enc_depth k
  have l := hk.2
  exact pyHash_key _ _ _ _ _ hk.1 (by omega) h
theorem ofAClass_str (n : Nat) (x : Str) (t : Tok) : ofAClassStatement n (.str x t) = pure false := by
  cases n <;> rfl
theorem hashBy_str (n : Nat) (x : Str) (t : Tok) : hashByValue n (.str x t) = pure false := by
  cases n <;> rfl
theorem ofAClass_K : ∀ (n : Nat) (k : Kd) (v : Value) (s : Shared) (Q : Bool → Shared → Prop), leaves k ≤ n → KIs s.heap k v → Q false s → wpAny (model P w) A (ofAClassStatement n v) Q E s
  | 0, k, _, _, _, hn, _, _ => absurd (leaves_pos k) (by omega)
  | n + 1, k, v, s, Q, hn, hk, h => by
    obtain ⟨a, o, vs, m, rfl, h1, h2, h3, h4⟩ := hk.items
    have hT : s.TypeIs (.ref a) "tuple" := ⟨o, h1, h2⟩
    unfold ofAClassStatement
    refine wpAny_bind (wpAny_typeOf hT ?_)
    dsimp only
    have e : (("tuple" : String) == "tuple") = true := by decide
    simp only [e, if_true, Bool.not_true, Bool.false_eq_true, if_false]
    try refine wpAny_bind (wpAny_pure ?_)
    try simp only [Bool.not_true, Bool.false_eq_true, if_false]
    show wpAny _ _ (seqItems? (.ref a) >>= _) _ _ s
    refine wpAny_bind (wpAny_seqItems h1 h3 ?_)
    dsimp only
    refine wpAny_bind ?_
    show wpAny _ _ (forIn vs _ _) _ _ s
    rw [← Array.forIn_toList]
    have each : ∀ v ∈ vs.toList, ∀ Q : Bool → Shared → Prop, Q false s → wpAny (model P w) A (ofAClassStatement n v) Q E s := fun v hv Q hq => by
      cases k with
      | one => obtain ⟨t, e⟩ := h4; rw [e] at hv; rw [List.mem_singleton.mp hv, ofAClass_str]; exact wpAny_pure hq
      | mk m' =>
        obtain ⟨t, u, e⟩ := h4
        rw [e] at hv
        rcases List.mem_cons.mp hv with e | hv
        · rw [e, ofAClass_str]; exact wpAny_pure hq
        · rw [List.mem_singleton.mp hv, ofAClass_str]; exact wpAny_pure hq
      | to x y =>
        obtain ⟨t, p, q, e, hp, hq'⟩ := h4
        have := leaves_pos x
        have := leaves_pos y
        simp only [leaves] at hn
        rw [e] at hv
        rcases List.mem_cons.mp hv with e | hv
        · rw [e, ofAClass_str]; exact wpAny_pure hq
        rcases List.mem_cons.mp hv with e | hv
        · rw [e]; exact ofAClass_K n x p s Q (by omega) hp hq
        · rw [List.mem_singleton.mp hv]; exact ofAClass_K n y q s Q (by omega) hq' hq
      | both x y =>
        obtain ⟨t, p, q, e, hp, hq'⟩ := h4
        have := leaves_pos x
        have := leaves_pos y
        simp only [leaves] at hn
        rw [e] at hv
        rcases List.mem_cons.mp hv with e | hv
        · rw [e, ofAClass_str]; exact wpAny_pure hq
        rcases List.mem_cons.mp hv with e | hv
        · rw [e]; exact ofAClass_K n x p s Q (by omega) hp hq
        · rw [List.mem_singleton.mp hv]; exact ofAClass_K n y q s Q (by omega) hq' hq
    refine wpAny_forIn_list _ (fun rest r s' => r.1 = none ∧ s' = s ∧ ∀ v ∈ rest, v ∈ vs.toList) _ ?_ ?_ _ _ ⟨rfl, rfl, fun v hv => hv⟩
    · rintro v rest r s' ⟨hr, rfl, hall⟩
      refine wpAny_bind (each v (hall v List.mem_cons_self) _ ?_)
      simp only [Bool.false_eq_true, if_false]
      exact wpAny_pure ⟨rfl, rfl, fun u hu' => hall u (List.mem_cons_of_mem _ hu')⟩
    · rintro ⟨r1, r2⟩ s' ⟨hr, rfl, _⟩
      simp only at hr
      subst hr
      exact wpAny_pure h
theorem its_head {h : Heap} {k : Kd} {vs : List Value} (x : Its h k vs) : ∃ z t r, vs = .str z t :: r := by
  cases k with
  | one => obtain ⟨t, e⟩ := x; exact ⟨_, _, _, e⟩
  | mk m => obtain ⟨t, u, e⟩ := x; exact ⟨_, _, _, e⟩
  | to a b => obtain ⟨t, p, q, e, _⟩ := x; exact ⟨_, _, _, e⟩
  | both a b => obtain ⟨t, p, q, e, _⟩ := x; exact ⟨_, _, _, e⟩
/-- a kind's hash is drawn: it holds a text -/
theorem hashBy_N {k : Kd} {a : Addr} {Q : Bool → Shared → Prop} (hk : IsN s.heap k a) (h : Q false s) : wpAny (model P w) A (hashByValue 8 (.ref a)) Q E s := by
  obtain ⟨b, o, vs, m, e, h1, h2, h3, h4⟩ := hk.1.items
  cases e
  have hT : s.TypeIs (.ref a) "tuple" := ⟨o, h1, h2⟩
  unfold hashByValue
  refine wpAny_bind (wpAny_specialOf hT F.slot_tuple_hash.lookup ?_)
  show wpAny _ _ (seqItems? (.ref a) >>= _) _ _ s
  refine wpAny_bind (wpAny_seqItems h1 h3 ?_)
  refine wpAny_bind ?_
  show wpAny _ _ (forIn vs _ _) _ _ s
  rw [← Array.forIn_toList]
  obtain ⟨z, t, r, e⟩ := its_head h4
  rw [e, List.forIn_cons, hashBy_str]
  refine wpAny_bind (wpAny_bind (wpAny_pure ?_))
  simp only [Bool.not_false, if_true]
  exact wpAny_pure (wpAny_pure (wpAny_pure h))
/-- a search among kinds shows nothing -/
theorem seen_N {k : Kd} {b : Addr} {Q : Bool → Shared → Prop} (hk : IsN s.heap k b) {ys : List Value} (hy : ∀ y ∈ ys, ∃ k' c, y = Value.ref c ∧ IsN s.heap k' c) (h : Q false s) :
    wpAny (model P w) A (searchCouldBeSeen (.ref b) ys) Q E s := by
  unfold searchCouldBeSeen
  refine wpAny_bind ?_
  refine wpAny_forIn_list _ (fun rest r s' => r.1 = none ∧ s' = s ∧ ∀ y ∈ rest, ∃ k' c, y = Value.ref c ∧ IsN s.heap k' c) _ ?_ ?_ _ _ ⟨rfl, rfl, hy⟩
  · rintro v rest r s' ⟨hr, rfl, hall⟩
    obtain ⟨k', c, rfl, hc⟩ := hall v List.mem_cons_self
    have rest' : ∀ y ∈ rest, ∃ k' c, y = Value.ref c ∧ IsN s'.heap k' c := fun u hu' => hall u (List.mem_cons_of_mem _ hu')
    dsimp only
    by_cases hv : (b == c || (carriedByValue (.ref b) && carriedByValue (.ref c))) = true
    · refine L2.wp_if_pos hv ?_
      exact wpAny_pure ⟨rfl, rfl, rest'⟩
    · refine L2.wp_if_neg hv ?_
      refine wpAny_bind (quiet_N hk ?_)
      simp only [Bool.not_true, Bool.false_eq_true, if_false]
      refine wpAny_bind (quiet_N hc ?_)
      simp only [Bool.not_true, Bool.false_eq_true, if_false]
      refine wpAny_bind (ofAClass_K 8 k _ _ _ hk.2 hk.1 ?_)
      simp only [Bool.false_eq_true, if_false]
      refine wpAny_bind (ofAClass_K 8 k' _ _ _ hc.2 hc.1 ?_)
      simp only [Bool.false_eq_true, if_false]
      exact wpAny_pure ⟨rfl, rfl, rest'⟩
  · rintro ⟨r1, r2⟩ s' ⟨hr, rfl, _⟩
    simp only at hr
    subst hr
    exact wpAny_pure h
end
end KF
/-! The order of kinds as tuples, and that lists of them can be sorted. -/
namespace KF
open PySem PyProof.Rows PySem.SeqAt PySem.W

/-- the first word's place in the order -/
def con : Kd → Nat
  | .both _ _ => 0
  | .mk _ => 1
  | .one => 2
  | .to _ _ => 3
def klt : Kd → Kd → Bool
  | .one, .one => false
  | .mk m, .mk m' => decide (m.cps.toList < m'.cps.toList)
  | .to a b, .to a' b' => if a = a' then klt b b' else klt a a'
  | .both a b, .both a' b' => if a = a' then klt b b' else klt a a'
  | k, j => decide (con k < con j)
theorem klt_irrefl : ∀ k : Kd, klt k k = false
  | .one => rfl
  | .mk m => by simp [klt, List.lt_irrefl]
  | .to a b => by rw [klt, if_pos rfl]; exact klt_irrefl b
  | .both a b => by rw [klt, if_pos rfl]; exact klt_irrefl b
theorem str_of {x y : Str} (h : x.cps.toList = y.cps.toList) : x = y := by
  have e : x.cps = y.cps := Array.toList_inj.mp h
  cases x; cases y
  exact congrArg Str.mk e
theorem klt_total : ∀ k j : Kd, klt k j = false → klt j k = false → k = j := by
  intro k
  induction k with
  | one => intro j h1 h2; cases j <;> first | rfl | simp [klt, con] at h1 h2
  | mk m =>
    intro j h1 h2
    cases j with
    | mk m' =>
      simp only [klt, decide_eq_false_iff_not] at h1 h2
      rw [str_of (List.le_antisymm (List.not_lt.mp h2) (List.not_lt.mp h1))]
    | _ => simp [klt, con] at h1 h2
  | to a b iha ihb =>
    intro j h1 h2
    cases j with
    | to a' b' =>
      rw [klt] at h1 h2
      by_cases e : a = a'
      · rw [if_pos e] at h1
        rw [if_pos e.symm] at h2
        rw [e, ihb _ h1 h2]
      · rw [if_neg e] at h1
        rw [if_neg fun z => e z.symm] at h2
        exact absurd (iha _ h1 h2) e
    | _ => simp [klt, con] at h1 h2
  | both a b iha ihb =>
    intro j h1 h2
    cases j with
    | both a' b' =>
      rw [klt] at h1 h2
      by_cases e : a = a'
      · rw [if_pos e] at h1
        rw [if_pos e.symm] at h2
        rw [e, ihb _ h1 h2]
      · rw [if_neg e] at h1
        rw [if_neg fun z => e z.symm] at h2
        exact absurd (iha _ h1 h2) e
    | _ => simp [klt, con] at h1 h2
theorem klt_trans : ∀ i j k : Kd, klt i j = true → klt j k = true → klt i k = true := by
  intro i
  induction i with
  | one => intro j k h1 h2; cases j <;> cases k <;> first | rfl | (simp [klt, con] at h1 h2; done) | simp [klt, con]
  | mk m =>
    intro j k h1 h2
    cases j <;> cases k <;> first | (simp [klt, con] at h1 h2; done) | (simp [klt, con]; done) | skip
    simp only [klt, decide_eq_true_eq] at h1 h2 ⊢
    exact List.lt_trans h1 h2
  | to a b iha ihb =>
    intro j k h1 h2
    cases j <;> cases k <;> first | (simp [klt, con] at h1 h2; done) | (simp [klt, con]; done) | skip
    rename_i a' b' a'' b''
    rw [klt] at h1 h2 ⊢
    by_cases e1 : a = a'
    · subst e1
      rw [if_pos rfl] at h1
      by_cases e2 : a = a''
      · rw [if_pos e2] at h2 ⊢
        exact ihb _ _ h1 h2
      · rw [if_neg e2] at h2 ⊢
        exact h2
    · rw [if_neg e1] at h1
      by_cases e2 : a' = a''
      · subst e2
        rw [if_neg e1]
        exact h1
      · rw [if_neg e2] at h2
        have h3 := iha _ _ h1 h2
        by_cases e3 : a = a''
        · subst e3
          rw [klt_irrefl] at h3
          cases h3
        · rw [if_neg e3]
          exact h3
  | both a b iha ihb =>
    intro j k h1 h2
    cases j <;> cases k <;> first | (simp [klt, con] at h1 h2; done) | (simp [klt, con]; done) | skip
    rename_i a' b' a'' b''
    rw [klt] at h1 h2 ⊢
    by_cases e1 : a = a'
    · subst e1
      rw [if_pos rfl] at h1
      by_cases e2 : a = a''
      · rw [if_pos e2] at h2 ⊢
        exact ihb _ _ h1 h2
      · rw [if_neg e2] at h2 ⊢
        exact h2
    · rw [if_neg e1] at h1
      by_cases e2 : a' = a''
      · subst e2
        rw [if_neg e1]
        exact h1
      · rw [if_neg e2] at h2
        have h3 := iha _ _ h1 h2
        by_cases e3 : a = a''
        · subst e3
          rw [klt_irrefl] at h3
          cases h3
        · rw [if_neg e3]
          exact h3
def kdOrd : PyProof.Rows.KeyOrd where
  α := Kd
  blt := klt
  irrefl := klt_irrefl
  trans := klt_trans
  negTrans := fun a b c h => by
    cases h1 : klt a b with
    | true => exact .inl rfl
    | false =>
      right
      cases h2 : klt b a with
      | true => exact klt_trans _ _ _ h2 h
      | false => rw [← klt_total _ _ h1 h2]; exact h
  total := klt_total

/-! ### < in the heap -/
theorem con_lt (k j : Kd) : con k ≠ con j → klt k j = decide (con k < con j) := by
  intro h
  cases k <;> cases j <;> first | rfl | exact absurd rfl h
/-- the first words' order is con's -/
def wd : Nat → Str
  | 0 => sBoth
  | 1 => sMark
  | 2 => sOne
  | _ => sTo
def word (k : Kd) : Str := wd (con k)
theorem con_le (k : Kd) : con k ≤ 3 := by cases k <;> simp [con]
theorem wd_all : ((List.range 4).all fun i => (List.range 4).all fun j => (decide ((wd i).cps.toList < (wd j).cps.toList) == decide (i < j)) && (decide (wd i = wd j) == decide (i = j))) = true := by decide +kernel
theorem wd_at {i j : Nat} (hi : i ≤ 3) (hj : j ≤ 3) : decide ((wd i).cps.toList < (wd j).cps.toList) = decide (i < j) ∧ decide (wd i = wd j) = decide (i = j) := by
  have h := List.all_eq_true.mp (List.all_eq_true.mp wd_all i (List.mem_range.mpr (by omega))) j (List.mem_range.mpr (by omega))
  rw [Bool.and_eq_true] at h
  exact ⟨beq_iff_eq.mp h.1, beq_iff_eq.mp h.2⟩
theorem word_lt (k j : Kd) : decide ((word k).cps.toList < (word j).cps.toList) = decide (con k < con j) := (wd_at (con_le k) (con_le j)).1
theorem word_eq (k j : Kd) : decide (word k = word j) = decide (con k = con j) := (wd_at (con_le k) (con_le j)).2
theorem rcCast {A : Around} {s : Shared} {u v : Value} {b b' : Bool} (e : b = b') (h : RcLt A s u v b) : RcLt A s u v b' := e ▸ h
theorem its_word {h : Heap} {k : Kd} {vs : List Value} (x : Its h k vs) : ∃ t r, vs = .str (word k) t :: r := by
  cases k with
  | one => obtain ⟨t, e⟩ := x; exact ⟨_, _, e⟩
  | mk m => obtain ⟨t, u, e⟩ := x; exact ⟨_, _, e⟩
  | to a b => obtain ⟨t, p, q, e, _⟩ := x; exact ⟨_, _, e⟩
  | both a b => obtain ⟨t, p, q, e, _⟩ := x; exact ⟨_, _, e⟩
/-- where the value stands, its items a list -/
structure At (h : Heap) (v : Value) (l : List Value) : Prop where
  ex : ∃ a o n, v = .ref a ∧ h.get? a = some o ∧ o.cls = .type "tuple" ∧ o.data = .seq l.toArray n
theorem KIs.tup {h : Heap} {k : Kd} {v : Value} (x : KIs h k v) : ∃ l, At h v l ∧ Its h k l := by
  obtain ⟨a, o, xs, n, rfl, h1, h2, h3, h4⟩ := x.items
  exact ⟨xs.toList, ⟨a, o, n, rfl, h1, h2, by rw [Array.toArray_toList]; exact h3⟩, h4⟩
/-! ### < of tuples: what stands behind the first place that differs is not asked -/
section
open AutoSeq1 (wpAny_loadPart')
open MeetsSeq MeetsSeq2 MeetsSeq3 SeqRoads2
theorem tuple_ltGo (l b : Addr) (items items2 : Array Value) (n n2 : Nat) (dd dd2 : Option Addr) (sl sl2 : Array (Option Value)) (e r : Nat → Bool) :
    Meets (Builtin.«tuple.__lt__» ⟨[.ref l, .ref b], []⟩)
      (fun A R s => (s.heap.get? l = some { cls := .type "tuple", dict := dd, data := .seq items n, slots := sl }) ∧ (s.heap.get? b = some { cls := .type "tuple", dict := dd2, data := .seq items2 n2, slots := sl2 }) ∧
        (∀ j (h1 : j < items.size) (h2 : j < items2.size), (∀ i, i < j → e i = true) → EqAt A.in1 s items[j] items2[j] (e j)) ∧ (∀ j (h1 : j < items.size) (h2 : j < items2.size), (∀ i, i < j → e i = true) → e j = false → RcLt A.in1 s items[j] items2[j] (r j)) ∧
        R (.ok (.ret (.bool (firstLt e r (decide (items.size < items2.size)) (List.range (min items.size items2.size)))))) s) :=
  .of_wp fun prog w A R s h => by
    obtain ⟨hp, g, d, tk, os⟩ := s; obtain ⟨hl, hb, he, hr, h⟩ := h
    have f2 := AutoSeq1.sub_tuple_tuple
    have hZ : (items.toList.zip items2.toList).length = min items.size items2.size := by simp
    wp_walk using wpAny_loadPart' hl, wpAny_loadPart' hb, wpAny_forIn_list _ (fun rest b s' => b.1 = none ∧ s' = ⟨hp, g, d, tk, os⟩ ∧ ∃ i, (∀ i', i' < i → e i' = true) ∧ rest = (items.toList.zip items2.toList).drop i ∧
      R (.ok (.ret (.bool (firstLt e r (decide (items.size < items2.size)) ((List.range (min items.size items2.size)).drop i))))) ⟨hp, g, d, tk, os⟩) _
    case turn =>
      rintro ⟨y, x⟩ rest b s' ⟨hb', rfl, i, hi, hz, hR⟩
      have hlt : i < (items.toList.zip items2.toList).length := by
        rcases Nat.lt_or_ge i (items.toList.zip items2.toList).length with h' | h'
        · exact h'
        · rw [List.drop_of_length_le h'] at hz; cases hz
      have hm : i < min items.size items2.size := hZ ▸ hlt
      have h1 : i < items.size := Nat.lt_of_lt_of_le hm (Nat.min_le_left _ _)
      have h2 : i < items2.size := Nat.lt_of_lt_of_le hm (Nat.min_le_right _ _)
      rw [List.drop_eq_getElem_cons hlt] at hz
      injection hz with hyx hrest
      have hy : y = items[i] := by have := congrArg Prod.fst hyx; simpa using this
      have hx : x = items2[i] := by have := congrArg Prod.snd hyx; simpa using this
      subst hy hx
      have hd : (List.range (min items.size items2.size)).drop i = i :: (List.range (min items.size items2.size)).drop (i + 1) := by simp [List.drop_eq_getElem_cons, hm]
      rw [hd] at hR
      refine wpAny_bind (he i h1 h2 hi prog w _ _ ?_)
      cases hy : e i with
      | true =>
        rw [firstLt_yes hy] at hR
        wp_walk
        refine ⟨rfl, rfl, i + 1, fun i' hi' => ?_, hrest, hR⟩
        rcases Nat.lt_or_ge i' i with z | z
        · exact hi i' z
        · have ei : i' = i := by omega
          rw [ei]; exact hy
      | false =>
        rw [firstLt_no hy] at hR
        generalize hRC : PySem.richCompare = RC
        wp_walk
        subst hRC
        refine hr i h1 h2 hi hy prog w _ _ ?_
        wp_walk
        exact ⟨_, rfl, hR⟩
    case fin =>
      rintro ⟨b1, b2⟩ s' ⟨hb', rfl, i, hi, hz, hR⟩
      simp only at hb'
      subst hb'
      have hge : min items.size items2.size ≤ i := by
        rcases Nat.lt_or_ge i (items.toList.zip items2.toList).length with h' | h'
        · rw [List.drop_eq_getElem_cons h'] at hz; cases hz
        · exact hZ ▸ h'
      rw [List.drop_of_length_le (by simpa using hge)] at hR
      wp_walk
      exact ⟨_, rfl, by simpa [Builtin.Tuple.tupleCompareSizes, firstLt] using hR⟩
    case h =>
      exact ⟨rfl, rfl, 0, fun i hi => absurd hi (Nat.not_lt_zero _), rfl, by simpa using h⟩
theorem RcLt.go {A : Around} {s : Shared} {l b : Addr} {items items2 : Array Value} {e r : Nat → Bool} (hl : s.heap.IsTuple l items) (hb : s.heap.IsTuple b items2) (hu : A.units < cLine)
    (he : ∀ j (h1 : j < items.size) (h2 : j < items2.size), (∀ i, i < j → e i = true) → EqAt A.in1 s items[j] items2[j] (e j)) (hr : ∀ j (h1 : j < items.size) (h2 : j < items2.size), (∀ i, i < j → e i = true) → e j = false → RcLt A.in1 s items[j] items2[j] (r j)) :
    RcLt A s (.ref l) (.ref b) (firstLt e r (decide (items.size < items2.size)) (List.range (min items.size items2.size))) := fun prog w E Q h => by
  obtain ⟨⟨cls, dd, data, sl⟩, ho, hc, n, hd⟩ := id hl
  obtain ⟨⟨cls2, dd2, data2, sl2⟩, ho2, hc2, n2, hd2⟩ := id hb
  simp only at hc hd hc2 hd2
  subst hc hd hc2 hd2
  exact richCompare_meets_room (op := .Lt) ⟨_, ho, rfl⟩ ⟨_, ho2, rfl⟩ F.slot_tuple_lt F.entry_tuple_lt (F.args_tuple_lt_2 _ _) (tuple_ltGo l b items items2 n n2 dd dd2 sl sl2 e r)
    ⟨ho, ho2, he, hr, ⟨(fun x => nomatch x), h⟩⟩ hu
end
section
variable {P : Program} {w : World} {E : Value → Shared → Prop} {s : Shared}
theorem EqAt.kinds {A : Around} {k j : Kd} {u v : Value} (hx : KIs s.heap k u) (hy : KIs s.heap j v) (hu : A.units + min (leaves k) (leaves j) < cLine) : EqAt A s u v (decide (k = j)) := by
  have d1 := enc_depth k
  have d2 := enc_depth j
  have h := eqAt_key _ _ A s _ _ hx hy (by omega)
  rw [← NestedKey.decide_eq, enc_dec] at h
  exact h
theorem lt_str_at {A : Around} {x y : Str} {t u : Tok} : RcLt A s (.str x t) (.str y u) (decide (x.cps.toList < y.cps.toList)) := fun _ _ _ _ h => PySem.P.lt_str h
theorem At.lt {A : Around} {u v : Value} {l l' : List Value} {e r : Nat → Bool} (x : At s.heap u l) (y : At s.heap v l') (hu : A.units < cLine) (he : ∀ (j : Nat) (h1 : j < l.length) (h2 : j < l'.length), EqAt A.in1 s l[j] l'[j] (e j))
    (hr : ∀ (j : Nat) (h1 : j < l.length) (h2 : j < l'.length), e j = false → RcLt A.in1 s l[j] l'[j] (r j)) : RcLt A s u v (firstLt e r (decide (l.length < l'.length)) (List.range (min l.length l'.length))) := by
  obtain ⟨a, o, n, rfl, h1, h2, h3⟩ := x.ex
  obtain ⟨b, o', m, rfl, k1, k2, k3⟩ := y.ex
  exact RcLt.tuples ⟨_, h1, h2, _, h3⟩ ⟨_, k1, k2, _, k3⟩ hu (fun j j1 j2 => he j j1 j2) fun j j1 j2 hj => hr j j1 j2 hj
/-- three items against three -/
theorem At.lt3 {A : Around} {u v : Value} {x0 x1 x2 y0 y1 y2 : Value} {b0 b1 b2 r0 r1 r2 : Bool} (x : At s.heap u [x0, x1, x2]) (y : At s.heap v [y0, y1, y2]) (hu : A.units < cLine)
    (e0 : EqAt A.in1 s x0 y0 b0) (e1 : EqAt A.in1 s x1 y1 b1) (e2 : EqAt A.in1 s x2 y2 b2) (l0 : b0 = false → RcLt A.in1 s x0 y0 r0) (l1 : b1 = false → RcLt A.in1 s x1 y1 r1) (l2 : b2 = false → RcLt A.in1 s x2 y2 r2) :
    RcLt A s u v (if b0 = true then if b1 = true then if b2 = true then false else r2 else r1 else r0) :=
  rcCast rfl (x.lt y (e := fun j => match j with | 0 => b0 | 1 => b1 | _ => b2) (r := fun j => match j with | 0 => r0 | 1 => r1 | _ => r2) hu
    (fun j h1 _ => match j, h1 with | 0, _ => e0 | 1, _ => e1 | 2, _ => e2) (fun j h1 _ => match j, h1 with | 0, _ => l0 | 1, _ => l1 | 2, _ => l2))
theorem At.lt2 {A : Around} {u v : Value} {x0 x1 y0 y1 : Value} {b0 b1 r0 r1 : Bool} (x : At s.heap u [x0, x1]) (y : At s.heap v [y0, y1]) (hu : A.units < cLine)
    (e0 : EqAt A.in1 s x0 y0 b0) (e1 : EqAt A.in1 s x1 y1 b1) (l0 : b0 = false → RcLt A.in1 s x0 y0 r0) (l1 : b1 = false → RcLt A.in1 s x1 y1 r1) :
    RcLt A s u v (if b0 = true then if b1 = true then false else r1 else r0) :=
  rcCast rfl (x.lt y (e := fun j => match j with | 0 => b0 | _ => b1) (r := fun j => match j with | 0 => r0 | _ => r1) hu
    (fun j h1 _ => match j, h1 with | 0, _ => e0 | 1, _ => e1) (fun j h1 _ => match j, h1 with | 0, _ => l0 | 1, _ => l1))
theorem At.lt1 {A : Around} {u v : Value} {x0 y0 : Value} {b0 r0 : Bool} (x : At s.heap u [x0]) (y : At s.heap v [y0]) (hu : A.units < cLine) (e0 : EqAt A.in1 s x0 y0 b0) (l0 : b0 = false → RcLt A.in1 s x0 y0 r0) : RcLt A s u v (if b0 = true then false else r0) :=
  rcCast rfl (x.lt y (e := fun _ => b0) (r := fun _ => r0) hu (fun j h1 _ => match j, h1 with | 0, _ => e0) (fun j h1 _ => match j, h1 with | 0, _ => l0))
theorem str_eq_at {A : Around} {x y : Str} {t u : Tok} : EqAt A s (.str x t) (.str y u) (decide (x = y)) := EqAt.str_str x t y u
theorem in1_units (A : Around) : A.in1.units = A.units + 1 := rfl
theorem lt_diff {A : Around} {k j : Kd} {u v : Value} (hc : con k ≠ con j) (hk : KIs s.heap k u) (hj : KIs s.heap j v) (hu : A.units < cLine) : RcLt A s u v (klt k j) := by
  obtain ⟨l, x, ix⟩ := hk.tup
  obtain ⟨l', y, iy⟩ := hj.tup
  obtain ⟨t, r, e1⟩ := its_word ix
  obtain ⟨t', r', e2⟩ := its_word iy
  subst e1 e2
  have ew : decide (word k = word j) = false := by rw [word_eq]; exact decide_eq_false hc
  obtain ⟨a, o, n, rfl, h1, h2, h3⟩ := x.ex
  obtain ⟨b, o', m, rfl, k1, k2, k3⟩ := y.ex
  have ez : firstLt (fun _ => false) (fun _ => klt k j) (decide ((Value.str (word k) t :: r).toArray.size < (Value.str (word j) t' :: r').toArray.size)) (List.range (min (Value.str (word k) t :: r).toArray.size (Value.str (word j) t' :: r').toArray.size)) = klt k j := by
    have em : min (Value.str (word k) t :: r).toArray.size (Value.str (word j) t' :: r').toArray.size = min r.length r'.length + 1 := by
      rw [List.size_toArray, List.size_toArray, List.length_cons, List.length_cons]; omega
    rw [em, List.range_succ_eq_map, firstLt_no rfl]
  refine rcCast ez (RcLt.go ⟨_, h1, h2, _, h3⟩ ⟨_, k1, k2, _, k3⟩ hu (fun i i1 i2 hi => ?_) fun i i1 i2 hi _ => ?_)
  · cases i with
    | zero =>
      have q : EqAt A.in1 s (.str (word k) t) (.str (word j) t') (decide (word k = word j)) := str_eq_at
      rw [ew] at q
      exact q
    | succ i => exact absurd (hi 0 (Nat.succ_pos _)) (by simp)
  · cases i with
    | zero =>
      have q : RcLt A.in1 s (.str (word k) t) (.str (word j) t') (decide ((word k).cps.toList < (word j).cps.toList)) := lt_str_at
      rw [word_lt, ← con_lt k j hc] at q
      exact q
    | succ i => exact absurd (hi 0 (Nat.succ_pos _)) (by simp)
theorem lt_kinds : ∀ (k j : Kd) (A : Around) (u v : Value), KIs s.heap k u → KIs s.heap j v → A.units + leaves k < cLine → RcLt A s u v (klt k j) := by
  intro k
  induction k with
  | one =>
    intro j A u v hk hj hu
    cases j with
    | one =>
      obtain ⟨l, x, ix⟩ := hk.tup
      obtain ⟨l', y, iy⟩ := hj.tup
      obtain ⟨t, rfl⟩ := ix
      obtain ⟨t', rfl⟩ := iy
      exact rcCast (by simp [klt]) (x.lt1 y (by omega) str_eq_at fun _ => lt_str_at)
    | _ => exact lt_diff (by simp [con]) hk hj (by omega)
  | mk m =>
    intro j A u v hk hj hu
    cases j with
    | mk m' =>
      obtain ⟨l, x, ix⟩ := hk.tup
      obtain ⟨l', y, iy⟩ := hj.tup
      obtain ⟨t, t2, rfl⟩ := ix
      obtain ⟨t', t2', rfl⟩ := iy
      refine rcCast ?_ (x.lt2 y (by omega) str_eq_at str_eq_at (fun _ => lt_str_at) fun _ => lt_str_at)
      by_cases e : m = m'
      · subst e; simp [klt, List.lt_irrefl]
      · simp [klt, e]
    | _ => exact lt_diff (by simp [con]) hk hj (by omega)
  | to a b iha ihb =>
    intro j A u v hk hj hu
    have := leaves_pos a
    have := leaves_pos b
    simp only [leaves] at hu
    cases j with
    | to a' b' =>
      obtain ⟨l, x, ix⟩ := hk.tup
      obtain ⟨l', y, iy⟩ := hj.tup
      obtain ⟨t, p, q, rfl, hp, hq⟩ := ix
      obtain ⟨t', p', q', rfl, hp', hq'⟩ := iy
      refine rcCast ?_ (x.lt3 y (by omega) str_eq_at (EqAt.kinds hp hp' (by rw [in1_units]; omega)) (EqAt.kinds hq hq' (by rw [in1_units]; omega)) (fun _ => lt_str_at) (fun _ => iha a' A.in1 p p' hp hp' (by rw [in1_units]; omega)) fun _ => ihb b' A.in1 q q' hq hq' (by rw [in1_units]; omega))
      by_cases e : a = a'
      · subst e
        by_cases e2 : b = b'
        · subst e2; simp [klt, klt_irrefl]
        · simp [klt, e2]
      · simp [klt, e]
    | _ => exact lt_diff (by simp [con]) hk hj (by omega)
  | both a b iha ihb =>
    intro j A u v hk hj hu
    have := leaves_pos a
    have := leaves_pos b
    simp only [leaves] at hu
    cases j with
    | both a' b' =>
      obtain ⟨l, x, ix⟩ := hk.tup
      obtain ⟨l', y, iy⟩ := hj.tup
      obtain ⟨t, p, q, rfl, hp, hq⟩ := ix
      obtain ⟨t', p', q', rfl, hp', hq'⟩ := iy
      refine rcCast ?_ (x.lt3 y (by omega) str_eq_at (EqAt.kinds hp hp' (by rw [in1_units]; omega)) (EqAt.kinds hq hq' (by rw [in1_units]; omega)) (fun _ => lt_str_at) (fun _ => iha a' A.in1 p p' hp hp' (by rw [in1_units]; omega)) fun _ => ihb b' A.in1 q q' hq hq' (by rw [in1_units]; omega))
      by_cases e : a = a'
      · subst e
        by_cases e2 : b = b'
        · subst e2; simp [klt, klt_irrefl]
        · simp [klt, e2]
      · simp [klt, e]
    | _ => exact lt_diff (by simp [con]) hk hj (by omega)
end

/-! ### lists of kinds are sorted -/
def KAtV (h : Heap) (v : Value) (k : Kd) : Prop := ∃ a, v = .ref a ∧ IsN h k a
open Classical in
/-- the kind of keys that the heap tells -/
noncomputable def kindOf (h : Heap) (v : Value) : Option Kd := if q : ∃ k : Kd, KAtV h v k then some q.choose else none
noncomputable def kindKey (h : Heap) : PyProof.Rows.KeyKind where
  toKeyOrd := kdOrd
  keyOf := kindOf h
  dflt := Kd.one
theorem kindKey_some {h : Heap} {k : Kd} {a : Addr} (x : IsN h k a) : (kindKey h).keyOf (.ref a) = some k := by
  have q : ∃ k : Kd, KAtV h (.ref a) k := ⟨k, a, rfl, x⟩
  have e : kindOf h (.ref a) = some q.choose := by
    unfold kindOf
    rw [dif_pos q]
  obtain ⟨b, e2, y⟩ := q.choose_spec
  cases e2
  have e3 : q.choose = k := IsN.inj y x
  show kindOf h (.ref a) = some k
  rw [e, e3]
theorem kindKey_inv {h : Heap} {k : Kd} {v : Value} (e : (kindKey h).keyOf v = some k) : ∃ a, v = .ref a ∧ IsN h k a := by
  have e : kindOf h v = some k := e
  by_cases q : ∃ k : Kd, KAtV h v k
  · have e' : kindOf h v = some q.choose := by
      unfold kindOf
      rw [dif_pos q]
    have e2 : q.choose = k := Option.some.inj (e'.symm.trans e)
    have h1 := q.choose_spec
    rw [e2] at h1
    exact h1
  · have e' : kindOf h v = none := by
      unfold kindOf
      rw [dif_neg q]
    rw [e'] at e
    cases e
section
variable {P : Program} {w : World} {A : Around} {E : Value → Shared → Prop} {s : Shared}
theorem oneLt_strs {f : Bool} {x y : Str} {t u : Tok} {Q : Bool → Shared → Prop} (h : Q (decide (x.cps.toList < y.cps.toList)) s) : wpAny (model P w) A (oneLt' f (.str x t) (.str y u)) Q E s := by
  cases f with
  | true => exact oneLt_str h
  | false => exact kat_one _ _ (PySem.P.lt_str h)
theorem oneLt_kinds {k j : Kd} {u v : Value} {Q : Bool → Shared → Prop} (hk : KIs s.heap k u) (hj : KIs s.heap j v) (hu : A.units + leaves k < cLine) (h : Q (klt k j) s) : wpAny (model P w) A (oneLt' false u v) Q E s :=
  kat_one _ _ (lt_kinds k j A u v hk hj hu P w _ _ h)
/-- the sort's own comparison of two kinds -/
theorem keyLt_kinds {k j : Kd} {u v : Value} {Q : Bool → Shared → Prop} (hk : KIs s.heap k u) (hj : KIs s.heap j v) (hu : A.units + leaves k < cLine) (h : Q (klt k j) s) : wpAny (model P w) A (keyLt' (tuples' true) u v) Q E s := by
  obtain ⟨l, x, ix⟩ := hk.tup
  obtain ⟨l', y, iy⟩ := hj.tup
  obtain ⟨a, o, n, rfl, h1, h2, h3⟩ := x.ex
  obtain ⟨b, o', m, rfl, k1, k2, k3⟩ := y.ex
  refine kat_lt h1 h3 k1 k3 ?_
  show KatLex P w A true _ Q (l.zip l') 0 s
  by_cases hc : con k = con j
  · cases k with
    | one =>
      cases j with
      | one =>
        obtain ⟨t, rfl⟩ := ix
        obtain ⟨t', rfl⟩ := iy
        refine kat_cons (EqAt.str_str _ _ _ _ _ _ _ _ (kat_go (fun _ => kat_yes (kat_nil ?_)) fun z => ?_))
        · exact h
        · simp at z
      | _ => simp [con] at hc
    | mk m =>
      cases j with
      | mk m' =>
        obtain ⟨t, t2, rfl⟩ := ix
        obtain ⟨t', t2', rfl⟩ := iy
        refine kat_cons (EqAt.str_str _ _ _ _ _ _ _ _ (kat_go (fun _ => kat_yes ?_) fun z => ?_))
        · refine kat_cons (EqAt.str_str _ _ _ _ _ _ _ _ (kat_go (fun z => kat_yes (kat_nil ?_)) fun z => kat_no ?_))
          · have e : m = m' := of_decide_eq_true z
            subst e
            simpa [klt, List.lt_irrefl] using h
          · exact oneLt_strs h
        · simp at z
      | _ => simp [con] at hc
    | to a b =>
      have := leaves_pos a
      have := leaves_pos b
      simp only [leaves] at hu
      cases j with
      | to a' b' =>
        obtain ⟨t, p, q, rfl, hp, hq⟩ := ix
        obtain ⟨t', p', q', rfl, hp', hq'⟩ := iy
        refine kat_cons (EqAt.str_str _ _ _ _ _ _ _ _ (kat_go (fun _ => kat_yes ?_) fun z => ?_))
        · refine kat_cons (EqAt.kinds hp hp' (by omega) _ _ _ _ (kat_go (fun z => kat_yes ?_) fun z => kat_no ?_))
          · have e : a = a' := of_decide_eq_true z
            subst e
            refine kat_cons (EqAt.kinds hq hq' (by omega) _ _ _ _ (kat_go (fun z => kat_yes (kat_nil ?_)) fun z => kat_no ?_))
            · have e2 : b = b' := of_decide_eq_true z
              subst e2
              rw [klt_irrefl] at h
              exact h
            · refine oneLt_kinds hq hq' (by omega) ?_
              rw [klt, if_pos rfl] at h
              exact h
          · refine oneLt_kinds hp hp' (by omega) ?_
            rw [klt, if_neg (of_decide_eq_false z)] at h
            exact h
        · simp at z
      | _ => simp [con] at hc
    | both a b =>
      have := leaves_pos a
      have := leaves_pos b
      simp only [leaves] at hu
      cases j with
      | both a' b' =>
        obtain ⟨t, p, q, rfl, hp, hq⟩ := ix
        obtain ⟨t', p', q', rfl, hp', hq'⟩ := iy
        refine kat_cons (EqAt.str_str _ _ _ _ _ _ _ _ (kat_go (fun _ => kat_yes ?_) fun z => ?_))
        · refine kat_cons (EqAt.kinds hp hp' (by omega) _ _ _ _ (kat_go (fun z => kat_yes ?_) fun z => kat_no ?_))
          · have e : a = a' := of_decide_eq_true z
            subst e
            refine kat_cons (EqAt.kinds hq hq' (by omega) _ _ _ _ (kat_go (fun z => kat_yes (kat_nil ?_)) fun z => kat_no ?_))
            · have e2 : b = b' := of_decide_eq_true z
              subst e2
              rw [klt_irrefl] at h
              exact h
            · refine oneLt_kinds hq hq' (by omega) ?_
              rw [klt, if_pos rfl] at h
              exact h
          · refine oneLt_kinds hp hp' (by omega) ?_
            rw [klt, if_neg (of_decide_eq_false z)] at h
            exact h
        · simp at z
      | _ => simp [con] at hc
  · obtain ⟨t, r, rfl⟩ := its_word ix
    obtain ⟨t', r', rfl⟩ := its_word iy
    have ew : decide (word k = word j) = false := by rw [word_eq]; exact decide_eq_false hc
    refine kat_cons (EqAt.str_str _ _ _ _ _ _ _ _ (kat_go (fun z => ?_) fun z => kat_no (oneLt_strs ?_)))
    · rw [decide_eq_true (beq_iff_eq.mp z)] at ew; cases ew
    · rw [word_lt, ← con_lt k j hc]
      exact h
theorem katTups_kinds {h : Heap} : ∀ {vs : List Value}, (∀ v ∈ vs, ∃ k a, v = .ref a ∧ IsN h k a) → ∃ fs, KatTups h vs fs ∧ fs.length = vs.length ∧ ∀ f ∈ fs, ∃ z t, f = .str z t
  | [], _ => ⟨[], KatTups.nil, rfl, fun f hf => nomatch hf⟩
  | v :: vs, hv => by
    obtain ⟨fs, h1, h2, h3⟩ := katTups_kinds fun u hu => hv u (List.mem_cons_of_mem _ hu)
    obtain ⟨k, a, rfl, x⟩ := hv _ List.mem_cons_self
    obtain ⟨b, o, vs', n, e, g1, g2, g3, g4⟩ := x.1.items
    cases e
    obtain ⟨t, r, e⟩ := its_word g4
    refine ⟨.str (word k) t :: fs, KatTups.cons g1 g2 g3 (by rw [← Array.getElem?_toList, e]; rfl) h1, by rw [List.length_cons, List.length_cons, h2], fun f hf => ?_⟩
    rcases List.mem_cons.mp hf with e | hf
    · exact ⟨_, _, e⟩
    · exact h3 f hf
theorem SortsAt.kinds {vs : List Value} (hv : ∀ v ∈ vs, ∃ k a, v = .ref a ∧ IsN s.heap k a) (hu : A.units + 8 < cLine) : SortsAt P w A s (kindKey s.heap) vs := by
  refine ⟨fun v h => ?_, tuples' true, fun E x y a b Q ha hb hq => ?_, fun h2 E Q hq => ?_⟩
  · obtain ⟨k, a, rfl, x⟩ := hv v h
    exact ⟨k, kindKey_some x⟩
  · obtain ⟨p, rfl, x⟩ := kindKey_inv ha
    obtain ⟨q, rfl, y⟩ := kindKey_inv hb
    exact keyLt_kinds x.1 y.1 (by have := x.2; omega) hq
  · obtain ⟨fs, t1, t2, t3⟩ := katTups_kinds hv
    exact kat_kind (T := .type "str") t1 (by omega) (fun f hf => by
      obtain ⟨z, t, rfl⟩ := t3 f hf
      exact Looks.of_pure rfl) (beq_self_eq_true _) hq
end
end KF
/-! Sets of kinds: made of a list, sorted. The proof is turned from the library's own about sets of tuples of ints (HandS.TupSets) to another kind of key, whose hash the world draws. -/
namespace KF
open PySem PySem.Spec PyProof.Rows L2

section
variable {P : Program} {w : World} {A : Around} {E : Value → Shared → Prop} {s : Shared}

/-! ### the set of kinds -/
def rowsOf (P : Program) (w : World) (L : List (Addr × Kd)) : List (Int × Value) := L.map fun p => (nhash w p.2, Value.ref p.1)
structure SetKR (P : Program) (w : World) (h : Heap) (a : Addr) (L : List (Addr × Kd)) (es : Array (Int × Value)) (ep : Nat) (t : SetTable) : Prop where
  ob : ∃ o, h.get? a = some o ∧ o.ExactSet ∧ o.data = .set es ep t
  rows : es.toList = rowsOf P w L
  tab : TabOk t (L.map fun p => nhash w p.2)
  nd : (L.map (·.2)).Nodup
  tup : ∀ p ∈ L, IsN h p.2 p.1
  led : w.params.followText "set-order" = true ∨ t.led = true
  room : L.length * 5 < t.mask * 3
  few : L.length < 64
variable {a : Addr} {L : List (Addr × Kd)} {es : Array (Int × Value)} {ep : Nat} {t : SetTable}
theorem SetKR.size (R : SetKR P w s.heap a L es ep t) : es.size = L.length := by
  have h := congrArg List.length R.rows
  unfold rowsOf at h
  rw [Array.length_toList, List.length_map] at h
  exact h
theorem SetKR.fits (R : SetKR P w s.heap a L es ep t) : t.fits es.size = true := by
  have h1 := R.tab.sz
  rw [List.length_map] at h1
  have h2 := R.size
  have h3 := R.room
  unfold SetTable.fits SetTable.fill
  rw [R.tab.dm, Bool.and_eq_true, beq_iff_eq, decide_eq_true_eq]
  show t.place.size = es.size ∧ t.place.size + 0 ≤ t.mask
  omega
theorem SetKR.entry (R : SetKR P w s.heap a L es ep t) {i : Nat} {p : Addr × Kd} (h : L[i]? = some p) : es[i]? = some (nhash w p.2, Value.ref p.1) := by
  rw [← Array.getElem?_toList, R.rows]
  unfold rowsOf
  rw [List.getElem?_map, h] <;> rfl
theorem SetKR.gw (R : SetKR P w s.heap a L es ep t) : ¬ t.gaveWay = true := by
  unfold SetTable.gaveWay
  rw [mask_odd R.tab.mok]
  decide

/-- THE SEARCH: from the c-th step of the way on -/
theorem search_from (R : SetKR P w s.heap a L es ep t) {x : Addr} {k : Kd} (hx : IsN s.heap k x) (hu : A.units + 8 < cLine) {K : Nat} (hKf : K < 10 * SetTable.turns t.mask)
    (hK : way t.mask (nhash w k) K ∉ t.place.toList) (hKb : ∀ c, c < K → way t.mask (nhash w k) c ∈ t.place.toList) {Q : SetFound → Shared → Prop}
    (hin : k ∈ L.map (·.2) → Q (.there none) s) (hout : k ∉ L.map (·.2) → Q (.free (way t.mask (nhash w k) K) false) s) :
    ∀ (f c : Nat) (stand : Option SetTable.Probe), stand.getD (t.probeStart (nhash w k)) = nth t.mask (runAt t.mask (SetTable.bits (nhash w k) % (t.mask + 1)) (SetTable.bits (nhash w k))) c → c ≤ K → K - c < f →
      (∀ (i : Nat) p, L[i]? = some p → p.2 = k → ∃ c', c ≤ c' ∧ c' < K ∧ t.place.toList[i]? = some (way t.mask (nhash w k) c')) →
      wpAny (model P w) A (setSearchFrom a (.ref x) (nhash w k) true f stand) Q E s
  | 0, c, stand, _, _, hf, _ => absurd hf (Nat.not_lt_zero _)
  | f + 1, c, stand, hst, hc, hf, hre => by
    obtain ⟨o, ho, hex, hd⟩ := R.ob
    rw [setSearchFrom_succ]
    refine wpAny_bind (wpAny_setState_of ho hd R.fits ?_)
    dsimp only
    refine wp_if_neg R.gw ?_
    try refine wpAny_bind (wpAny_pure ?_)
    have hnd : (nth t.mask (runAt t.mask (SetTable.bits (nhash w k) % (t.mask + 1)) (SetTable.bits (nhash w k))) c).dummy = none := by
      have key : ∀ (n : Nat) (p : SetTable.Probe), p.dummy = none → (nth t.mask p n).dummy = none := by
        intro n
        induction n with
        | zero => intro p h; exact h
        | succ n ih =>
          intro p h
          refine ih (adv t.mask p) ?_
          unfold adv
          split <;> exact h
      exact key c _ rfl
    have sh : ∀ q, nth t.mask (nth t.mask (runAt t.mask (SetTable.bits (nhash w k) % (t.mask + 1)) (SetTable.bits (nhash w k))) c) q = nth t.mask (runAt t.mask (SetTable.bits (nhash w k) % (t.mask + 1)) (SetTable.bits (nhash w k))) (c + q) := fun q => (nth_add t.mask c _ q).symm
    have e1 : ∀ q, (nth t.mask (nth t.mask (runAt t.mask (SetTable.bits (nhash w k) % (t.mask + 1)) (SetTable.bits (nhash w k))) c) q).j = way t.mask (nhash w k) (c + q) := fun q => congrArg SetTable.Probe.j (sh q)
    have spec := go_spec t R.tab.ris R.tab.dm (fun i => (es[i]?.map (·.1)).getD 0) (nhash w k) (10 * SetTable.turns t.mask) (K - c) _ hnd (by omega)
      (fun q hq => by rw [e1]; exact hKb (c + q) (by omega)) (by rw [e1, show c + (K - c) = K by omega]; exact hK)
    have hashAt : ∀ (i : Nat) p, L[i]? = some p → (fun i => (es[i]?.map (·.1)).getD 0) i = nhash w p.2 := fun i p hp => by
      show (es[i]?.map (·.1)).getD 0 = _
      rw [R.entry hp] <;> rfl
    rcases spec with ⟨q, i, hq, hi, hh, hno, hpr⟩ | ⟨hno, hpr⟩
    · -- a candidate
      have hpr' : t.probe (fun i => (es[i]?.map (·.1)).getD 0) (nhash w k) (stand.getD (t.probeStart (nhash w k))) = some (.candidate (way t.mask (nhash w k) (c + q)) i (nth t.mask (runAt t.mask (SetTable.bits (nhash w k) % (t.mask + 1)) (SetTable.bits (nhash w k))) (c + (q + 1)))) := by
        rw [hst, ← e1, ← sh]
        exact hpr
      rw [hpr']
      dsimp only
      rw [e1] at hi
      -- the entry
      have hil : i < L.length := by
        have h1 : i < t.place.toList.length := (List.getElem?_eq_some_iff.mp hi).1
        have h2 := R.tab.sz
        rw [List.length_map] at h2
        rw [Array.length_toList] at h1
        omega
      have hp : L[i]? = some L[i] := List.getElem?_eq_getElem hil
      generalize hpe : L[i] = p at hp
      have hmem : p ∈ L := List.mem_of_getElem? hp
      have hpt := R.tup p hmem
      have rest : wpAny (model P w) A (searchRest a (.ref x) (nhash w k) true f es t (way t.mask (nhash w k) (c + q)) i (nth t.mask (runAt t.mask (SetTable.bits (nhash w k) % (t.mask + 1)) (SetTable.bits (nhash w k))) (c + (q + 1)))) Q E s := by
        unfold searchRest
        rw [R.entry hp]
        dsimp only
        refine wpAny_bind (wpAny_holding (eqBool_N hu hpt hx ?_))
        refine wpAny_bind (wpAny_setState_of ho hd R.fits ?_)
        dsimp only
        by_cases hkk : p.2 = k
        · refine wp_if_pos (by simp [hkk]) ?_
          refine wpAny_pure (hin ?_)
          exact List.mem_map.mpr ⟨p, hmem, hkk⟩
        · refine wp_if_neg (by simp [hkk]) ?_
          try refine wpAny_bind (wpAny_pure ?_)
          rw [sameMem]
          dsimp only
          have hsl : t.slot (way t.mask (nhash w k) (c + q)) = .live i := slot_live R.tab.ris hi
          simp only [if_true, hsl, R.entry hp]
          refine wpAny_bind (wpAny_isSame_ref_self (wpAny_bind (wpAny_pure ?_)))
          simp only [if_true]
          refine wp_if_neg (by simp [hkk]) ?_
          refine search_from R hx hu hKf hK hKb hin hout f (c + (q + 1)) _ rfl (by omega) (by omega) fun i0 p0 h0 hk0 => ?_
          obtain ⟨c', a1, a2, a3⟩ := hre i0 p0 h0 hk0
          refine ⟨c', ?_, a2, a3⟩
          -- it isn't passed
          rcases Nat.lt_or_ge c' (c + q) with z | z
          · exfalso
            refine hno (c' - c) i0 (by omega) (by rw [e1, show c + (c' - c) = c' by omega]; exact a3) ?_
            exact (hashAt i0 p0 h0).trans (congrArg (nhash w) hk0)
          · rcases Nat.lt_or_ge (c + q) c' with y | y
            · omega
            · exfalso
              have ec : c' = c + q := Nat.le_antisymm y z
              rw [ec] at a3
              have s0 := slot_live R.tab.ris a3
              rw [hsl] at s0
              injection s0 with s0
              rw [← s0, hp] at h0
              exact hkk ((congrArg Prod.snd (Option.some.inj h0)).trans hk0)
      by_cases hl : t.led = true
      · refine wp_if_neg (by simp [hl]) ?_
        try refine wpAny_bind (wpAny_pure ?_)
        exact rest
      · refine wp_if_pos (by simp [hl]) ?_
        refine wpAny_bind (seen_N hx (fun y hy => ?_) ?_)
        · obtain ⟨e, he, ee⟩ := List.mem_map.mp hy
          have he1 : e ∈ es ∧ e.1 = nhash w k := by simpa using he
          have he2 : e ∈ es.toList := by simpa using he1.1
          rw [R.rows] at he2
          obtain ⟨p2, hp2, e2⟩ := List.mem_map.mp he2
          refine ⟨p2.2, p2.1, ?_, R.tup p2 hp2⟩
          rw [← ee, ← e2]
        · refine wp_if_neg (by decide) ?_
          try refine wpAny_bind (wpAny_pure ?_)
          exact rest
    · -- the empty slot
      have hpr' : t.probe (fun i => (es[i]?.map (·.1)).getD 0) (nhash w k) (stand.getD (t.probeStart (nhash w k))) = some (.empty (way t.mask (nhash w k) K) none) := by
        have e2 : way t.mask (nhash w k) K = (nth t.mask (nth t.mask (runAt t.mask (SetTable.bits (nhash w k) % (t.mask + 1)) (SetTable.bits (nhash w k))) c) (K - c)).j := by
          rw [e1, show c + (K - c) = K by omega]
        rw [hst, e2]
        exact hpr
      rw [hpr']
      dsimp only
      refine wpAny_pure (hout fun hm => ?_)
      obtain ⟨p0, h0, hk0⟩ := List.mem_map.mp hm
      obtain ⟨i0, hi0, e0⟩ := List.getElem_of_mem h0
      have h00 : L[i0]? = some p0 := by rw [List.getElem?_eq_getElem hi0, e0]
      obtain ⟨c', a1, a2, a3⟩ := hre i0 p0 h00 hk0
      refine hno (c' - c) i0 (by omega) (by rw [e1, show c + (c' - c) = c' by omega]; exact a3) ?_
      exact (hashAt i0 p0 h00).trans (congrArg (nhash w) hk0)

/-- the search as adding asks for it -/
theorem search_at (R : SetKR P w s.heap a L es ep t) {x : Addr} {k : Kd} (hx : IsN s.heap k x) (hu : A.units + 8 < cLine) {Q : SetFound → Shared → Prop}
    (hin : k ∈ L.map (·.2) → Q (.there none) s)
    (hout : ∀ K, k ∉ L.map (·.2) → way t.mask (nhash w k) K ∉ t.place.toList → (∀ c, c < K → way t.mask (nhash w k) c ∈ t.place.toList) → Q (.free (way t.mask (nhash w k) K) false) s) :
    wpAny (model P w) A (setSearch a (.ref x) (nhash w k) true) Q E s := by
  have hroom := R.room
  obtain ⟨K, hKf, hK, hKb⟩ := R.tab.first (by rw [List.length_map]; omega) (nhash w k)
  have hbig : K < 100000 := by
    have : 10 * SetTable.turns t.mask ≤ 1420 := by
      unfold SetTable.turns
      rcases R.tab.mok with e | e | e <;> omega
    omega
  unfold setSearch
  refine search_from R hx hu hKf hK hKb hin (fun hn => hout K hn hK hKb) 100000 0 none rfl (Nat.zero_le _) (by omega) fun i p hp hk => ?_
  have hi : (L.map fun p => nhash w p.2)[i]? = some (nhash w k) := by rw [List.getElem?_map, hp, ← hk] <;> rfl
  have hil : i < t.place.toList.length := by
    have h1 : i < L.length := (List.getElem?_eq_some_iff.mp hp).1
    have h2 := R.tab.sz
    rw [List.length_map] at h2
    rw [Array.length_toList]
    omega
  have hj := List.getElem?_eq_getElem hil
  obtain ⟨c, hc, e⟩ := R.tab.before hK hi hj
  exact ⟨c, Nat.zero_le _, hc, by rw [hj, e]⟩
end
theorem isN_same {h h' : Heap} {k : Kd} {a b : Addr} {o : Obj} {es : Array (Int × Value)} {ep : Nat} {t : SetTable} (hb : IsN h k b) (ho : h.get? a = some o) (hd : o.data = .set es ep t) (hs : Heap.SameBut a h h') : IsN h' k b :=
  hb.at fun c ob vs n hc hdv => (hs.2 c (by
    rintro rfl
    rw [ho] at hc
    cases hc
    rw [hd] at hdv
    cases hdv)).trans hc
theorem isN_keep {h h' : Heap} {k : Kd} {b : Addr} (x : IsN h k b) (hk : ∀ c o, h.get? c = some o → h'.get? c = some o) : IsN h' k b := x.at fun c o _ _ hc _ => hk c o hc
theorem tab_plain {t : SetTable} {hs : List Int} (T : TabOk t hs) (b : Bool) : TabOk { t with plain := b } hs := ⟨T.ris, T.dm, T.sz, T.mok, T.bd, T.reach⟩

section
variable {P : Program} {w : World} {A : Around} {E : Value → Shared → Prop} {s : Shared}
theorem rows_put (L : List (Addr × Kd)) (p : Nat) (x : Addr) (k : Kd) : rowsOf P w (L.take p ++ (x, k) :: L.drop p) = (rowsOf P w L).take p ++ (nhash w k, Value.ref x) :: (rowsOf P w L).drop p := by
  unfold rowsOf
  rw [List.map_append, List.map_cons, List.map_take, List.map_drop]
theorem order_rows (L : List (Addr × Kd)) (es : Array (Int × Value)) (order : Array Nat) (hr : es.toList = rowsOf P w L) (hp : order.toList.Perm (List.range L.length)) :
    ∃ L2, (order.filterMap (es[·]?)).toList = rowsOf P w L2 ∧ L2.Perm L ∧ (L2.map fun p => nhash w p.2) = order.toList.map fun i => (es.map (·.1)).getD i 0 := by
  have hsz : es.size = L.length := by
    have h := congrArg List.length hr
    unfold rowsOf at h
    rw [Array.length_toList, List.length_map] at h
    exact h
  have ent : ∀ i (h : i < L.length), es[i]? = some (nhash w (L[i]).2, Value.ref (L[i]).1) := fun i h => by
    rw [← Array.getElem?_toList, hr]
    unfold rowsOf
    rw [List.getElem?_map, List.getElem?_eq_getElem h] <;> rfl
  have key : ∀ l : List Nat, (∀ i ∈ l, i < L.length) → ∃ L2 : List (Addr × Kd), l.filterMap (fun i => es[i]?) = rowsOf P w L2 ∧ L2 = l.filterMap (fun i => L[i]?) ∧ (L2.map fun p => nhash w p.2) = l.map fun i => (es.map (·.1)).getD i 0 := by
    intro l
    induction l with
    | nil => intro _; exact ⟨[], rfl, rfl, rfl⟩
    | cons i l ih =>
      intro hl
      have hi := hl i List.mem_cons_self
      obtain ⟨L2, e1, e2, e3⟩ := ih fun j hj => hl j (List.mem_cons_of_mem _ hj)
      refine ⟨L[i] :: L2, ?_, ?_, ?_⟩
      · rw [List.filterMap_cons_some (ent i hi), e1] <;> rfl
      · rw [List.filterMap_cons_some (List.getElem?_eq_getElem hi), e2]
      · rw [List.map_cons, List.map_cons, e3]
        have hi2 : i < (es.map (·.1)).size := by rw [Array.size_map, hsz]; exact hi
        have e4 : (es.map (·.1)).getD i 0 = nhash w (L[i]).2 := by
          have e5 : (es.map (·.1))[i]? = some (nhash w (L[i]).2) := by rw [Array.getElem?_map, ent i hi] <;> rfl
          simp [Array.getD_eq_getD_getElem?, e5]
        rw [e4]
  obtain ⟨L2, e1, e2, e3⟩ := key order.toList fun i hi => List.mem_range.mp (hp.mem_iff.mp hi)
  refine ⟨L2, by first | (rw [Array.toList_filterMap]; exact e1) | simpa using e1, ?_, e3⟩
  have h1 : L2.Perm ((List.range L.length).filterMap fun i => L[i]?) := by
    rw [e2]
    exact hp.filterMap _
  have h2 : (List.range L.length).filterMap (fun i => L[i]?) = L := by
    have key2 : ∀ n, n ≤ L.length → (List.range n).filterMap (fun i => L[i]?) = L.take n := by
      intro n
      induction n with
      | zero => intro _; rfl
      | succ n ih =>
        intro hn
        have hlt : n < L.length := hn
        rw [List.range_succ, List.filterMap_append, ih (Nat.le_of_lt hlt), List.take_succ, List.getElem?_eq_getElem hlt]
        rw [List.filterMap_cons_some (List.getElem?_eq_getElem hlt)] <;> rfl
    rw [key2 L.length (Nat.le_refl _), List.take_length]
  rw [h2] at h1
  exact h1

variable {a : Addr} {L : List (Addr × Kd)} {es : Array (Int × Value)} {ep : Nat} {t : SetTable}
/-- the table laid anew, larger -/
theorem relay_at {o : Obj} (ho : s.heap.get? a = some o) (hex : o.ExactSet) (hd : o.data = .set es ep t) (hrows : es.toList = rowsOf P w L) (hsz : t.place.size = es.size) (hdm : t.dummies = #[]) (hfl : es.size ≤ t.mask)
    (nd : (L.map (·.2)).Nodup) (tup : ∀ p ∈ L, IsN s.heap p.2 p.1) (ld : w.params.followText "set-order" = true ∨ t.led = true) (few : L.length < 64) {wanted M : Nat}
    (hw : SetTable.sizeAbove wanted - 1 = M) (hM : MaskOk M) (hw2 : SetTable.sizeAbove wanted ≤ 128) (hn : L.length * 5 < M * 3) {Q : Unit → Shared → Prop}
    (hQ : ∀ h' L' es' ep' t', Heap.SameBut a s.heap h' → SetKR P w h' a L' es' ep' t' → L'.Perm L → Q () { s with heap := h' }) : wpAny (model P w) A (setRelay a wanted) Q E s := by
  have hsl : es.size = L.length := by
    have h := congrArg List.length hrows
    unfold rowsOf at h
    rw [Array.length_toList, List.length_map] at h
    exact h
  have hfits : t.fits es.size = true := by
    unfold SetTable.fits SetTable.fill
    rw [hdm, Bool.and_eq_true, beq_iff_eq, decide_eq_true_eq]
    show t.place.size = es.size ∧ t.place.size + 0 ≤ t.mask
    omega
  obtain ⟨t', order, e, hp, T, em, el, ep', ed⟩ := relaid_ok t (hs := es.map (·.1)) (wanted := wanted) hw hM (by rw [Array.size_map, hsl]; omega)
  rw [Array.size_map, hsl] at hp
  obtain ⟨L2, r1, r2, r3⟩ := order_rows L es order hrows hp
  rw [← r3] at T
  have hs2 : (order.filterMap (es[·]?)).size = es.size := by
    have h := congrArg List.length r1
    unfold rowsOf at h
    rw [Array.length_toList, List.length_map, r2.length_eq] at h
    rw [h, hsl]
  rw [setRelay_eq]
  refine wpAny_bind (wpAny_setState_of ho hd hfits ?_)
  dsimp only
  refine wp_if_neg (by rw [sizeLine_eq]; omega) ?_
  try refine wpAny_bind (wpAny_pure ?_)
  rw [e]
  dsimp only
  refine wpAny_bind ?_
  refine wp_if_neg (by rw [hs2]; simp) ?_
  try refine wpAny_bind (wpAny_pure ?_)
  refine wpAny_pure ?_
  dsimp only
  refine wpAny_storeSet_of ho hd ?_ (by rw [hs2, hsl, sizeLine_eq]; omega)
  have sb : Heap.SameBut a s.heap (s.heap.update a (Obj.putSet (order.filterMap (es[·]?)) t')) := Heap.SameBut.update ..
  refine hQ _ L2 (order.filterMap (es[·]?)) (ep + 1) t' sb ?_ r2
  refine ⟨⟨_, store_at ho hd, ⟨hex.1, hex.2.1, hex.2.2⟩, rfl⟩, r1, T, ?_, fun p hpm => isN_same (tup p (r2.mem_iff.mp hpm)) ho hd sb, by rw [el]; exact ld, ?_, by rw [r2.length_eq]; exact few⟩
  · exact (r2.map (·.2)).nodup_iff.mpr nd
  · rw [r2.length_eq, em]
    exact hn

/-- ADDING -/
theorem add_at (R : SetKR P w s.heap a L es ep t) {x : Addr} {k : Kd} (hx : IsN s.heap k x) (hu : A.units + 8 < cLine) (hfew : L.length + 1 < 64) {Q : Bool → Shared → Prop}
    (hQ : ∀ b h' L' es' ep' t', Heap.SameBut a s.heap h' → SetKR P w h' a L' es' ep' t' → (k ∈ L.map (·.2) → L' = L) → (k ∉ L.map (·.2) → L'.Perm ((x, k) :: L)) → Q b { s with heap := h' }) :
    wpAny (model P w) A (setAddHashed a (.ref x) (nhash w k)) Q E s := by
  obtain ⟨o, ho, hex, hd⟩ := R.ob
  have hsl := R.size
  have hroom := R.room
  unfold setAddHashed
  refine wpAny_holding ?_
  rw [show (100000 : Nat) = 99999 + 1 from rfl, setAddHashedIn_succ]
  refine wpAny_bind (wpAny_setState_of ho hd R.fits ?_)
  dsimp only
  refine wp_if_neg (by simp [byScan, Value.scannable]) ?_
  try refine wpAny_bind (wpAny_pure ?_)
  refine wpAny_bind (search_at R hx hu (fun hm => ?_) fun K hm hK hb => ?_)
  · dsimp only
    exact wpAny_pure (hQ false s.heap L es ep t (Heap.SameBut.refl a s.heap) R (fun _ => rfl) fun z => absurd hm z)
  · dsimp only
    refine wpAny_bind (wpAny_setState_of ho hd R.fits ?_)
    dsimp only
    obtain ⟨q1, q2, q3, q4, q5, q6, q7, q8, q9⟩ := R.tab.put hK hb
    generalize hpt : t.put (way t.mask (nhash w k) K) = pt at q1 q3 q4 q5 q6 q7 q8 q9 ⊢
    obtain ⟨t1, p⟩ := pt
    dsimp only at q1 q3 q4 q5 q6 q7 q8 q9 ⊢
    subst q1
    have hin : (SetTable.insertAt es (SetTable.below t.place (way t.mask (nhash w k) K)) (nhash w k, Value.ref x)).toList = rowsOf P w (L.take (SetTable.below t.place (way t.mask (nhash w k) K)) ++ (x, k) :: L.drop (SetTable.below t.place (way t.mask (nhash w k) K))) := by
      rw [SetTable.toList_insertAt, rows_put, R.rows]
    generalize hpp : SetTable.below t.place (way t.mask (nhash w k) K) = p at q2 q3 hin ⊢
    have pm := put_perm L p (x, k)
    have hlen : (L.take p ++ (x, k) :: L.drop p).length = L.length + 1 := pm.length_eq
    have hhs : (L.take p ++ (x, k) :: L.drop p).map (fun p => nhash w p.2) = (L.map fun p => nhash w p.2).take p ++ nhash w k :: (L.map fun p => nhash w p.2).drop p := by
      rw [List.map_append, List.map_cons, List.map_take, List.map_drop]
    rw [← hhs] at q3
    have nd1 : ((L.take p ++ (x, k) :: L.drop p).map (·.2)).Nodup := by
      refine (pm.map (·.2)).nodup_iff.mpr ?_
      rw [List.map_cons]
      exact List.nodup_cons.mpr ⟨hm, R.nd⟩
    have hes : (SetTable.insertAt es p (nhash w k, Value.ref x)).size = L.length + 1 := by
      have h := congrArg List.length hin
      unfold rowsOf at h
      rw [Array.length_toList, List.length_map, hlen] at h
      exact h
    generalize SetTable.insertAt es p (nhash w k, Value.ref x) = es1 at hin hes ⊢
    generalize L.take p ++ (x, k) :: L.drop p = L1 at pm hlen q3 nd1 hin
    have tail : ∀ t2 : SetTable, TabOk t2 (L1.map fun p => nhash w p.2) → t2.mask = t.mask → t2.led = t.led → t2.fill = (L.map fun p => nhash w p.2).length + 1 →
        wpAny (model P w) A (do
          storeSet a es1 t2
          if !false && t2.tooFull then setRelay a (SetTable.grown (es.size + 1))
          return true) Q E s := by
      intro t2 q3 q4 q5 q9
      refine wpAny_bind (wpAny_storeSet_of ho hd ?_ (by rw [hes, sizeLine_eq]; omega))
      have sb : Heap.SameBut a s.heap (s.heap.update a (Obj.putSet es1 t2)) := Heap.SameBut.update ..
      have ho1 := store_at (es' := es1) (t' := t2) ho hd
      generalize s.heap.update a (Obj.putSet es1 t2) = h1 at sb ho1 ⊢
      have tup1 : ∀ p ∈ L1, IsN h1 p.2 p.1 := fun p hp => by
        rcases List.mem_cons.mp (pm.mem_iff.mp hp) with e | hp
        · rw [e]; exact isN_same hx ho hd sb
        · exact isN_same (R.tup p hp) ho hd sb
      have ld1 : w.params.followText "set-order" = true ∨ t2.led = true := by rw [q5]; exact R.led
      by_cases hf : t2.tooFull = true
      · first
          | (refine wpAny_bind ?_; refine wp_if_pos (by simp [hf]) ?_)
          | (refine wp_if_pos (by simp [hf]) ?_; refine wpAny_bind ?_)
        have hfull : (L.length + 1) * 5 ≥ t2.mask * 3 := by
          have h := hf
          unfold SetTable.tooFull at h
          rw [decide_eq_true_eq, q9, List.length_map] at h
          exact h
        rw [hsl]
        have hsz1 : t2.place.size = es1.size := by
          have h := q3.sz
          rw [List.length_map, hlen] at h
          rw [h, hes]
        have cases2 : (t.mask = 7 ∧ L.length = 4) ∨ (t.mask = 31 ∧ L.length = 18) := by
          rcases R.tab.mok with e | e | e
          · left; rw [q4, e] at hfull; rw [e] at hroom; exact ⟨e, by omega⟩
          · right; rw [q4, e] at hfull; rw [e] at hroom; exact ⟨e, by omega⟩
          · exfalso; rw [q4, e] at hfull; omega
        have go : ∀ M, SetTable.sizeAbove (SetTable.grown (L.length + 1)) - 1 = M → MaskOk M → SetTable.sizeAbove (SetTable.grown (L.length + 1)) ≤ 128 → (L.length + 1) * 5 < M * 3 →
            wpAny (model P w) A (setRelay a (SetTable.grown (L.length + 1))) (fun _ s' => wpAny (model P w) A (pure true) Q E s') E { s with heap := h1 } := fun M h1' h2' h3' h4' => by
          refine relay_at (s := { s with heap := h1 }) ho1 ⟨hex.1, hex.2.1, hex.2.2⟩ rfl hin hsz1 q3.dm (by rw [hes, q4]; rcases cases2 with ⟨e, e2⟩ | ⟨e, e2⟩ <;> omega) nd1 tup1 ld1 (by rw [hlen]; exact hfew) h1' h2' h3' (by rw [hlen]; exact h4') ?_
          intro h2 L2 es2 ep2 t3 sb2 R2 pm2
          refine wpAny_pure (hQ true h2 L2 es2 ep2 t3 (sb.trans sb2) R2 (fun z => absurd z hm) fun _ => pm2.trans pm)
        rcases cases2 with ⟨_, e2⟩ | ⟨_, e2⟩
        · refine go 31 (by rw [e2, size_20]) (.inr (.inl rfl)) (by rw [e2, size_20]; decide) (by omega)
        · refine go 127 (by rw [e2, size_76]) (.inr (.inr rfl)) (by rw [e2, size_76]; decide) (by omega)
      · first
          | refine wp_if_neg (by simp [hf]) ?_
          | (refine wpAny_bind ?_; refine wp_if_neg (by simp [hf]) ?_; refine wpAny_pure ?_)
        refine wpAny_pure (hQ true h1 L1 es1 (ep + 1) t2 sb ⟨⟨_, ho1, ⟨hex.1, hex.2.1, hex.2.2⟩, rfl⟩, hin, q3, nd1, tup1, ld1, ?_, by rw [hlen]; exact hfew⟩ (fun z => absurd z hm) fun _ => pm)
        have h := hf
        unfold SetTable.tooFull at h
        rw [decide_eq_true_eq, q9, List.length_map] at h
        rw [hlen]
        omega
    by_cases c : t1.plain = true
    · refine wp_if_pos c (wpAny_bind (hashBy_N hx ?_))
      exact tail { t1 with plain := false } (tab_plain q3 false) q4 q5 q9
    · refine wp_if_neg c (wpAny_bind (wpAny_pure ?_))
      exact tail t1 q3 q4 q5 q9

end

/-- what the set has got from the first i items -/
structure Got (ks : List (Addr × Kd)) (i : Nat) (L : List (Addr × Kd)) : Prop where
  sub : ∀ p ∈ L, p ∈ ks.take i
  all : ∀ p ∈ ks.take i, p.2 ∈ L.map (·.2)
  len : L.length ≤ i
theorem Got.zero (ks : List (Addr × Kd)) : Got ks 0 [] := ⟨fun p h => (by cases h), fun p h => (by simp at h), Nat.le_refl _⟩
theorem Got.same {ks L : List (Addr × Kd)} {i : Nat} {x : Addr × Kd} (g : Got ks i L) (h : ks[i]? = some x) (hm : x.2 ∈ L.map (·.2)) : Got ks (i + 1) L := by
  refine ⟨fun p hp => ?_, fun p hp => ?_, Nat.le_succ_of_le g.len⟩
  · rw [take_next h]
    exact List.mem_append_left _ (g.sub p hp)
  · rw [take_next h] at hp
    rcases List.mem_append.mp hp with z | z
    · exact g.all p z
    · rw [List.mem_singleton.mp z]; exact hm
theorem Got.more {ks L L' : List (Addr × Kd)} {i : Nat} {x : Addr × Kd} (g : Got ks i L) (h : ks[i]? = some x) (pm : L'.Perm (x :: L)) : Got ks (i + 1) L' := by
  refine ⟨fun p hp => ?_, fun p hp => ?_, ?_⟩
  · rw [take_next h]
    rcases List.mem_cons.mp (pm.mem_iff.mp hp) with e | z
    · rw [e]; exact List.mem_append_right _ (List.mem_singleton.mpr rfl)
    · exact List.mem_append_left _ (g.sub p z)
  · rw [(pm.map (·.2)).mem_iff, List.map_cons]
    rw [take_next h] at hp
    rcases List.mem_append.mp hp with z | z
    · exact List.mem_cons_of_mem _ (g.all p z)
    · rw [List.mem_singleton.mp z]; exact List.mem_cons_self
  · rw [pm.length_eq, List.length_cons]
    exact Nat.succ_le_succ g.len

section
variable {P : Program} {w : World} {A : Around} {E : Value → Shared → Prop} {s : Shared}
theorem SetKR.keep {h h' : Heap} {a : Addr} {L : List (Addr × Kd)} {es : Array (Int × Value)} {ep : Nat} {t : SetTable} (R : SetKR P w h a L es ep t) (ha : ∀ o, h.get? a = some o → h'.get? a = some o) (ht : ∀ p ∈ L, IsN h' p.2 p.1) : SetKR P w h' a L es ep t := by
  obtain ⟨o, ho, r⟩ := R.ob
  exact ⟨⟨o, ha o ho, r⟩, R.rows, R.tab, R.nd, ht, R.led, R.room, R.few⟩
/-- a new set -/
theorem setKR_fresh {h : Heap} {a : Addr} (ho : h.get? a = some { cls := .type "set", dict := none, data := .set #[] 0 (.fresh 0 0 (!w.params.followText "set-order")) }) : SetKR P w h a [] #[] 0 (.fresh 0 0 (!w.params.followText "set-order")) where
  ob := ⟨_, ho, ⟨rfl, rfl, rfl⟩, rfl⟩
  rows := rfl
  tab := ⟨List.Pairwise.nil, rfl, rfl, .inl rfl, fun x hx => (by cases hx), fun i h j hi => (by simp at hi)⟩
  nd := List.nodup_nil
  tup := fun p hp => (by cases hp)
  led := by
    show _ ∨ (!w.params.followText "set-order") = true
    cases w.params.followText "set-order"
    · exact .inr rfl
    · exact .inl rfl
  room := by
    show 0 * 5 < 7 * 3
    decide
  few := by
    show 0 < 64
    decide

/-- set.update's loop -/
theorem set_update_kinds {I : Addr} {fp wr : List Addr} {G : Array GenState → Array GenState → Prop} {n : Nat} {Pv : Nat → Value → Prop} {St : Nat → Shared → Prop} {R : Result → Shared → Prop}
    (W : WalksS P w A.in1 I fp wr G n Pv St) (S : Addr) (hSf : S ∉ fp) (ks : List (Addr × Kd)) (hn : n = ks.length) (hfew : ks.length < 64) (hval : ∀ i v, Pv i v → ∃ p, ks[i]? = some p ∧ v = .ref p.1)
    (h0 : Heap) (hk : ∀ p ∈ ks, IsN h0 p.2 p.1) (hS0 : h0.get? S = none) (hw0 : ∀ b ∈ wr, h0.get? b = none) (hu : A.in1.units + 8 < cLine) :
    ∀ (k i : Nat) (s : Shared), n - i = k → i ≤ n → St i s → (∀ b o, h0.get? b = some o → s.heap.get? b = some o) → (∃ L es ep t, SetKR P w s.heap S L es ep t ∧ Got ks i L) →
      (∀ s' L es ep t, Moved (S :: wr) G s s' → SetKR P w s'.heap S L es ep t → Got ks n L → (∀ b o, h0.get? b = some o → s'.heap.get? b = some o) → R (.ok (.ret .none)) s') →
      codeAny (model P w) A (.builtin "set.update.loop" ⟨[.ref S, .ref I], []⟩) R s := by
  have hSw : S ∉ wr := fun h => hSf (W.sub _ h)
  have hsub : ∀ b ∈ wr, b ∈ S :: wr := fun b hb => List.mem_cons_of_mem _ hb
  have keepM : ∀ {s s' : Shared}, Moved wr G s s' → (∀ b o, h0.get? b = some o → s.heap.get? b = some o) → ∀ b o, h0.get? b = some o → s'.heap.get? b = some o := fun hm hkp b o e =>
    hm.heap b o (fun hb => by rw [hw0 b hb] at e; cases e) (hkp b o e)
  intro k
  induction k with
  | zero =>
    intro i s hk' hi hst hkp ⟨L, es, ep, t, hS, g⟩ hR
    have hin : i = n := by omega
    subst hin
    refine codeAny_builtin F.entry_set_update_loop ?_
    rw [Around.under_plainId F.plain_set_update_loop _]
    show wpAny _ A.in1 (pyNext (.ref I) >>= _) _ _ s
    refine wpAny_bind (W.done s _ _ hst fun s' hm => ?_)
    show wpAny _ A.in1 (ret Value.none) _ _ s'
    have hkp' := keepM hm hkp
    have sub : ∀ p ∈ L, p ∈ ks := fun p hp => List.mem_of_mem_take (g.sub p hp)
    exact wpAny_pure (hR s' L es ep t (hm.mono hsub) (hS.keep (fun o e => hm.heap S o hSw e) fun p hp => isN_keep (hk p (sub p hp)) hkp') g hkp')
  | succ k ih =>
    intro i s hk' hi hst hkp ⟨L, es, ep, t, hS, g⟩ hR
    have hlt : i < n := by omega
    refine codeAny_builtin F.entry_set_update_loop ?_
    rw [Around.under_plainId F.plain_set_update_loop _]
    show wpAny _ A.in1 (pyNext (.ref I) >>= _) _ _ s
    refine wpAny_bind (W.item i s _ _ hlt hst fun v s' hP hst' hm => ?_)
    obtain ⟨p, hp, rfl⟩ := hval i v hP
    have hkp' := keepM hm hkp
    have sub : ∀ p ∈ L, p ∈ ks := fun p hp => List.mem_of_mem_take (g.sub p hp)
    have hS' : SetKR P w s'.heap S L es ep t := hS.keep (fun o e => hm.heap S o hSw e) fun q hq => isN_keep (hk q (sub q hq)) hkp'
    have hx : IsN s'.heap p.2 p.1 := isN_keep (hk p (List.mem_of_getElem? hp)) hkp'
    show wpAny _ A.in1 (holding [Value.ref p.1] (setAdd S (.ref p.1)) >>= _) _ _ s'
    refine wpAny_bind (wpAny_holding ?_)
    unfold setAdd
    refine wpAny_holding ?_
    refine wpAny_bind (pyHash_N hu hx ?_)
    refine add_at (s := { s' with toks := s'.toks + (enc p.2).draws }) hS' hx hu (by have := g.len; omega) fun b h' L' es' ep' t' hsb hS2 c1 c2 => ?_
    have g' : Got ks (i + 1) L' := by
      rcases Classical.em (p.2 ∈ L.map (·.2)) with c | c
      · rw [c1 c]; exact g.same hp c
      · exact g.more hp (c2 c)
    have hkp2 : ∀ b o, h0.get? b = some o → h'.get? b = some o := fun b o e => (hsb.2 b (fun z => by rw [z, hS0] at e; cases e)).trans (hkp' b o e)
    refine wpAny_pure ⟨plainId_quiet F.plain_set_update_loop _, ih (i + 1) _ (by omega) hlt (W.frame _ s' _ _ hst' (Nat.le_add_right _ _) fun b hb o e => ?_) hkp2 ⟨L', es', ep', t', hS2, g'⟩ fun s'' L2 es2 ep2 t2 hm'' hS'' g'' hkp'' => ?_⟩
    · rw [hsb.2 b (fun h : b = S => hSf (by rw [← h]; exact hb))]; exact e
    · refine hR s'' L2 es2 ep2 t2 (Moved.trans W.gtrans ((hm.mono hsub).then_heap (Nat.le_add_right _ _) fun b o hb e => ?_) hm'') hS'' g'' hkp''
      rw [hsb.2 b (fun h : b = S => hb (by rw [h]; exact List.mem_cons_self))]; exact e

set_option maxRecDepth 100000 in
set_option maxHeartbeats 3200000 in
/-- set(xs) -/
theorem call_set_kinds {l : Addr} {items : Array Value} (ks : List (Addr × Kd)) {Q : Value → Shared → Prop} (hh : A.handled = none) (hl : s.heap.IsList l items) (hit : items.toList = ks.map fun p => Value.ref p.1)
    (hk : ∀ p ∈ ks, IsN s.heap p.2 p.1) (hfew : ks.length < 64) (hu : A.units + 11 < cLine)
    (h : ∀ (h' : Heap) (tk : Nat) L es ep t, SetKR P w h' s.heap.objs.size L es ep t → Got ks ks.length L → (∀ b o, s.heap.get? b = some o → h'.get? b = some o) → Q (.ref s.heap.objs.size) { s with heap := h', toks := tk }) :
    wpAny (model P w) A (call (.type "set") [.ref l]) Q E s := by
  have hisz : items.size = ks.length := by
    have q := congrArg List.length hit
    rw [Array.length_toList, List.length_map] at q
    exact q
  obtain ⟨c, tl, hmro⟩ := F.called_set.mro
  have hmade := F.called_set.made
  have hsub := F.called_set.sub
  refine wpAny_call (codeAny_of_tree ?_)
  show wpAny _ _ (callAny (.type "set") _) _ _ _
  refine wpAny_pure ⟨Code.quiet_builtin _ (by decide +kernel), codeAny_builtin F.entry_type_call ?_⟩
  rw [Around.under_plain (weight_type_call_type "set" [.ref l] []) rfl]
  have h1 := F.called_set.notType
  have h2 := F.called_set.canCreate
  have hct := F.typeCall_set_1 (.ref l)
  repeat (any_goals (first | assumption | wp_step))

  refine codeAny_mono (code_set_led1 (.ref l) (E := E) (Q₁ := fun obj s₁ => obj = .ref s.heap.objs.size ∧ s₁ = { s with heap := s.heap.push { cls := .type "set", dict := none, data := .set #[] 0 (.fresh 0 0 (!w.params.followText "set-order")) } }) ⟨rfl, rfl⟩) fun r s₁ hr => ?_
  cases r with
  | error e => exact hr
  | ok fl =>
    cases fl with
    | ret obj =>
      obtain ⟨rfl, rfl⟩ := hr
      have hS : (s.heap.push { cls := .type "set", dict := none, data := .set #[] 0 (.fresh 0 0 (!w.params.followText "set-order")) }).get? s.heap.objs.size = some { cls := .type "set", dict := none, data := .set #[] 0 (.fresh 0 0 (!w.params.followText "set-order")) } := Heap.get?_push_size _ rfl
      have hT : Shared.TypeIs { s with heap := s.heap.push { cls := .type "set", dict := none, data := .set #[] 0 (.fresh 0 0 (!w.params.followText "set-order")) } } (.ref s.heap.objs.size) "set" := ⟨_, hS, rfl⟩
      have hli := F.called_set.init.lookup
      have hbi := F.called_set.init.bind (.ref s.heap.objs.size)
      repeat (any_goals (first | assumption | wp_step))

      refine codeAny_mono (codeAny_call_builtin (R := wants (fun r s₂ => r = .none ∧ ∃ h' tk L es ep t, s₂ = { s with heap := h', toks := tk } ∧ SetKR P w h' s.heap.objs.size L es ep t ∧ Got ks ks.length L ∧
          (∀ b o, s.heap.get? b = some o → h'.get? b = some o)) E) F.called_set.init.plain F.entry_set_init (check_set_init_1 hT ?_)) fun r₂ s₂ hr₂ => ?_
      · obtain ⟨ol, hol, hcl, nl, hdl⟩ := hl
        obtain ⟨ocls, odict, odata, oslots⟩ := ol
        simp only at hcl hdl
        subst hcl; subst hdl
        have hol' : (s.heap.push { cls := .type "set", dict := none, data := .set #[] 0 (.fresh 0 0 (!w.params.followText "set-order")) }).get? l = some { cls := .type "list", dict := odict, data := .seq items nl, slots := oslots } := Heap.get?_push_of_some _ hol
        have hsls := F.sub_list_set
        have hslf := F.sub_list_frozenset
        have hne : (Value.type "list" == Value.type "dict") = false := by decide
        have hl1 : (s.heap.push { cls := .type "set", dict := none, data := .set #[] 0 (.fresh 0 0 (!w.params.followText "set-order")) }).IsList l items := ⟨_, hol', rfl, nl, rfl⟩
        unfold Builtin.«set.__init__» noKeywords Builtin.Frozenset.updateFrom
        generalize hPI : pyIter = PI
        wp_walk
        subst hPI

        refine wpAny_pyIter_list hl1 ?_
        refine wpAny_bind (wpAny_runValue ?_)
        have hlS : l < s.heap.objs.size := Heap.lt_size hol
        have hh3 : A.in1.in1.in1.handled = none := by simp [hh]
        have hz1 : (s.heap.push { cls := .type "set", dict := none, data := .set #[] 0 (.fresh 0 0 (!w.params.followText "set-order")) }).objs.size = s.heap.objs.size + 1 := Heap.size_push ..
        have hneI : l ≠ (s.heap.push { cls := .type "set", dict := none, data := .set #[] 0 (.fresh 0 0 (!w.params.followText "set-order")) }).objs.size := by
          rw [Heap.size_push]; exact Nat.ne_of_lt (Nat.lt_succ_of_lt hlS)
        have hSf : s.heap.objs.size ∉ [(s.heap.push { cls := .type "set", dict := none, data := .set #[] 0 (.fresh 0 0 (!w.params.followText "set-order")) }).objs.size, l] := by
          rw [Heap.size_push]; simp only [List.mem_cons, List.mem_singleton, List.not_mem_nil, or_false, not_or]
          exact ⟨Nat.ne_of_lt (Nat.lt_succ_self _), Nat.ne_of_gt hlS⟩
        have hval : ∀ (i : Nat) (v : Value), items[i]? = some v → ∃ p, ks[i]? = some p ∧ v = .ref p.1 := fun i v hv => by
          have q : items.toList[i]? = some v := by rw [Array.getElem?_toList]; exact hv
          rw [hit, List.getElem?_map] at q
          cases hq : ks[i]? with
          | none => rw [hq] at q; cases q
          | some p =>
            rw [hq] at q
            exact ⟨p, rfl, (Option.some.inj q).symm⟩
        have none_of : ∀ b, s.heap.objs.size ≤ b → s.heap.get? b = none := fun b hb => by
          cases q : s.heap.get? b with
          | none => rfl
          | some o => exact absurd (Nat.lt_of_lt_of_le (Heap.lt_size q) hb) (Nat.lt_irrefl _)
        refine set_update_kinds ((Walks.list hh3 _ l hneI items).toS) s.heap.objs.size
          hSf ks hisz hfew hval s.heap hk (none_of _ (Nat.le_refl _)) (fun b hb => none_of b (by
            rw [List.mem_singleton.mp hb, Heap.size_push]
            exact Nat.le_succ _)) hu (items.size - 0) 0 _ (by omega) (Nat.zero_le _)
          ⟨⟨_, Heap.get?_push_size _ rfl, rfl, rfl⟩, (hl1.push _)⟩ (fun b o e => Heap.get?_push_of_some _ (Heap.get?_push_of_some _ e)) ?hS0 ?hR
        case hS0 =>
          have hget : ((s.heap.push { cls := .type "set", dict := none, data := .set #[] 0 (.fresh 0 0 (!w.params.followText "set-order")) }).push { cls := .type "list_iterator", data := .fields #[.ref l, .int 0 0] }).get? s.heap.objs.size
              = some { cls := .type "set", dict := none, data := .set #[] 0 (.fresh 0 0 (!w.params.followText "set-order")) } := Heap.get?_push_of_some _ hS
          exact ⟨[], #[], 0, _, setKR_fresh hget, Got.zero ks⟩
        case hR =>
          intro s' L es ep t hm hS' g' hkp
          obtain ⟨h', g2, d', tk', os'⟩ := s'
          have eg : g2 = s.gens := hm.gens
          have ed : d' = s.drawn := hm.drawn
          have eo : os' = s.os := hm.os
          subst eg; subst ed; subst eo
          show wpAny _ _ _ _ _ _
          refine wpAny_pure ?_
          show wpAny _ _ (ret Value.none) _ _ _
          rw [hisz] at g'
          exact wpAny_pure ⟨rfl, h', tk', L, es, ep, t, rfl, hS', g', hkp⟩

      · cases r₂ with
        | error e => exact hr₂
        | ok fl₂ =>
          cases fl₂ with
          | ret r =>
            obtain ⟨rfl, h', tk, L, es, ep, t, rfl, hS', g', hk'⟩ := hr₂
            repeat (any_goals (first | assumption | wp_step))
            exact h _ _ _ _ _ _ hS' g' hk'
          | _ => exact hr₂.elim
    | _ => exact hr.elim

end

/-- the set at a, without the kinds themselves -/
structure SetK0 (P : Program) (w : World) (h : Heap) (a : Addr) (L : List (Addr × Kd)) : Prop where
  ex : ∃ (es : Array (Int × Value)) (ep : Nat) (t : SetTable), (∃ o, h.get? a = some o ∧ o.ExactSet ∧ o.data = .set es ep t) ∧ es.toList = rowsOf P w L ∧ TabOk t (L.map fun p => nhash w p.2) ∧ (L.map (·.2)).Nodup ∧ 
    (w.params.followText "set-order" = true ∨ t.led = true) ∧ L.length * 5 < t.mask * 3 ∧ L.length < 64
def SetKO (P : Program) (w : World) (a : Addr) (L : List (Addr × Kd)) : HO := .ext fun h => SetK0 P w h a L
theorem SetKR.t0 {P : Program} {w : World} {h : Heap} {a : Addr} {L : List (Addr × Kd)} {es : Array (Int × Value)} {ep : Nat} {t : SetTable} (R : SetKR P w h a L es ep t) : SetK0 P w h a L :=
  ⟨es, ep, t, R.ob, R.rows, R.tab, R.nd, R.led, R.room, R.few⟩
theorem SetK0.full {P : Program} {w : World} {h : Heap} {a : Addr} {L : List (Addr × Kd)} (R : SetK0 P w h a L) (ht : ∀ p ∈ L, IsN h p.2 p.1) : ∃ es ep t, SetKR P w h a L es ep t := by
  obtain ⟨es, ep, t, h1, h2, h3, h4, h6, h7, h8⟩ := R.ex
  exact ⟨es, ep, t, h1, h2, h3, h4, ht, h6, h7, h8⟩
theorem setKO_new {P : Program} {w : World} {H : Hp} {h : Heap} {a : Addr} {L : List (Addr × Kd)} (R : SetK0 P w h a L) : ObjOk P w H h a (SetKO P w a L) := by
  have ⟨es, ep, t, ⟨o, ho, r⟩, q⟩ := R.ex
  refine ⟨R, ⟨o, ho⟩, fun h1 h2 p k => ?_⟩
  have ⟨es', ep', t', ⟨o', ho', r'⟩, q'⟩ := SetK0.ex p
  exact ⟨es', ep', t', ⟨o', k o' ho', r'⟩, q'⟩theorem refs_of_vals : ∀ {ks : List (Addr × Kd)} {us : List Value}, Vals (ks.map fun p => V.ref p.1) us → us = ks.map fun p => Value.ref p.1
  | [], _, .nil => rfl
  | p :: ks, _, .cons r t => by
    cases r
    rw [refs_of_vals t] <;> rfl
theorem vals_of_refs : ∀ (ks : List (Addr × Kd)), Vals (ks.map fun p => V.ref p.1) (ks.map fun p => Value.ref p.1)
  | [] => .nil
  | p :: ks => .cons rfl (vals_of_refs ks)
end KF
/-! Kinds told by the abstract heap; set(list of kinds) and sorted(set of kinds) as rules of the layer. -/
namespace KF
open PySem PySem.Spec PyProof.Rows L2 PySem.W

/-- the kind k stands at a -/
def KAt (H : Hp) : Kd → Addr → Prop
  | .one, a => H a = some (.tup [.str sOne])
  | .mk m, a => H a = some (.tup [.str sMark, .str m])
  | .to x y, a => ∃ p q, H a = some (.tup [.str sTo, .ref p, .ref q]) ∧ KAt H x p ∧ KAt H y q
  | .both x y, a => ∃ p q, H a = some (.tup [.str sBoth, .ref p, .ref q]) ∧ KAt H x p ∧ KAt H y q
theorem KAt.mono {H H' : Hp} (ht : ∀ b xs, H b = some (.tup xs) → H' b = some (.tup xs)) : ∀ {k : Kd} {a : Addr}, KAt H k a → KAt H' k a
  | .one, _, h => ht _ _ h
  | .mk _, _, h => ht _ _ h
  | .to _ _, _, ⟨p, q, h, hp, hq⟩ => ⟨p, q, ht _ _ h, hp.mono ht, hq.mono ht⟩
  | .both _ _, _, ⟨p, q, h, hp, hq⟩ => ⟨p, q, ht _ _ h, hp.mono ht, hq.mono ht⟩
theorem KAt.same {H H' : Hp} {k : Kd} {a : Addr} (s : Same H H') (h : KAt H k a) : KAt H' k a := h.mono fun b xs e => s b _ e
theorem KAt.isTup {H : Hp} {k : Kd} {a : Addr} (h : KAt H k a) : ∃ xs, H a = some (.tup xs) := by
  cases k with
  | one => exact ⟨_, h⟩
  | mk m => exact ⟨_, h⟩
  | to x y => obtain ⟨p, q, h, _⟩ := h; exact ⟨_, h⟩
  | both x y => obtain ⟨p, q, h, _⟩ := h; exact ⟨_, h⟩
theorem KAt.ne_none {H : Hp} {k : Kd} {a : Addr} (h : KAt H k a) : H a ≠ none := by
  obtain ⟨xs, e⟩ := h.isTup
  rw [e]
  exact fun z => nomatch z
theorem tup_at {P : Program} {w : World} {H : Hp} {h : Heap} (ok : HOk P w H h) {a : Addr} {xs : List V} (e : H a = some (.tup xs)) : ∃ its : List Value, Vals xs its ∧ ∃ o n, h.get? a = some o ∧ o.cls = .type "tuple" ∧ o.data = .seq its.toArray n := by
  obtain ⟨_, its, r, o, ho, hc, n, hd⟩ := ok a _ e
  exact ⟨its, r, o, n, ho, hc, hd⟩
theorem KAt.kis {P : Program} {w : World} {H : Hp} {h : Heap} (ok : HOk P w H h) : ∀ {k : Kd} {a : Addr}, KAt H k a → KIs h k (.ref a)
  | .one, a, x => by
    obtain ⟨its, r, o, n, ho, hc, hd⟩ := tup_at ok x
    cases r with
    | cons r0 rr =>
      cases rr
      obtain ⟨t, rfl⟩ := r0
      exact NestedIs.tup ho hc hd (.cons (.text _ _) .nil)
  | .mk m, a, x => by
    obtain ⟨its, r, o, n, ho, hc, hd⟩ := tup_at ok x
    cases r with
    | cons r0 rr =>
      cases rr with
      | cons r1 rr =>
        cases rr
        obtain ⟨t, rfl⟩ := r0
        obtain ⟨t1, rfl⟩ := r1
        exact NestedIs.tup ho hc hd (.cons (.text _ _) (.cons (.text _ _) .nil))
  | .to k j, a, x => by
    obtain ⟨p, q, x, hp, hq⟩ := x
    obtain ⟨its, r, o, n, ho, hc, hd⟩ := tup_at ok x
    cases r with
    | cons r0 rr =>
      cases rr with
      | cons r1 rr =>
        cases rr with
        | cons r2 rr =>
          cases rr
          obtain ⟨t, rfl⟩ := r0
          cases r1
          cases r2
          exact NestedIs.tup ho hc hd (.cons (.text _ _) (.cons (hp.kis ok) (.cons (hq.kis ok) .nil)))
  | .both k j, a, x => by
    obtain ⟨p, q, x, hp, hq⟩ := x
    obtain ⟨its, r, o, n, ho, hc, hd⟩ := tup_at ok x
    cases r with
    | cons r0 rr =>
      cases rr with
      | cons r1 rr =>
        cases rr with
        | cons r2 rr =>
          cases rr
          obtain ⟨t, rfl⟩ := r0
          cases r1
          cases r2
          exact NestedIs.tup ho hc hd (.cons (.text _ _) (.cons (hp.kis ok) (.cons (hq.kis ok) .nil)))
/-- the places xs of a list of kinds -/
abbrev refs (ks : List (Addr × Kd)) : List V := ks.map fun p => V.ref p.1
/-- each of them stands there, of eight leaves at most -/
def AllK (H : Hp) (ks : List (Addr × Kd)) : Prop := ∀ p ∈ ks, KAt H p.2 p.1 ∧ leaves p.2 ≤ 8
theorem AllK.isN {P : Program} {w : World} {H : Hp} {h : Heap} (ok : HOk P w H h) {ks : List (Addr × Kd)} (x : AllK H ks) : ∀ p ∈ ks, IsN h p.2 p.1 := fun p hp => ⟨(x p hp).1.kis ok, (x p hp).2⟩

section
variable {P : Program} {w : World} {A : Around} {E : Value → Shared → Prop} {s : Shared}
theorem each_refs : ∀ L : List (Addr × Kd), EachIs (fun v (p : Addr × Kd) => v = Value.ref p.1) (L.map fun p => Value.ref p.1) L
  | [] => .nil
  | _ :: L => .cons rfl (each_refs L)
theorem each_keys_of {h : Heap} : ∀ L : List (Addr × Kd), (∀ p ∈ L, IsN h p.2 p.1) → EachIs (fun v (p : Addr × Kd) => (kindKey h).keyOf v = some p.2) (L.map fun p => Value.ref p.1) L
  | [], _ => .nil
  | p :: L, x => .cons (kindKey_some (x p List.mem_cons_self)) (each_keys_of L fun q hq => x q (List.mem_cons_of_mem _ hq))
theorem each_eq : ∀ {vs : List Value} {L : List (Addr × Kd)}, EachIs (fun v (p : Addr × Kd) => v = Value.ref p.1) vs L → vs = L.map fun p => Value.ref p.1
  | _, _, .nil => rfl
  | _, _, .cons h t => by rw [h, each_eq t]; rfl
/-- what a list of kinds becomes: it is sorted -/
noncomputable def sortK (h : Heap) (L : List (Addr × Kd)) : List (Addr × Kd) := L.mergeSort (sortLe (kindKey h).toKeyOrd false fun p => (p.2 : Kd))
theorem sortK_perm (h : Heap) (L : List (Addr × Kd)) : (sortK h L).Perm L := List.mergeSort_perm _ _
theorem sortK_asc (h : Heap) (L : List (Addr × Kd)) : (sortK h L).Pairwise fun p q => klt q.2 p.2 = false := by
  refine List.Pairwise.imp ?_ (sort_pairwise (sortLe_total (kindKey h).toKeyOrd false fun p : Addr × Kd => (p.2 : Kd)) L)
  intro p q hpq
  have z : (!klt q.2 p.2) = true := hpq
  cases e : klt q.2 p.2 with
  | false => rfl
  | true => rw [e] at z; cases z
theorem sortVals_kinds {h : Heap} {L : List (Addr × Kd)} (x : ∀ p ∈ L, IsN h p.2 p.1) : sortVals (kindKey h) false (L.map fun p => Value.ref p.1) (L.map fun p => Value.ref p.1) = (sortK h L).map fun p => Value.ref p.1 :=
  each_eq (sortVals_each (κ := kindKey h) (fun p : Addr × Kd => (p.2 : Kd)) (each_refs L) (each_keys_of L x))

theorem sorted_setK {a : Addr} {L : List (Addr × Kd)} {es : Array (Int × Value)} {ep : Nat} {t : SetTable} {Q : Value → Shared → Prop} (R : SetKR P w s.heap a L es ep t) (hh : A.handled = none) (hu : A.units + 16 < cLine)
    (hQ : ∀ s' p (out : Array Value) (c : Nat) (L' : List (Addr × Kd)), (∀ b o, s.heap.get? b = some o → s'.heap.get? b = some o) → s'.gens = s.gens → s'.os = s.os → s.heap.objs.size ≤ p →
      s'.heap.get? p = some (seqObj "list" out c) → out.toList = L'.map (fun q => Value.ref q.1) → L'.Perm L → L'.Pairwise (fun q r => klt r.2 q.2 = false) → Q (.ref p) s') :
    wpAny (model P w) A (call (.builtin "sorted") [.ref a]) Q E s := by
  obtain ⟨o, ho, hex, hd⟩ := R.ob
  have hfew := R.few
  have hsz := R.size
  refine Calls.call_function_entry kind_sorted plain_sorted entry_sorted (args_sorted1 _) ?_
  unfold Builtin.«sorted»
  refine wpAny_bind (m := checkCount "sorted" 1 1 _) (wpAny_pure ?_)
  refine wpAny_bind (collect_set (A := A.in1) hh ⟨o, ho, hex.1, hd⟩ R.fits (by unfold scanBound; omega) R.tab.ris R.led fun s1 vs k1 hz g1 o1 pm => ?_)
  have hes : es.toList.map (·.2) = L.map fun q => Value.ref q.1 := by
    rw [R.rows]
    unfold rowsOf
    rw [List.map_map] <;> rfl
  rw [hes] at pm
  obtain ⟨L1, e1, p1⟩ : ∃ L1 : List (Addr × Kd), vs = L1.map (fun q => Value.ref q.1) ∧ L1.Perm L := by
    have key : ∀ (vs us : List Value) (L : List (Addr × Kd)), us = L.map (fun q => Value.ref q.1) → vs.Perm us → ∃ L1 : List (Addr × Kd), vs = L1.map (fun q => Value.ref q.1) ∧ L1.Perm L := by
      intro vs us L eu hp
      induction hp generalizing L with
      | nil => exact ⟨L, eu, List.Perm.refl _⟩
      | cons x _ ih =>
        cases L with
        | nil => cases eu
        | cons q L =>
          rw [List.map_cons] at eu
          injection eu with h1 h2
          obtain ⟨L1, g1, g2⟩ := ih L h2
          exact ⟨q :: L1, by rw [List.map_cons, g1, h1], g2.cons q⟩
      | swap x y l =>
        cases L with
        | nil => cases eu
        | cons q L =>
          cases L with
          | nil => rw [List.map_cons] at eu; injection eu with _ h2; cases h2
          | cons r L =>
            rw [List.map_cons, List.map_cons] at eu
            injection eu with h1 h2
            injection h2 with h2 h3
            exact ⟨r :: q :: L, by rw [List.map_cons, List.map_cons, h1, h2, h3], List.Perm.swap ..⟩
      | trans _ _ ih1 ih2 =>
        obtain ⟨L2, g1, g2⟩ := ih2 L eu
        obtain ⟨L1, f1, f2⟩ := ih1 L2 g1
        exact ⟨L1, f1, f2.trans g2⟩
    exact key vs _ L rfl pm
  have hvl : vs.length < 64 := by rw [e1, List.length_map, p1.length_eq]; exact hfew
  refine wpAny_bind (wpAny_newList ?_ (by rw [sizeLine_eq]; omega))
  have hoL : (s1.heap.push (seqObj "list" vs.toArray 0)).get? s1.heap.objs.size = some (seqObj "list" vs.toArray 0) := Heap.get?_push_size _ rfl
  have old : ∀ {b : Addr} {o : Obj}, s.heap.get? b = some o → (sortingHeap (s1.heap.push (seqObj "list" vs.toArray 0)) s1.heap.objs.size vs).get? b = some o := fun {b o} e => by
    have q := k1 b o e
    exact sortingHeap_old (Nat.ne_of_lt (Heap.lt_size q)) (Heap.get?_push_of_some _ q)
  have tk : ∀ q ∈ L1, IsN (sortingHeap (s1.heap.push (seqObj "list" vs.toArray 0)) s1.heap.objs.size vs) q.2 q.1 := fun q hq => isN_keep (R.tup q (p1.mem_iff.mp hq)) fun b u e => old e
  have S : SortsAt P w A.in1.in1 { s1 with heap := sortingHeap (s1.heap.push (seqObj "list" vs.toArray 0)) s1.heap.objs.size vs } (kindKey (sortingHeap (s1.heap.push (seqObj "list" vs.toArray 0)) s1.heap.objs.size vs)) vs :=
    SortsAt.kinds (s := { s1 with heap := sortingHeap (s1.heap.push (seqObj "list" vs.toArray 0)) s1.heap.objs.size vs }) (fun v hv => by
      rw [e1] at hv
      obtain ⟨q, hq, e⟩ := List.mem_map.mp hv
      exact ⟨q.2, q.1, e.symm, tk q hq⟩) (by rw [in1_units, in1_units]; omega)
  refine wpAny_bind (wpAny_holding (wpAny_call_entry slot_list_sort ⟨_, hoL, rfl⟩ entry_list_sort (list_sort_vals (s := { s1 with heap := s1.heap.push (seqObj "list" vs.toArray 0) }) hoL S (by rw [sizeLine_eq]; omega) ⟨_, rfl, ?_⟩) (args_list_sort _)))
  have eo := sortVals_kinds tk
  rw [← e1] at eo
  rw [eo]
  obtain ⟨c, hc⟩ := sortedHeap_at (vs := vs) (out := (List.map (fun p : Addr × Kd => Value.ref p.1) (sortK (sortingHeap (s1.heap.push (seqObj "list" vs.toArray 0)) s1.heap.objs.size vs) L1)).toArray) hoL
  refine wpAny_pure ⟨_, rfl, hQ _ s1.heap.objs.size _ c _ (fun b u e => ?_) g1 o1 hz hc rfl ((sortK_perm _ _).trans p1) (sortK_asc _ _)⟩
  have q := k1 b u e
  have hlt := Heap.lt_size q
  show (sortedHeap (s1.heap.push (seqObj "list" vs.toArray 0)) s1.heap.objs.size vs _).get? b = some u
  rw [sortedHeap_old (Nat.ne_of_lt hlt) (by rw [size_push']; exact Nat.lt_succ_of_lt hlt)]
  exact Heap.get?_push_of_some _ q
end

section
variable {X : Cx}
/-- set(xs), xs a list of kinds -/
def rSetOfK (K : PySem.W.Frag) (P : Program) (w : World) : List V → Hp → VK → Prop := fun xs H Q => ∃ (l : Addr) (ks : List (Addr × Kd)), xs = [V.ref l] ∧ SqL K H l (refs ks) ∧ AllK H ks ∧ ks.length < 64 ∧
  ∀ a L, H a = none → (∀ p ∈ L, p ∈ ks) → (∀ p ∈ ks, p.2 ∈ L.map (·.2)) → Q (.ref a) (upd H a (SetKO P w a L))
theorem cr_setOfK (hc : X.calm = true) (hu : X.A.units + 64 < cLine) : CallR X (.type "set") (rSetOfK X.K X.prog X.w) := by
  intro pins s σ H xs us Q I r h
  obtain ⟨l, ks, rfl, hl, hk, hf, q⟩ := h
  rw [Vals.ref1 r]
  obtain ⟨its, rv, pl, hz⟩ := I.list hl
  have hn : H s.heap.objs.size = none := I.hok.fresh (Nat.le_refl _)
  refine call_set_kinds (P := X.prog) (w := X.w) ks (I.ok.hd hc) pl.isList (by simpa using refs_of_vals rv) (hk.isN I.hok) hf (by omega) fun h' tk L es ep t R g k => ?_
  refine ⟨.ref s.heap.objs.size, upd H s.heap.objs.size (SetKO X.prog X.w s.heap.objs.size L), I.laid (t' := tk) k (Nat.le_refl _) (setKO_new R.t0), rfl, q _ L hn (fun p hp => ?_) fun p hp => ?_⟩
  · exact List.mem_of_mem_take (g.sub p hp)
  · exact g.all p (by rw [List.take_length]; exact hp)
/-- sorted(a set of kinds) -/
def rSortedK (P : Program) (w : World) : List V → Hp → VK → Prop := fun vs H Q => ∃ (a : Addr) (L : List (Addr × Kd)), vs = [V.ref a] ∧ H a = some (SetKO P w a L) ∧ AllK H L ∧
  ∀ (L' : List (Addr × Kd)) (p : Addr), L'.Perm L → (L'.map (·.2)).Nodup → (L'.map (·.2)).Pairwise (fun k j => klt j k = false) → H p = none → Q (.ref p) (upd H p (.lst (refs L')))
theorem cr_sortedK (hc : X.calm = true) (hu : X.A.units + 64 < cLine) : CallR X (.builtin "sorted") (rSortedK X.prog X.w) := by
  intro pins s σ H vs us Q I r h
  obtain ⟨a, L, rfl, ha, hk, q⟩ := h
  have R0 : SetK0 X.prog X.w s.heap a L := (I.hok a _ ha).1
  obtain ⟨es, ep, t, R⟩ := R0.full (hk.isN I.hok)
  rw [Vals.ref1 r]
  refine sorted_setK R (I.ok.hd hc) (by omega) fun s' p out c L' k g o hp hg hout pm pw => ?_
  have hfew : L'.length < 64 := by rw [pm.length_eq]; exact R.few
  have hlen : (refs L').length ≤ sizeLine := by rw [List.length_map, sizeLine_eq]; omega
  have hn : H p = none := I.hok.fresh hp
  have hv : Vals (refs L') out.toList := by rw [hout]; exact vals_of_refs L'
  have J : Inv X pins σ (upd H p (.lst (refs L'))) { s with heap := s'.heap, gens := s'.gens, drawn := s'.drawn, toks := s'.toks } :=
    I.call (ch := []) (Un.laid k hp hn) (I.hok.laid k hp ⟨hlen, out.toList, c, hv, hg⟩) (by rw [g]; exact I.bare) (fun _ z => nomatch z)
  have e : s' = { s with heap := s'.heap, gens := s'.gens, drawn := s'.drawn, toks := s'.toks } := by
    cases s'
    cases s
    cases o
    rfl
  rw [e]
  exact ⟨.ref p, _, J, rfl, q L' p pm ((pm.map (·.2)).nodup_iff.mpr R.nd) (List.pairwise_map.mpr pw) hn⟩
end
end KF
/-! min(xs, key=len, default=None) of a list of tuples: None where it is empty, else one of them. -/
namespace KF
open PySem PySem.Spec PyProof.Rows L2

/-- the keywords of the call, of its loop -/
abbrev mKw : List (Str × Value) := [(Str.ofString "key", .builtin "len"), (Str.ofString "default", .none)]
abbrev lKw : List (Str × Value) := [(Str.ofString "default", .none)]
theorem min_args (a : Value) : argsOk "min" ⟨[a], mKw⟩ := by unfold argsOk; kernel_rfl
section
variable {P : Program} {w : World} {A : Around} {E : Value → Shared → Prop} {s : Shared} {h0 : Heap} {l I S : Addr} {vs : List Value} {R : Result → Shared → Prop}
/-- what is known between two turns: all that stood stands, the iterator's place, what is best so far -/
structure MinAt (h0 : Heap) (l I S : Addr) (vs : List Value) (j : Nat) (h : Heap) : Prop where
  keep : ∀ b o, h0.get? b = some o → h.get? b = some o
  it : h.IsListIter I l j
  best : ∃ c, (j = 0 ∧ h.get? S = some (seqObj "list" #[] c)) ∨ (0 < j ∧ ∃ v ∈ vs, ∃ n t, h.get? S = some (seqObj "list" #[v, .int n t] c))
theorem min_loop (hh : A.handled = none) (hl : h0.IsList l vs.toArray) (hlI : l ≠ I) (hSI : S ≠ I) (hI : h0.get? I = none) (hS : h0.get? S = none) (ht : ∀ v ∈ vs, ∃ p its, v = .ref p ∧ IsTup h0 p its ∧ its.size < 2 ^ 63)
    (hR : ∀ v h' tk, ((vs = [] ∧ v = .none) ∨ v ∈ vs) → (∀ b o, h0.get? b = some o → h'.get? b = some o) → R (.ok (.ret v)) { s with heap := h', toks := tk }) :
    ∀ (r j : Nat) (h : Heap) (tk : Nat), vs.length - j = r → j ≤ vs.length → MinAt h0 l I S vs j h →
      codeAny (model P w) A (.builtin "min.loop" ⟨[.ref I, .builtin "len", .ref S], lKw⟩) R { s with heap := h, toks := tk } := by
  have hname : (toString "min" ++ toString ".loop" : String) = "min.loop" := by decide
  have W := Walks.list (prog := P) (w := w) (A := A.in1) hh I l hlI vs.toArray
  have hsz : vs.toArray.size = vs.length := List.size_toArray ..
  have keepI : ∀ {h h' : Heap}, (∀ b o, b ∉ [I] → h.get? b = some o → h'.get? b = some o) → (∀ b o, h0.get? b = some o → h.get? b = some o) → ∀ b o, h0.get? b = some o → h'.get? b = some o := fun k1 k0 b o e =>
    k1 b o (fun z => by rw [List.mem_singleton.mp z, hI] at e; cases e) (k0 b o e)
  intro r
  induction r with
  | zero =>
    intro j h tk hr hj M
    have ej : j = vs.length := by omega
    obtain ⟨c, hb⟩ := M.best
    refine codeAny_builtin PySem.F.entry_min_loop ?_
    rw [Around.under_plainId PySem.F.plain_min_loop _]
    rcases hb with ⟨e0, hS0⟩ | ⟨e0, v, hv, n, t, hS0⟩
    · show wpAny _ A.in1 (seqItems? (.ref S) >>= _) _ _ _
      refine wpAny_bind (wpAny_seqItems hS0 rfl ?_)
      show wpAny _ A.in1 (tryCatch (pyNext (.ref I)) _ >>= _) _ _ _
      refine wpAny_bind (wpAny_tryCatch (W.done _ _ _ ⟨by rw [hsz, ← ej]; exact M.it, (let ⟨o, ho, r⟩ := hl; ⟨o, M.keep _ _ ho, r⟩)⟩ fun h' tk' hk' => ?_))
      have ev : vs = [] := List.eq_nil_of_length_eq_zero (by omega)
      show wpAny _ A.in1 (rule _ >>= _) _ _ _
      refine wpAny_bind (wpAny_rule ?_)
      show wpAny _ A.in1 (ret Value.none) _ _ _
      exact wpAny_pure (hR _ _ _ (.inl ⟨ev, rfl⟩) (keepI hk' M.keep))
    · show wpAny _ A.in1 (seqItems? (.ref S) >>= _) _ _ _
      refine wpAny_bind (wpAny_seqItems hS0 rfl ?_)
      show wpAny _ A.in1 (tryCatch (pyNext (.ref I)) _ >>= _) _ _ _
      refine wpAny_bind (wpAny_tryCatch (W.done _ _ _ ⟨by rw [hsz, ← ej]; exact M.it, (let ⟨o, ho, r⟩ := hl; ⟨o, M.keep _ _ ho, r⟩)⟩ fun h' tk' hk' => ?_))
      have hS' := hk' S _ (by simpa using hSI) hS0
      have s1 := Heap.SameBut.update h' S (Obj.mapSeq fun _ => (#[] : Array Value))
      show wpAny _ A.in1 (updateSeq S (fun _ => #[]) >>= _) _ _ _
      refine wpAny_bind ?_
      refine wpAny_updateSeq hS' rfl (wpAny_bind (wpAny_letGo (wpAny_pure ?_)))
      exact hR v _ _ (.inr hv) fun b o e => (s1.2 b (fun z => by rw [z, hS] at e; cases e)).trans (keepI hk' M.keep b o e)
  | succ r ih =>
    intro j h tk hr hj M
    have hlt : j < vs.length := by omega
    obtain ⟨c, hb⟩ := M.best
    obtain ⟨xs0, hS0⟩ : ∃ xs0, h.get? S = some (seqObj "list" xs0 c) := by
      rcases hb with ⟨_, z⟩ | ⟨_, _, _, _, _, z⟩
      · exact ⟨_, z⟩
      · exact ⟨_, z⟩
    refine codeAny_builtin PySem.F.entry_min_loop ?_
    rw [Around.under_plainId PySem.F.plain_min_loop _]
    show wpAny _ A.in1 (seqItems? (.ref S) >>= _) _ _ _
    refine wpAny_bind (wpAny_seqItems hS0 rfl ?_)
    show wpAny _ A.in1 (tryCatch (pyNext (.ref I)) _ >>= _) _ _ _
    refine wpAny_bind (wpAny_tryCatch (W.item j _ _ _ (by rw [hsz]; exact hlt) ⟨M.it, (let ⟨o, ho, r⟩ := hl; ⟨o, M.keep _ _ ho, r⟩)⟩ fun v h' tk' hP hst' hk' => ?_))
    have hv : vs[j]? = some v := by simpa using hP
    have hvm : v ∈ vs := List.mem_of_getElem? hv
    have k1 := keepI hk' M.keep
    obtain ⟨p, its, rfl, hp, hz⟩ := ht v hvm
    have hS' := hk' S _ (by simpa using hSI) hS0
    show wpAny _ A.in1 (tryCatch (holding [.ref p] (call (.builtin "len") [.ref p])) _ >>= _) _ _ _
    refine wpAny_bind (wpAny_tryCatch (wpAny_holding (len_tuple (hp.keeps k1) (by omega) ?_)))
    have upd : ∀ (h2 : Heap) (x y : Value), h2 = h'.update S (Obj.mapSeq fun _ => #[x, y]) → (x ∈ vs) → (∃ n t, y = .int n t) → MinAt h0 l I S vs (j + 1) h2 := fun h2 x y e hx hy => by
      obtain ⟨n, t, rfl⟩ := hy
      have s1 := Heap.SameBut.update h' S (Obj.mapSeq fun _ => #[x, .int n t])
      obtain ⟨c2, hc2⟩ : ∃ c2, (h'.update S (Obj.mapSeq fun _ => #[x, .int n t])).get? S = some (seqObj "list" #[x, .int n t] c2) := ⟨_, get?_update_seq hS' fun _ => #[x, .int n t]⟩
      obtain ⟨oI, i1, i2, i3⟩ := hst'.1
      subst e
      exact ⟨fun b o e => (s1.2 b (fun z => by rw [z, hS] at e; cases e)).trans (k1 b o e), ⟨oI, (s1.2 I hSI.symm).trans i1, i2, i3⟩, c2, .inr ⟨Nat.succ_pos _, x, hx, n, t, hc2⟩⟩
    have same : ∀ x n t, x ∈ vs → xs0 = #[x, .int n t] → MinAt h0 l I S vs (j + 1) h' := fun x n t hx e => ⟨k1, hst'.1, c, .inr ⟨Nat.succ_pos _, x, hx, n, t, by rw [← e]; exact hS'⟩⟩
    rcases hb with ⟨e0, hE⟩ | ⟨e0, v0, hv0, n0, t0, hE⟩
    · have ex : xs0 = #[] := by
        have q := hS0.symm.trans hE
        simpa [seqObj] using q
      subst ex
      show wpAny _ A.in1 (updateSeq S (fun _ => #[.ref p, .int _ _]) >>= _) _ _ _
      refine wpAny_bind ?_
      refine wpAny_updateSeq hS' rfl ?_
      rw [hname]
      exact wpAny_pure ⟨plainId_quiet PySem.F.plain_min_loop _, ih (j + 1) _ _ (by omega) hlt (upd _ _ _ rfl hvm ⟨_, _, rfl⟩)⟩
    · have ex : xs0 = #[v0, .int n0 t0] := by
        have q := hS0.symm.trans hE
        simpa [seqObj] using q
      subst ex
      show wpAny _ A.in1 (tryCatch (holding [.ref p, .int _ _] (richCompare .Lt (.int _ _) (.int n0 t0) >>= _)) _ >>= _) _ _ _
      refine wpAny_bind (wpAny_tryCatch (wpAny_holding (wpAny_bind (PySem.P.lt_int ?_))))
      refine wpAny_bind (wpAny_holding (wpAny_truthy_bool ?_))
      refine wpAny_bind (wpAny_letGo (wpAny_pure ?_))
      by_cases hb' : ((its.size : Nat) : Int) < n0
      · simp only [hb', decide_true, if_true]
        refine wpAny_bind ?_
        refine wpAny_updateSeq hS' rfl (wpAny_bind (wpAny_letGo ?_))
        rw [hname]
        exact wpAny_pure ⟨plainId_quiet PySem.F.plain_min_loop _, ih (j + 1) _ _ (by omega) hlt (upd _ _ _ rfl hvm ⟨_, _, rfl⟩)⟩
      · simp only [hb', decide_false, Bool.false_eq_true, if_false]
        refine wpAny_bind (wpAny_letGo ?_)
        rw [hname]
        exact wpAny_pure ⟨plainId_quiet PySem.F.plain_min_loop _, ih (j + 1) _ _ (by omega) hlt (same _ _ _ hv0 rfl)⟩
theorem min_len {Q : Value → Shared → Prop} (hh : A.handled = none) (hl : s.heap.IsList l vs.toArray) (ht : ∀ v ∈ vs, ∃ p its, v = .ref p ∧ IsTup s.heap p its ∧ its.size < 2 ^ 63)
    (hQ : ∀ v h' tk, ((vs = [] ∧ v = .none) ∨ v ∈ vs) → (∀ b o, s.heap.get? b = some o → h'.get? b = some o) → Q v { s with heap := h', toks := tk }) :
    wpAny (model P w) A (call (.builtin "min") [.ref l] mKw) Q E s := by
  have hname : (toString "min" ++ toString ".loop" : String) = "min.loop" := by decide
  obtain ⟨ol, hol, _⟩ := id hl
  have hll : l < s.heap.objs.size := Heap.lt_size hol
  refine kmb_tree PySem.F.kind_min PySem.F.plain_min PySem.F.entry_min (min_args _) ?_
  show wpAny _ A.in1 (Builtin.Builtins.bindParams "min" ["key", "default"] 0 ⟨[], mKw⟩ >>= _) _ _ s
  refine wpAny_bind (wpAny_of_eq (show Builtin.Builtins.bindParams "min" ["key", "default"] 0 ⟨[], mKw⟩ = pure [some (.builtin "len"), some .none] from rfl) ?_)
  refine wpAny_bind (wpAny_pure ?_)
  refine wpAny_bind (wpAny_pyIter_list hl ?_)
  refine wpAny_bind (wpAny_newList ?_ (Nat.zero_le _))
  rw [hname]
  have hS : (s.heap.push { cls := .type "list_iterator", data := .fields #[.ref l, .int 0 0] }).objs.size = s.heap.objs.size + 1 := size_push' ..
  have hlI : l ≠ s.heap.objs.size := Nat.ne_of_lt hll
  have hSI : (s.heap.push { cls := .type "list_iterator", data := .fields #[.ref l, .int 0 0] }).objs.size ≠ s.heap.objs.size := by rw [hS]; exact Nat.ne_of_gt (Nat.lt_succ_self _)
  have gI : ((s.heap.push { cls := .type "list_iterator", data := .fields #[.ref l, .int 0 0] }).push (seqObj "list" #[] 0)).get? s.heap.objs.size = some { cls := .type "list_iterator", data := .fields #[.ref l, .int 0 0] } :=
    Heap.get?_push_of_some _ (Heap.get?_push_size _ rfl)
  have gS : ((s.heap.push { cls := .type "list_iterator", data := .fields #[.ref l, .int 0 0] }).push (seqObj "list" #[] 0)).get? (s.heap.push { cls := .type "list_iterator", data := .fields #[.ref l, .int 0 0] }).objs.size = some (seqObj "list" #[] 0) := Heap.get?_push_size _ rfl
  refine wpAny_pure ⟨plainId_quiet PySem.F.plain_min_loop _, ?_⟩
  refine min_loop (s := s) (h0 := s.heap) hh hl hlI hSI (Heap.get?_none_of_le (Nat.le_refl _)) (Heap.get?_none_of_le (by rw [hS]; exact Nat.le_succ _)) ht hQ (vs.length - 0) 0 _ _ rfl (Nat.zero_le _)
    ⟨fun b o e => Heap.get?_push_of_some _ (Heap.get?_push_of_some _ e), ⟨_, gI, rfl, rfl⟩, 0, .inl ⟨rfl, gS⟩⟩
end

/-! ### the rule -/
theorem vals_mem : ∀ {xs : List V} {us : List Value}, Vals xs us → ∀ u ∈ us, ∃ x ∈ xs, RelV x u
  | _, _, .nil, _, h => nomatch h
  | _, _, .cons r t, u, h => by
    rcases List.mem_cons.mp h with e | h
    · exact ⟨_, List.mem_cons_self, e ▸ r⟩
    · obtain ⟨x, hx, q⟩ := vals_mem t u h
      exact ⟨x, List.mem_cons_of_mem _ hx, q⟩
def tMinLen (K : PySem.W.Frag) (t : TA) : TE := fun σ H Q => t σ H fun vs H1 => ∃ l xs, vs = [V.ref l] ∧ SqL K H1 l xs ∧ (∀ y ∈ xs, ∃ p ys, y = .ref p ∧ H1 p = some (.tup ys)) ∧ (xs = [] → Q .non H1) ∧ ∀ y ∈ xs, Q y H1
theorem pe_minLen {X : Cx} {e : Expr} {t : TA} {p p1 p2 k1 k2 pos : Pos} {j : Nat} (hg : Gl X "min") (hm : X.mg "min" = none) (hg2 : Gl X "len") (hm2 : X.mg "len" = none) (hc : X.calm = true) (ha : PA X [e] t)
    (he : backTo pos (starEach [e] X.env) = (false, eval e X.env) :: backTo pos (starEach [] X.env) := by rfl) (hpl : (backTo pos (starEach [e] X.env)).any (·.1) = false := by rfl) :
    PE X (.Call (.Name "min" p) [e] [⟨some "key", .Name "len" p1, k1⟩, ⟨some "default", .Constant .none j p2, k2⟩] pos) (tMinLen X.K t) := by
  refine ⟨fun pins s σ H Q I h => ?_⟩
  refine wpAny_Call_Name_kw (ld_blt (u := .builtin "min") I hg hm (by decide +kernel) ?_)
  refine PyProof.Rows.callWith_kw (thn (ha.run pos pins s σ H _ I h) fun us s1 ⟨vs, H1, I1, r1, q1⟩ => ?_) he hpl
  obtain ⟨l, xs, rfl, hs, ht, q0, q1⟩ := q1
  obtain ⟨u, rfl, rx⟩ := vals1 r1
  cases rx
  show wpAny _ _ (evalAll ((do let v ← eval (.Name "len" p1) X.env; standAt pos; pure v) :: [(do let v ← eval (.Constant .none j p2) X.env; standAt pos; pure v)])) _ _ _
  refine wpAny_evalAll_cons (wpAny_bind (ld_blt (u := .builtin "len") I1 hg2 hm2 (by decide +kernel) (wpAny_bind (wpAny_standAt (wpAny_pure ?_)))))
  refine wpAny_evalAll_cons (wpAny_bind (PyProof.Rows.Constant_none (wpAny_bind (wpAny_standAt (wpAny_pure ?_)))))
  refine wpAny_evalAll_nil ?_
  show wpAny _ _ (call (.builtin "min") [.ref l] mKw) _ _ _
  obtain ⟨its, rv, pl, hz⟩ := I1.list hs
  refine min_len (I1.ok.hd hc) pl.isList (fun v hv => ?_) fun v h' tk hv hk => ?_
  · obtain ⟨x, hx, rx⟩ := vals_mem rv v hv
    obtain ⟨p, ys, rfl, hp⟩ := ht x hx
    cases rx
    obtain ⟨hsz, its', r', tp⟩ := I1.hok p _ hp
    refine ⟨p, _, rfl, tp, ?_⟩
    rw [List.size_toArray, ← r'.length]
    have := line63
    omega
  · rcases hv with ⟨e1, rfl⟩ | hv
    · subst e1
      have e2 : xs = [] := List.eq_nil_of_length_eq_zero rv.length
      exact ⟨.non, H1, I1.kept hk, rfl, q0 e2⟩
    · obtain ⟨x, hx, rx⟩ := vals_mem rv v hv
      exact ⟨x, H1, I1.kept hk, rx, q1 x hx⟩
end KF
/-! sorted(d) of a dict whose keys are tuples of texts (one text at least): its keys, in some order. -/
namespace KF
open PySem PySem.Spec PyProof.Rows L2 PySem.W

theorem alike_texts : ∀ xs ys : List Str, alikeAll (xs.map .str) (ys.map .str) = true
  | [], _ => by simp [alikeAll]
  | _ :: _, [] => by simp [alikeAll]
  | x :: xs, y :: ys => by
    show alikeAll (.str x :: xs.map .str) (.str y :: ys.map .str) = true
    rw [alikeAll, alike_texts xs ys]
    simp [alike]
theorem depth_texts : ∀ xs : List Str, PyData.depthAll (xs.map .str) = 0
  | [] => by simp [PyData.depthAll]
  | x :: xs => by
    show PyData.depthAll (.str x :: xs.map .str) = 0
    rw [PyData.depthAll, depth_texts xs]
    simp [PyData.depth]
abbrev tD (t : List Str) : PyData := .tuple (t.map .str)
theorem reads_texts {h : Heap} : ∀ {t : List Str} {us : List Value}, Vals (t.map V.str) us → ReadsAll h us (t.map .str) []
  | [], _, .nil => .nil
  | x :: t, _, .cons r q => by
    obtain ⟨tk, rfl⟩ := r
    exact ReadsAll.cons (as := []) (bs := []) (.str _ _) (reads_texts q)
theorem each_refsT : ∀ L : List (Addr × List Str), EachIs (fun v (p : Addr × List Str) => v = Value.ref p.1) (L.map fun p => Value.ref p.1) L
  | [] => .nil
  | _ :: L => .cons rfl (each_refsT L)
theorem each_eqT : ∀ {vs : List Value} {L : List (Addr × List Str)}, EachIs (fun v (p : Addr × List Str) => v = Value.ref p.1) vs L → vs = L.map fun p => Value.ref p.1
  | _, _, .nil => rfl
  | _, _, .cons h t => by rw [h, each_eqT t]; rfl
theorem each_of_all {R : Value → List Str → Prop} : ∀ L : List (Addr × List Str), (∀ p ∈ L, R (.ref p.1) p.2) → EachIs (fun v (p : Addr × List Str) => R v p.2) (L.map fun p => Value.ref p.1) L
  | [], _ => .nil
  | p :: L, h => .cons (h p List.mem_cons_self) (each_of_all L fun q hq => h q (List.mem_cons_of_mem _ hq))
/-- the tuple of the texts t stands at a -/
def TxtsAt (h : Heap) (t : List Str) (v : Value) : Prop := ∃ as, Reads h v (tD t) as
section
variable {P : Program} {w : World} {A : Around} {E : Value → Shared → Prop} {s : Shared}
/-- list.sort of tuples of texts -/
theorem sort_txts {a : Addr} {L : List (Addr × List Str)} {n : Nat} {R : PySem.Fin → Shared → Prop} (ho : s.heap.get? a = some (seqObj "list" (L.map fun p => Value.ref p.1).toArray n)) (hL : L.length ≤ sizeLine) (hu : A.units + 4 < cLine) (hne : ∀ p ∈ L, p.2 ≠ [])
    (ht : ∀ p ∈ L, TxtsAt (sortingHeap s.heap a (L.map fun p => Value.ref p.1)) p.2 (.ref p.1))
    (h : ∀ L' : List (Addr × List Str), L'.Perm L → R (.done (.ret .none)) { s with heap := sortedHeap s.heap a (L.map fun p => Value.ref p.1) (L'.map fun p => Value.ref p.1).toArray }) :
    wpAny (model P w) A (Builtin.«list.sort» ⟨[.ref a], []⟩) R E s := by
  have hal : AllAlike (L.map fun p => tD p.2) := AllAlike.of fun b b' => by
    show alikeAll _ _ = true
    exact alike_texts _ _
  have hk : Sortable (L.map fun p => tD p.2) := .inl fun d hd => by
    obtain ⟨p, hp, rfl⟩ := List.mem_map.mp hd
    cases e : p.2 with
    | nil => exact absurd e (hne p hp)
    | cons x r => exact ⟨.str x, r.map .str, rfl⟩
  have er : EachIs (fun v (p : Addr × List Str) => ∃ as, Reads (sortingHeap s.heap a (L.map fun p => Value.ref p.1)) v (tD p.2) as) (L.map fun p => Value.ref p.1) L :=
    each_of_all (R := fun (v : Value) (t : List Str) => TxtsAt (sortingHeap s.heap a (L.map fun (p : Addr × List Str) => Value.ref p.1)) t v) L ht
  have S : SortsAt P w A { s with heap := sortingHeap s.heap a (L.map fun p => Value.ref p.1) } (dataKind (sortingHeap s.heap a (L.map fun p => Value.ref p.1)) (L.map fun p => tD p.2)) (L.map fun p => Value.ref p.1) :=
    SortsAt.data (s := { s with heap := sortingHeap s.heap a (L.map fun p => Value.ref p.1) }) (each_map (R := fun v d => ∃ as, Reads (sortingHeap s.heap a (L.map fun p => Value.ref p.1)) v d as) (fun p : Addr × List Str => tD p.2) er) hal hk fun d hd => by
      obtain ⟨p, hp, rfl⟩ := List.mem_map.mp hd
      show A.units + PyData.depth (.tuple (p.2.map .str)) < cLine
      rw [PyData.depth, depth_texts]
      omega
  have eq := sortVals_data (R := fun v (p : Addr × List Str) => v = Value.ref p.1) (h' := sortingHeap s.heap a (L.map fun p => Value.ref p.1)) (enc := fun p : Addr × List Str => tD p.2) false (each_refsT L) er hal
  have eo := each_eqT eq
  refine list_sort_vals ho S (by rw [List.length_map]; exact hL) ?_
  rw [eo]
  exact h _ (List.mergeSort_perm _ _)
theorem call_sort_txts {a : Addr} {L : List (Addr × List Str)} {n : Nat} {Q : Value → Shared → Prop} (ho : s.heap.get? a = some (seqObj "list" (L.map fun p => Value.ref p.1).toArray n)) (hL : L.length ≤ sizeLine) (hu : A.units + 5 < cLine) (hne : ∀ p ∈ L, p.2 ≠ [])
    (ht : ∀ p ∈ L, TxtsAt (sortingHeap s.heap a (L.map fun p => Value.ref p.1)) p.2 (.ref p.1))
    (h : ∀ L' : List (Addr × List Str), L'.Perm L → Q .none { s with heap := sortedHeap s.heap a (L.map fun p => Value.ref p.1) (L'.map fun p => Value.ref p.1).toArray }) :
    wpAny (model P w) A (call (.builtin "list.sort") [.ref a]) Q E s :=
  wpAny_call_entry PyProof.Rows.slot_list_sort ⟨_, ho, rfl⟩ PyProof.Rows.entry_list_sort (sort_txts ho hL (by rw [show A.in1.units = A.units + 1 from rfl]; omega) hne ht fun L' pm => ⟨_, rfl, h L' pm⟩) (PyProof.Rows.args_list_sort _)
end

/-! ### the rule -/
theorem dt_list {P : Program} {w : World} {H : Hp} : ∀ {kvs : List (List Key × V)} {xs : List (List Key × Addr × Value)} {ts : List (List Str)},
    Paired (fun (p : List Key × V) (q : List Key × Addr × Value) => p.1 = q.1 ∧ H q.2.1 = some (.tup (p.1.map kV)) ∧ RelV p.2 q.2.2) kvs xs → kvs.map (·.1) = ts.map (·.map Sum.inr) →
    ∃ L : List (Addr × List Str), L.map (·.2) = ts ∧ xs.map (fun q => Value.ref q.2.1) = L.map (fun p => Value.ref p.1) ∧ ∀ p ∈ L, H p.1 = some (.tup (p.2.map V.str))
  | [], _, ts, .nil, e => by
    cases ts with
    | nil => exact ⟨[], rfl, rfl, fun p h => nomatch h⟩
    | cons t ts => cases e
  | kv :: kvs, _, ts, .cons (b := x) r q, e => by
    cases ts with
    | nil => cases e
    | cons t ts =>
      rw [List.map_cons, List.map_cons] at e
      injection e with e1 e2
      obtain ⟨L, l1, l2, l3⟩ := dt_list (P := P) (w := w) q e2
      refine ⟨(x.2.1, t) :: L, by rw [List.map_cons, l1], by rw [List.map_cons, List.map_cons, l2], fun p hp => ?_⟩
      rcases List.mem_cons.mp hp with z | hp
      · rw [z]
        have e3 := r.2.1
        rw [e1, List.map_map] at e3
        exact e3
      · exact l3 p hp
section
variable {X : Cx}
def rSortedDT : List V → Hp → VK → Prop := fun xs H Q => ∃ (a : Addr) (kvs : List (List Key × V)) (ts : List (List Str)), xs = [V.ref a] ∧ H a = some (.dT kvs) ∧ kvs.map (·.1) = ts.map (·.map Sum.inr) ∧ (∀ t ∈ ts, t ≠ []) ∧
  ∀ (L : List (Addr × List Str)) (p : Addr), (L.map (·.2)).Perm ts → (∀ q ∈ L, H q.1 = some (.tup (q.2.map V.str))) → H p = none → Q (.ref p) (upd H p (.lst (L.map fun q => V.ref q.1)))
theorem vals_refsT : ∀ L : List (Addr × List Str), Vals (L.map fun p => V.ref p.1) (L.map fun p => Value.ref p.1)
  | [] => .nil
  | _ :: L => .cons rfl (vals_refsT L)
theorem cr_sortedDT (hc : X.calm = true) (hu : X.A.units + 64 < cLine) : CallR X (.builtin "sorted") rSortedDT := by
  intro pins s σ H xs us Q I r q
  obtain ⟨a, kvs, ts, rfl, hd, hks, hne, q⟩ := q
  rw [Vals.ref1 r]
  obtain ⟨hz, lo, ent, rel, o, es, ep, ho, hex, hdat, hes, hnd⟩ := I.hok a _ hd
  obtain ⟨L, l1, l2, l3⟩ := dt_list (P := X.prog) (w := X.w) rel hks
  have hsz : es.size = L.length := by
    have h1 := congrArg List.length hes
    have h2 := congrArg List.length l2
    rw [List.length_map] at h1
    rw [List.length_map, List.length_map] at h2
    rw [← Array.length_toList, h1, h2]
  have hLz : L.length ≤ sizeLine := by
    have h1 := congrArg List.length l1
    have h2 := congrArg List.length hks
    rw [List.length_map] at h1
    rw [List.length_map, List.length_map] at h2
    omega
  refine Calls.call_function_entry PyProof.Rows.kind_sorted PyProof.Rows.plain_sorted PyProof.Rows.entry_sorted (PyProof.Rows.args_sorted1 _) ?_
  unfold Builtin.«sorted»
  refine wpAny_bind (m := checkCount "sorted" 1 1 _) (wpAny_pure ?_)
  refine wpAny_bind (PySem.W.kdu_collect (A := X.A.in1) (KdlSrc.rawDict (es := es) (ep := ep) lo) (I.ok.hd hc) (show s.heap.DictRaw a es ep from ⟨o, ho, hex, hdat⟩) (Nat.le_trans (Nat.le_of_eq hsz) hLz) fun h' tk acc hk hacc => ?_)
  have hal : acc.toList = L.map fun p => Value.ref p.1 := by
    rw [← l2]
    apply List.ext_getElem?
    intro i
    by_cases hi : i < es.size
    · have hia : i < acc.size := by rw [hacc.1]; exact hi
      have e1 : acc[i]? = some acc[i] := Array.getElem?_eq_getElem hia
      obtain ⟨hi2, ev⟩ := hacc.2 i _ e1
      rw [Array.getElem?_toList, e1, ev]
      have e2 : es.toList[i]? = some es[i] := by rw [Array.getElem?_toList]; exact Array.getElem?_eq_getElem hi
      rw [hes, List.getElem?_map] at e2
      cases e3 : ent[i]? with
      | none => rw [e3] at e2; cases e2
      | some x =>
        rw [e3] at e2
        have e4 : entryOfKey (tupleKind (mixKind X.prog X.w)) x = es[i] := Option.some.inj e2
        rw [List.getElem?_map, e3, ← e4]
        rfl
    · have e1 : acc.toList[i]? = none := List.getElem?_eq_none_iff.mpr (by rw [Array.length_toList, hacc.1]; omega)
      have h1 := congrArg List.length hes
      rw [List.length_map, Array.length_toList] at h1
      rw [e1]
      exact (List.getElem?_eq_none_iff.mpr (by rw [List.length_map]; omega)).symm
  have I1 : Inv X pins σ H { s with heap := h', toks := tk } := I.kept hk
  have hvl : (L.map fun p : Addr × List Str => Value.ref p.1).length ≤ sizeLine := by rw [List.length_map]; exact hLz
  rw [hal]
  refine wpAny_bind (wpAny_newList ?_ hvl)
  have hoL : (h'.push (seqObj "list" (L.map fun p => Value.ref p.1).toArray 0)).get? h'.objs.size = some (seqObj "list" (L.map fun p => Value.ref p.1).toArray 0) := Heap.get?_push_size _ rfl
  have old : ∀ b o, h'.get? b = some o → (h'.push (seqObj "list" (L.map fun p => Value.ref p.1).toArray 0)).get? b = some o := fun b o e => Heap.get?_push_of_some _ e
  have hsz2 : (h'.push (seqObj "list" (L.map fun p => Value.ref p.1).toArray 0)).objs.size = h'.objs.size + 1 := size_push' ..
  generalize h'.push (seqObj "list" (L.map fun p => Value.ref p.1).toArray 0) = h2 at hoL old hsz2 ⊢
  have I2 : Inv X pins σ H { s with heap := h2, toks := tk } := I1.kept old
  have tx : ∀ p ∈ L, TxtsAt (sortingHeap h2 h'.objs.size (L.map fun p => Value.ref p.1)) p.2 (.ref p.1) := fun p hp => by
    obtain ⟨_, its, r', o', ho', hc', n, hd'⟩ := I1.hok p.1 _ (l3 p hp)
    have g1 : (sortingHeap h2 h'.objs.size (L.map fun p => Value.ref p.1)).get? p.1 = some o' := sortingHeap_old (Nat.ne_of_lt (Heap.lt_size ho')) (old _ _ ho')
    exact ⟨[], .tuple g1 hc' hd' (by simpa using reads_texts r')⟩
  have hn : H h'.objs.size = none := I1.hok.fresh (Nat.le_refl _)
  refine wpAny_bind (wpAny_holding ?_)
  refine call_sort_txts (s := { s with heap := h2, toks := tk }) hoL hLz (by rw [show X.A.in1.units = X.A.units + 1 from rfl]; omega) (fun p hp => hne _ (by rw [← l1]; exact List.mem_map.mpr ⟨p, hp, rfl⟩)) tx fun L' pm => ?_
  obtain ⟨e', he'⟩ := PyProof.Rows.sortedHeap_at (vs := L.map fun p => Value.ref p.1) (out := (L'.map fun p => Value.ref p.1).toArray) hoL
  have old2 : ∀ b u, h'.get? b = some u → (sortedHeap h2 h'.objs.size (L.map fun p => Value.ref p.1) (L'.map fun p => Value.ref p.1).toArray).get? b = some u := fun b u e1 => by
    have hb : b < h'.objs.size := Heap.lt_size e1
    rw [PyProof.Rows.sortedHeap_old (Nat.ne_of_lt hb) (by rw [hsz2]; exact Nat.lt_succ_of_lt hb)]
    exact old _ _ e1
  generalize sortedHeap h2 h'.objs.size (L.map fun p => Value.ref p.1) (L'.map fun p => Value.ref p.1).toArray = h3 at he' old2 ⊢
  refine wpAny_pure ⟨_, rfl, ?_⟩
  exact ⟨.ref h'.objs.size, upd H h'.objs.size (.lst (L'.map fun p => V.ref p.1)), I1.laid (t' := tk) old2 (Nat.le_refl _) ⟨by rw [List.length_map, pm.length_eq]; exact hLz, L'.map fun p => Value.ref p.1, e', vals_refsT L', he'⟩, rfl,
    q L' _ (by rw [← l1]; exact pm.map _) (fun p hp => l3 p (pm.mem_iff.mp hp)) hn⟩
end
end KF
/-! Kinds, rooms, tuples of texts as data: what == answers. -/
namespace KF
open PySem PySem.Spec PyProof.Rows L2 PySem.W

def dat : Kd → PyData
  | .one => .tuple [.str sOne]
  | .mk m => .tuple [.str sMark, .str m]
  | .to a b => .tuple [.str sTo, dat a, dat b]
  | .both a b => .tuple [.str sBoth, dat a, dat b]
theorem strOk_of {x : Str} (h : ∀ c ∈ x.cps.toList, c < 1114112) : PyData.strOk x = true := by
  unfold PyData.strOk
  rw [← Array.all_toList, List.all_eq_true]
  intro c hc
  exact decide_eq_true (h c hc)
theorem ok_words : PyData.strOk sOne = true ∧ PyData.strOk sMark = true ∧ PyData.strOk sTo = true ∧ PyData.strOk sBoth = true := by decide +kernel
theorem WfM.ok {m : Str} (h : WfM m) : PyData.strOk m = true := strOk_of fun c hc => by have := (h.2 c hc).2; omega
theorem dat_lay : ∀ {k : Kd}, Wf k → (dat k).canLay0 = true
  | .one, _ => by simp [dat, PyData.canLay0, PyData.canLayAll0, ok_words]
  | .mk m, h => by simp [dat, PyData.canLay0, PyData.canLayAll0, ok_words, h.1.ok]
  | .to a b, h => by simp [dat, PyData.canLay0, PyData.canLayAll0, ok_words, dat_lay h.1, dat_lay h.2]
  | .both a b, h => by simp [dat, PyData.canLay0, PyData.canLayAll0, ok_words, dat_lay h.1, dat_lay h.2]
/-- a kind that the program meets -/
def Good (k : Kd) : Prop := Wf k ∧ leaves k ≤ 8
theorem dat_depth : ∀ k : Kd, (dat k).depth ≤ leaves k
  | .one => by simp [dat, PyData.depth, PyData.depthAll, leaves]
  | .mk m => by simp [dat, PyData.depth, PyData.depthAll, leaves]
  | .to a b => by
    have h1 := dat_depth a
    have h2 := dat_depth b
    have h3 := leaves_pos a
    have h4 := leaves_pos b
    simp only [dat, PyData.depth, PyData.depthAll, leaves]
    omega
  | .both a b => by
    have h1 := dat_depth a
    have h2 := dat_depth b
    have h3 := leaves_pos a
    have h4 := leaves_pos b
    simp only [dat, PyData.depth, PyData.depthAll, leaves]
    omega
theorem dat_shaped {k : Kd} (h : Good k) : SeqAt.shaped (dat k) = true := by
  have := dat_depth k
  have := h.2
  unfold SeqAt.shaped
  rw [dat_lay h.1, Bool.true_and, decide_eq_true_eq]
  omega
theorem dat_eqv : ∀ k j : Kd, PyData.eqv (dat k) (dat j) = decide (k = j)
  | .one, .one => by simp [dat, PyData.eqv, PyData.eqvAll]
  | .one, .mk _ => by rw [dat, dat, PyData.eqv, SeqAt.eqvAll_other_length (by simp)]; simp
  | .one, .to _ _ => by rw [dat, dat, PyData.eqv, SeqAt.eqvAll_other_length (by simp)]; simp
  | .one, .both _ _ => by rw [dat, dat, PyData.eqv, SeqAt.eqvAll_other_length (by simp)]; simp
  | .mk _, .one => by rw [dat, dat, PyData.eqv, SeqAt.eqvAll_other_length (by simp)]; simp
  | .mk m, .mk m' => by
    rw [dat, dat, PyData.eqv, PyData.eqvAll, PyData.eqvAll, PyData.eqvAll, PyData.eqv, PyData.eqv]
    by_cases e : m = m' <;> simp [e]
  | .mk _, .to _ _ => by rw [dat, dat, PyData.eqv, SeqAt.eqvAll_other_length (by simp)]; simp
  | .mk _, .both _ _ => by rw [dat, dat, PyData.eqv, SeqAt.eqvAll_other_length (by simp)]; simp
  | .to _ _, .one => by rw [dat, dat, PyData.eqv, SeqAt.eqvAll_other_length (by simp)]; simp
  | .to _ _, .mk _ => by rw [dat, dat, PyData.eqv, SeqAt.eqvAll_other_length (by simp)]; simp
  | .to a b, .to a' b' => by
    have h1 := dat_eqv a a'
    have h2 := dat_eqv b b'
    simp [dat, PyData.eqv, PyData.eqvAll, h1, h2]
  | .to a b, .both a' b' => by
    rw [dat, dat, PyData.eqv, PyData.eqvAll, PyData.eqv, beq_eq_false_iff_ne.mpr to_ne_both, Bool.false_and]
    simp
  | .both _ _, .one => by rw [dat, dat, PyData.eqv, SeqAt.eqvAll_other_length (by simp)]; simp
  | .both _ _, .mk _ => by rw [dat, dat, PyData.eqv, SeqAt.eqvAll_other_length (by simp)]; simp
  | .both a b, .to a' b' => by
    rw [dat, dat, PyData.eqv, PyData.eqvAll, PyData.eqv, beq_eq_false_iff_ne.mpr to_ne_both.symm, Bool.false_and]
    simp
  | .both a b, .both a' b' => by
    have h1 := dat_eqv a a'
    have h2 := dat_eqv b b'
    simp [dat, PyData.eqv, PyData.eqvAll, h1, h2]
theorem KAt.dp {K : PySem.W.Frag} {H : Hp} : ∀ {k : Kd} {a : Addr}, KAt H k a → Dp K H (.ref a) (dat k)
  | .one, _, h => .tup (SqT.of h) (.cons (.str _) .nil)
  | .mk _, _, h => .tup (SqT.of h) (.cons (.str _) (.cons (.str _) .nil))
  | .to _ _, _, ⟨_, _, h, hp, hq⟩ => .tup (SqT.of h) (.cons (.str _) (.cons hp.dp (.cons hq.dp .nil)))
  | .both _ _, _, ⟨_, _, h, hp, hq⟩ => .tup (SqT.of h) (.cons (.str _) (.cons hp.dp (.cons hq.dp .nil)))
theorem dps {K : PySem.W.Frag} {H : Hp} : ∀ {ks : List (Addr × Kd)}, AllK H ks → DpAll K H (refs ks) (ks.map fun p => dat p.2)
  | [], _ => .nil
  | p :: ks, h => .cons (h p List.mem_cons_self).1.dp (dps fun q hq => h q (List.mem_cons_of_mem _ hq))
theorem dats_lay : ∀ {ks : List Kd}, (∀ k ∈ ks, Good k) → PyData.canLayAll0 (ks.map dat) = true
  | [], _ => by simp [PyData.canLayAll0]
  | k :: ks, h => by
    have h1 := dat_lay (h k List.mem_cons_self).1
    have h2 := dats_lay (ks := ks) fun j hj => h j (List.mem_cons_of_mem _ hj)
    rw [List.map_cons, PyData.canLayAll0, h1, h2]
    rfl
theorem dats_depth : ∀ {ks : List Kd}, (∀ k ∈ ks, Good k) → PyData.depthAll (ks.map dat) ≤ 8
  | [], _ => by simp [PyData.depthAll]
  | k :: ks, h => by
    have h1 := dat_depth k
    have h2 := (h k List.mem_cons_self).2
    have h3 := dats_depth (ks := ks) fun j hj => h j (List.mem_cons_of_mem _ hj)
    rw [List.map_cons, PyData.depthAll]
    omega
theorem dats_shaped {ks : List Kd} (h : ∀ k ∈ ks, Good k) : SeqAt.shaped (.list (ks.map dat)) = true := by
  have := dats_depth h
  unfold SeqAt.shaped
  rw [PyData.canLay0, dats_lay h, Bool.true_and, decide_eq_true_eq, PyData.depth]
  omega
theorem dats_eqv : ∀ ks js : List Kd, PyData.eqvAll (ks.map dat) (js.map dat) = decide (ks = js)
  | [], [] => by simp [PyData.eqvAll]
  | [], _ :: _ => by simp [PyData.eqvAll]
  | _ :: _, [] => by simp [PyData.eqvAll]
  | k :: ks, j :: js => by
    have ih := dats_eqv ks js
    simp [PyData.eqvAll, dat_eqv, ih]
theorem dats_any (k : Kd) : ∀ ks : List Kd, (ks.map dat).any (fun z => PyData.eqv z (dat k)) = decide (k ∈ ks)
  | [] => by simp
  | j :: ks => by
    have ih := dats_any k ks
    rw [List.map_cons, List.any_cons, ih, dat_eqv]
    by_cases e : j = k
    · subst e; simp
    · have e' : ¬ k = j := fun z => e z.symm
      simp [e, e']
/-! rooms -/
def roomD (r : List Kd × Str) : PyData := .tuple [.list (r.1.map dat), .str r.2]
theorem roomD_eqv (r r' : List Kd × Str) : PyData.eqv (roomD r) (roomD r') = decide (r = r') := by
  obtain ⟨S, m⟩ := r
  obtain ⟨S', m'⟩ := r'
  simp only [roomD, PyData.eqv, PyData.eqvAll, dats_eqv, Bool.and_true]
  by_cases e : S = S' <;> by_cases e2 : m = m' <;> simp [e, e2]
theorem roomD_shaped {r : List Kd × Str} (hm : WfM r.2) (h : ∀ k ∈ r.1, Good k) : SeqAt.shaped (roomD r) = true := by
  have := dats_depth h
  unfold SeqAt.shaped
  have e1 : (roomD r).canLay0 = true := by simp [roomD, PyData.canLay0, PyData.canLayAll0, dats_lay h, hm.ok]
  have e2 : (roomD r).depth ≤ 64 := by
    simp only [roomD, PyData.depth, PyData.depthAll]
    omega
  rw [e1, Bool.true_and, decide_eq_true_eq]
  exact e2
theorem roomDs_shaped : ∀ {rs : List (List Kd × Str)}, (∀ r ∈ rs, WfM r.2 ∧ ∀ k ∈ r.1, Good k) → SeqAt.shaped (.list (rs.map roomD)) = true := by
  intro rs h
  have key : ∀ l : List (List Kd × Str), (∀ r ∈ l, WfM r.2 ∧ ∀ k ∈ r.1, Good k) → PyData.canLayAll0 (l.map roomD) = true ∧ PyData.depthAll (l.map roomD) ≤ 20 := by
    intro l
    induction l with
    | nil => intro _; simp [PyData.canLayAll0, PyData.depthAll]
    | cons r l ih =>
      intro h
      obtain ⟨i1, i2⟩ := ih fun q hq => h q (List.mem_cons_of_mem _ hq)
      have hr := h r List.mem_cons_self
      have d := dats_depth hr.2
      rw [List.map_cons, PyData.canLayAll0, PyData.depthAll, i1]
      refine ⟨?_, ?_⟩
      · simp [roomD, PyData.canLay0, PyData.canLayAll0, dats_lay hr.2, hr.1.ok]
      · simp only [roomD, PyData.depth, PyData.depthAll]
        omega
  obtain ⟨k1, k2⟩ := key rs h
  unfold SeqAt.shaped
  rw [PyData.canLay0, k1, Bool.true_and, decide_eq_true_eq, PyData.depth]
  omega
theorem roomDs_any (r : List Kd × Str) : ∀ rs : List (List Kd × Str), (rs.map roomD).any (fun z => PyData.eqv z (roomD r)) = decide (r ∈ rs)
  | [] => by simp
  | j :: ks => by
    have ih := roomDs_any r ks
    rw [List.map_cons, List.any_cons, ih, roomD_eqv]
    by_cases e : j = r
    · subst e; simp
    · have e' : ¬ r = j := fun z => e z.symm
      simp [e, e']
/-! tuples of texts -/
theorem txts_eqv : ∀ ts us : List Str, PyData.eqvAll (ts.map .str) (us.map .str) = decide (ts = us)
  | [], [] => by simp [PyData.eqvAll]
  | [], _ :: _ => by simp [PyData.eqvAll]
  | _ :: _, [] => by simp [PyData.eqvAll]
  | k :: ks, j :: js => by
    have ih := txts_eqv ks js
    simp only [List.map_cons, PyData.eqvAll, PyData.eqv, ih]
    by_cases e : k = j <;> by_cases e2 : ks = js <;> simp [e, e2]
theorem tD_eqv (ts us : List Str) : PyData.eqv (tD ts) (tD us) = decide (ts = us) := by
  rw [PyData.eqv, txts_eqv]
/-- texts of signs that Python has -/
def OkT (ts : List Str) : Prop := ∀ t ∈ ts, PyData.strOk t = true
theorem txts_lay : ∀ {ts : List Str}, OkT ts → PyData.canLayAll0 (ts.map .str) = true
  | [], _ => by simp [PyData.canLayAll0]
  | k :: ks, h => by
    have h1 := h k List.mem_cons_self
    have h2 := txts_lay (ts := ks) fun j hj => h j (List.mem_cons_of_mem _ hj)
    rw [List.map_cons, PyData.canLayAll0, h2, PyData.canLay0, h1]
    rfl
theorem tD_shaped {ts : List Str} (h : OkT ts) : SeqAt.shaped (tD ts) = true := by
  unfold SeqAt.shaped
  rw [PyData.canLay0, txts_lay h, Bool.true_and, decide_eq_true_eq, PyData.depth, depth_texts]
  omega
theorem tDs_shaped {l : List (List Str)} (h : ∀ t ∈ l, OkT t) : SeqAt.shaped (.list (l.map tD)) = true := by
  have key : ∀ l : List (List Str), (∀ t ∈ l, OkT t) → PyData.canLayAll0 (l.map tD) = true ∧ PyData.depthAll (l.map tD) ≤ 1 := by
    intro l
    induction l with
    | nil => intro _; simp [PyData.canLayAll0, PyData.depthAll]
    | cons t l ih =>
      intro h
      have ih := ih fun q hq => h q (List.mem_cons_of_mem _ hq)
      rw [List.map_cons, PyData.canLayAll0, PyData.depthAll, ih.1, PyData.canLay0, txts_lay (h t List.mem_cons_self), PyData.depth, depth_texts]
      refine ⟨rfl, ?_⟩
      have := ih.2
      omega
  obtain ⟨k1, k2⟩ := key l h
  unfold SeqAt.shaped
  rw [PyData.canLay0, k1, Bool.true_and, decide_eq_true_eq, PyData.depth]
  omega
theorem tDs_any (t : List Str) : ∀ l : List (List Str), (l.map tD).any (fun z => PyData.eqv z (tD t)) = decide (t ∈ l)
  | [] => by simp
  | j :: ks => by
    have ih := tDs_any t ks
    rw [List.map_cons, List.any_cons, ih, tD_eqv]
    by_cases e : j = t
    · subst e; simp
    · have e' : ¬ t = j := fun z => e z.symm
      simp [e, e']
theorem dp_txts {K : PySem.W.Frag} {H : Hp} {a : Addr} {ts : List Str} (h : H a = some (.tup (ts.map V.str))) : Dp K H (.ref a) (tD ts) := by
  refine .tup (SqT.of h) ?_
  have key : ∀ l : List Str, DpAll K H (l.map V.str) (l.map .str) := by
    intro l
    induction l with
    | nil => exact .nil
    | cons x l ih => exact .cons (.str _) ih
  exact key ts
theorem sh_ascii : ∀ {k : Kd}, Wf k → ∀ c ∈ sh k, c < 128
  | .one, _, c, h => by rw [List.mem_singleton.mp h]; decide
  | .mk m, w, c, h => by have := (w.1.2 c h).2; omega
  | .to a b, w, c, h => by
    simp only [sh, List.mem_append, List.mem_cons, List.not_mem_nil, or_false] at h
    rcases h with ((((((h | h) | h) | h) | h) | h) | h)
    · omega
    · exact sh_ascii w.1 c h
    · omega
    · omega
    · omega
    · exact sh_ascii w.2 c h
    · omega
  | .both a b, w, c, h => by
    simp only [sh, List.mem_append, List.mem_cons, List.not_mem_nil, or_false] at h
    rcases h with ((((((h | h) | h) | h) | h) | h) | h)
    · omega
    · exact sh_ascii w.1 c h
    · omega
    · omega
    · omega
    · exact sh_ascii w.2 c h
    · omega
theorem txt_ok {k : Kd} (h : Wf k) : PyData.strOk (txt k) = true := strOk_of fun c hc => by
  rw [txt_sh] at hc
  have := sh_ascii h c hc
  omega
end KF
/-! The text by places, the names of each def, what the top leaves. -/
namespace KF
open PySem PySem.Spec PyProof.Rows L2

def top (i : Nat) : Stmt := PySem.Challenge.pw_kindfill_k40_whole_one_of_both.main.body.getD i (.Pass ⟨0, 0, 0, 0⟩)
abbrev sEnds : Stmt := top 2
abbrev sWays : Stmt := top 3
abbrev sShown : Stmt := top 5
abbrev sInit : Stmt := inClass (top 7) 0
abbrev sMore : Stmt := inClass (top 7) 1
abbrev sHad : Stmt := inClass (top 7) 2
abbrev sHadMore : Stmt := inClass (top 7) 3
abbrev sFirst : Stmt := inClass (top 7) 4
abbrev sLack : Stmt := inClass (top 7) 5
abbrev sTree : Stmt := inClass (top 7) 6
abbrev sBarring : Stmt := top 8
abbrev sPool : Stmt := top 10
abbrev sTake : Stmt := top 11
abbrev sMarks : Stmt := top 12
abbrev sKind : Stmt := top 13
abbrev sRow : Stmt := top 14
abbrev sLEnds : Stmt := top 15
abbrev sLWays : Stmt := top 16
abbrev sHas : Stmt := top 17
abbrev sLHad : Stmt := top 18
abbrev sLaw : Stmt := top 19

abbrev nEnds : List Str := ["kind", "taken", "mark"]
theorem scEnds : FnScope nEnds ["kind"] (defScope sEnds) := ⟨rfl, rfl, rfl, by decide +kernel, rfl, by decide +kernel, by decide +kernel⟩
abbrev nWays : List Str := ["kind", "found", "moves", "mark"]
theorem scWays : FnScope nWays ["kind"] (defScope sWays) := ⟨rfl, rfl, rfl, by decide +kernel, rfl, by decide +kernel, by decide +kernel⟩
abbrev nShown : List Str := ["kind", "sign"]
theorem scShown : FnScope nShown ["kind"] (defScope sShown) := ⟨rfl, rfl, rfl, by decide +kernel, rfl, by decide +kernel, by decide +kernel⟩
abbrev nInit : List Str := ["self"]
theorem scInit : FnScope nInit ["self"] (defScope sInit) := ⟨rfl, rfl, rfl, by decide +kernel, rfl, by decide +kernel, by decide +kernel⟩
abbrev nMore : List Str := ["self", "texts", "some", "more", "text", "kind"]
theorem scMore : FnScope nMore ["self", "texts", "some"] (defScope sMore) := ⟨rfl, rfl, rfl, by decide +kernel, rfl, by decide +kernel, by decide +kernel⟩
abbrev nHad : List Str := ["self", "texts", "marks", "again"]
theorem scHad : FnScope nHad ["self", "texts"] (defScope sHad) := ⟨rfl, rfl, rfl, by decide +kernel, rfl, by decide +kernel, by decide +kernel⟩
abbrev nHadMore : List Str := ["self", "texts", "marks", "many", "text", "moves", "mark"]
theorem scHadMore : FnScope nHadMore ["self", "texts", "marks"] (defScope sHadMore) := ⟨rfl, rfl, rfl, by decide +kernel, rfl, by decide +kernel, by decide +kernel⟩
abbrev nFirst : List Str := ["self", "texts", "marks", "moves", "lacking", "move", "one"]
theorem scFirst : FnScope nFirst ["self", "texts", "marks", "moves"] (defScope sFirst) := ⟨rfl, rfl, rfl, by decide +kernel, rfl, by decide +kernel, by decide +kernel⟩
abbrev nLack : List Str := ["self", "texts", "marks", "kind", "lacking", "taken", "mark", "there"]
theorem scLack : FnScope nLack ["self", "texts", "marks", "kind"] (defScope sLack) := ⟨rfl, rfl, rfl, by decide +kernel, rfl, by decide +kernel, by decide +kernel⟩
abbrev nTree : List Str := ["self", "texts", "marks", "above", "text", "moves", "mark", "there"]
theorem scTree : FnScope nTree ["self", "texts"] (defScope sTree) := ⟨rfl, rfl, rfl, by decide +kernel, rfl, by decide +kernel, by decide +kernel⟩
abbrev nBarring : List Str := ["row", "kind", "having", "texts", "there", "name", "given"]
theorem scBarring : FnScope nBarring ["row", "kind"] (defScope sBarring) := ⟨rfl, rfl, rfl, by decide +kernel, rfl, by decide +kernel, by decide +kernel⟩
abbrev nPool : List Str := ["_law_script", "_law_k", "_law_cell", "_law_number"]
theorem scPool : FnScope nPool ["_law_script", "_law_k"] (defScope sPool) := ⟨rfl, rfl, rfl, by decide +kernel, rfl, by decide +kernel, by decide +kernel⟩
abbrev nTake : List Str := ["_law_pool_here", "_law_many", "_law_found"]
theorem scTake : FnScope nTake ["_law_pool_here", "_law_many"] (defScope sTake) := ⟨rfl, rfl, rfl, by decide +kernel, rfl, by decide +kernel, by decide +kernel⟩
abbrev nMarks : List Str := ["_law_pool_here", "_law_size", "_law_at", "_law_signs", "_law_found", "_law_k", "_law_places", "_law_j", "_law_place"]
theorem scMarks : FnScope nMarks ["_law_pool_here"] (defScope sMarks) := ⟨rfl, rfl, rfl, by decide +kernel, rfl, by decide +kernel, by decide +kernel⟩
abbrev nKind : List Str := ["_law_pool_here", "_law_leaves", "_law_marks_here", "_law_first", "_law_one", "_law_other"]
theorem scKind : FnScope nKind ["_law_pool_here", "_law_leaves", "_law_marks_here"] (defScope sKind) := ⟨rfl, rfl, rfl, by decide +kernel, rfl, by decide +kernel, by decide +kernel⟩
abbrev nRow : List Str := ["_law_pool_here", "_law_marks_here", "_law_left", "_law_row_here", "_law_name", "_law_leaves"]
theorem scRow : FnScope nRow ["_law_pool_here", "_law_marks_here", "_law_left"] (defScope sRow) := ⟨rfl, rfl, rfl, by decide +kernel, rfl, by decide +kernel, by decide +kernel⟩
abbrev nLEnds : List Str := ["_law_kind_here", "_law_taken", "_law_mark"]
theorem scLEnds : FnScope nLEnds ["_law_kind_here"] (defScope sLEnds) := ⟨rfl, rfl, rfl, by decide +kernel, rfl, by decide +kernel, by decide +kernel⟩
abbrev nLWays : List Str := ["_law_kind_here", "_law_moves", "_law_mark"]
theorem scLWays : FnScope nLWays ["_law_kind_here"] (defScope sLWays) := ⟨rfl, rfl, rfl, by decide +kernel, rfl, by decide +kernel, by decide +kernel⟩
abbrev nHas : List Str := ["_law_there", "_law_kind_here", "_law_asked", "_law_taken", "_law_mark", "_law_more", "_law_room", "_law_one"]
theorem scHas : FnScope nHas ["_law_there", "_law_kind_here", "_law_asked"] (defScope sHas) := ⟨rfl, rfl, rfl, by decide +kernel, rfl, by decide +kernel, by decide +kernel⟩
abbrev nLHad : List Str := ["_law_there", "_law_mark", "_law_asked", "_law_kind_here", "_law_moves", "_law_goal", "_law_one"]
theorem scLHad : FnScope nLHad ["_law_there", "_law_mark", "_law_asked"] (defScope sLHad) := ⟨rfl, rfl, rfl, by decide +kernel, rfl, by decide +kernel, by decide +kernel⟩
abbrev nLaw : List Str := ["_law_script", "_law_k", "_law_pool_here", "_law_marks_here", "_law_kind_here", "_law_row_here", "_law_due", "_law_name", "_law_given"]
theorem scLaw : FnScope nLaw ["_law_script"] (defScope sLaw) := ⟨rfl, rfl, rfl, by decide +kernel, rfl, by decide +kernel, by decide +kernel⟩
end KF
/-! What is there as a sorted tuple of texts; dicts of texts and of tuples of texts; counting. -/
namespace KF
open PySem PySem.Spec PyProof.Rows L2

theorem perm_map {α β : Type} {f : α → β} : ∀ {vs us : List β}, vs.Perm us → ∀ L : List α, us = L.map f → ∃ L1 : List α, vs = L1.map f ∧ L1.Perm L := by
  intro vs us hp
  induction hp with
  | nil => intro L eu; exact ⟨L, eu, List.Perm.refl _⟩
  | cons x _ ih =>
    intro L eu
    cases L with
    | nil => cases eu
    | cons q L =>
      rw [List.map_cons] at eu
      injection eu with h1 h2
      obtain ⟨L1, g1, g2⟩ := ih L h2
      exact ⟨q :: L1, by rw [List.map_cons, g1, h1], g2.cons q⟩
  | swap x y l =>
    intro L eu
    cases L with
    | nil => cases eu
    | cons q L =>
      cases L with
      | nil => rw [List.map_cons] at eu; injection eu with _ h2; cases h2
      | cons r L =>
        rw [List.map_cons, List.map_cons] at eu
        injection eu with h1 h2
        injection h2 with h2 h3
        exact ⟨r :: q :: L, by rw [List.map_cons, List.map_cons, h1, h2, h3], List.Perm.swap ..⟩
  | trans _ _ ih1 ih2 =>
    intro L eu
    obtain ⟨L2, g1, g2⟩ := ih2 L eu
    obtain ⟨L1, f1, f2⟩ := ih1 L2 g1
    exact ⟨L1, f1, f2.trans g2⟩
/-- pigeons -/
theorem nodup_len {α : Type} [DecidableEq α] : ∀ (l D : List α), l.Nodup → (∀ x ∈ l, x ∈ D) → l.length ≤ D.length
  | [], _, _, _ => Nat.zero_le _
  | x :: l, D, hn, hs => by
    obtain ⟨h1, h2⟩ := List.nodup_cons.mp hn
    have hx : x ∈ D := hs x List.mem_cons_self
    have ih := nodup_len l (D.erase x) h2 fun y hy => by
      have hne : y ≠ x := fun e => h1 (e ▸ hy)
      exact (List.mem_erase_of_ne hne).2 (hs y (List.mem_cons_of_mem _ hy))
    have e := List.length_erase_of_mem hx
    have hp : 0 < D.length := List.length_pos_of_mem hx
    rw [List.length_cons]
    omega
/-- all rows of n bits -/
def bits : Nat → List (List Bool)
  | 0 => [[]]
  | n + 1 => (bits n).flatMap fun l => [true :: l, false :: l]
theorem bits_len : ∀ n : Nat, (bits n).length = 2 ^ n
  | 0 => rfl
  | n + 1 => by
    have key : ∀ l : List (List Bool), (l.flatMap fun l => [true :: l, false :: l]).length = 2 * l.length := by
      intro l
      induction l with
      | nil => rfl
      | cons x r ih => rw [List.flatMap_cons, List.length_append, ih]; simp only [List.length_cons, List.length_nil]; omega
    show ((bits n).flatMap fun l => [true :: l, false :: l]).length = 2 ^ (n + 1)
    rw [key, bits_len n, Nat.pow_succ]
    omega
theorem bits_mem : ∀ l : List Bool, l ∈ bits l.length
  | [] => List.mem_cons_self
  | b :: l => by
    show b :: l ∈ (bits l.length).flatMap fun l => [true :: l, false :: l]
    refine List.mem_flatMap.mpr ⟨l, bits_mem l, ?_⟩
    cases b <;> simp
/-- what is there, as the program tells it -/
abbrev txts (S : List Kd) : List Str := S.map txt
abbrev keysOf (S : List Kd) : List Key := S.map fun k => Sum.inr (txt k)
theorem keys_txts (S : List Kd) : keysOf S = (txts S).map Sum.inr := by rw [List.map_map]; rfl
theorem kVs (S : List Kd) : (keysOf S).map kV = (txts S).map V.str := by rw [List.map_map, List.map_map]; rfl
theorem txts_inj : ∀ {S T : List Kd}, (∀ k ∈ S, Wf k) → (∀ k ∈ T, Wf k) → txts S = txts T → S = T
  | [], [], _, _, _ => rfl
  | [], _ :: _, _, _, h => by cases h
  | _ :: _, [], _, _, h => by cases h
  | s :: S, t :: T, hS, hT, h => by
    have h : txt s :: txts S = txt t :: txts T := h
    injection h with h1 h2
    rw [txt_inj (hS s List.mem_cons_self) (hT t List.mem_cons_self) h1, txts_inj (fun k hk => hS k (List.mem_cons_of_mem _ hk)) (fun k hk => hT k (List.mem_cons_of_mem _ hk)) h2]
/-- the texts of S stand as a tuple at t -/
def TxAt (H : Hp) (t : Addr) (S : List Kd) : Prop := H t = some (.tup ((txts S).map V.str))
/-- a set of what is there: of U, in order -/
structure CtxU (U S : List Kd) : Prop where
  asc : Ctx S
  sub : ∀ k ∈ S, k ∈ U
theorem CtxU.wf {U S : List Kd} (c : Clo U) (h : CtxU U S) : ∀ k ∈ S, Wf k := fun k hk => c.wf k (h.sub k hk)
theorem CtxU.good {U S : List Kd} (c : Clo U) (h : CtxU U S) : ∀ k ∈ S, Good k := fun k hk => ⟨c.wf k (h.sub k hk), c.lv k (h.sub k hk)⟩
theorem CtxU.len {U S : List Kd} (c : Clo U) (h : CtxU U S) : S.length ≤ 18 := Nat.le_trans (nodup_len S U h.asc.nodup h.sub) c.sz
theorem CtxU.okT {U S : List Kd} (c : Clo U) (h : CtxU U S) : OkT (txts S) := fun t ht => by
  obtain ⟨k, hk, rfl⟩ := List.mem_map.mp ht
  exact txt_ok (h.wf c k hk)
/-- greater: lower in measure -/
theorem CtxU.mu_lt {U S T : List Kd} (hS : CtxU U S) (hT : CtxU U T) (h : ∀ k ∈ S, k ∈ T) (hne : T ≠ S) : mu U T < mu U S := by
  have : ∃ k, k ∈ T ∧ k ∉ S := by
    rcases Classical.em (∃ k, k ∈ T ∧ k ∉ S) with z | z
    · exact z
    · exact absurd (Ctx.uniq hT.asc hS.asc fun k => ⟨fun hk => Classical.byContradiction fun w => z ⟨k, hk, w⟩, h k⟩) hne
  obtain ⟨k, h1, h2⟩ := this
  exact KF.mu_lt h (hT.sub k h1) h1 h2
/-- sorted by text, all unlike: in strict order -/
theorem asc_of {T : List Kd} {ys : List Str} (hw : ∀ k ∈ T, Wf k) (hn : T.Nodup) (hp : ys.Perm (txts T)) (hs : sortedS ys = true) : ∃ S, ys = txts S ∧ S.Perm T ∧ Ctx S := by
  obtain ⟨S, e, pm⟩ := perm_map hp T rfl
  refine ⟨S, e, pm, ?_⟩
  have hwS : ∀ k ∈ S, Wf k := fun k hk => hw k (pm.mem_iff.mp hk)
  have hnS : S.Nodup := pm.nodup_iff.mpr hn
  have rising : ∀ (l : List Kd) (p : Kd), risingS (txt p) (txts l) = true → (∀ k ∈ p :: l, Wf k) → (p :: l).Nodup → Ctx (p :: l) := by
    intro l
    induction l with
    | nil => intro p _ _ _; exact List.pairwise_singleton ..
    | cons x r ih =>
      intro p h hw hn
      have h : risingS (txt p) (txt x :: txts r) = true := h
      rw [risingS, Bool.and_eq_true] at h
      have hc : Ctx (x :: r) := ih x h.2 (fun k hk => hw k (List.mem_cons_of_mem _ hk)) (List.nodup_cons.mp hn).2
      have hle : ¬ (txt x).cps.toList < (txt p).cps.toList := by
        have h1 := h.1
        rw [ltCps_eq] at h1
        simpa using h1
      have hlt : Ltx p x := by
        refine Classical.byContradiction fun z => ?_
        have e1 : (txt p).cps.toList = (txt x).cps.toList := List.le_antisymm hle z
        have e2 : p = x := txt_inj (hw p List.mem_cons_self) (hw x (List.mem_cons_of_mem _ List.mem_cons_self)) (str_of e1)
        exact (List.nodup_cons.mp hn).1 (e2 ▸ List.mem_cons_self)
      refine List.pairwise_cons.mpr ⟨fun k hk => ?_, hc⟩
      rcases List.mem_cons.mp hk with e | hk
      · rw [e]; exact hlt
      · exact List.lt_trans hlt ((List.pairwise_cons.mp hc).1 k hk)
  cases S with
  | nil => exact List.Pairwise.nil
  | cons p l =>
    subst e
    exact rising l p hs hwS hnS
/-! ### dicts by their keys -/
theorem putK_keys {κ : Type} [DecidableEq κ] (kvs : List (κ × V)) (k : κ) (v : V) : (putK kvs k v).map (·.1) = if (valV kvs k).isSome then kvs.map (·.1) else kvs.map (·.1) ++ [k] := by
  cases e : valV kvs k with
  | none =>
    rw [putK_new v e, List.map_append]
    rfl
  | some x =>
    unfold putK
    rw [valV_any, e]
    simp only [Option.isSome_some, if_true, List.map_map]
    refine List.map_congr_left fun p _ => ?_
    show (if p.1 = k then (p.1, v) else p).1 = p.1
    split <;> rfl
theorem valV_keys {κ : Type} [DecidableEq κ] {kvs : List (κ × V)} {k : κ} : (valV kvs k).isSome = true ↔ k ∈ kvs.map (·.1) := by
  rw [← valV_any, List.any_eq_true]
  constructor
  · rintro ⟨p, hp, e⟩
    exact List.mem_map.mpr ⟨p, hp, of_decide_eq_true e⟩
  · intro h
    obtain ⟨p, hp, e⟩ := List.mem_map.mp h
    exact ⟨p, hp, decide_eq_true e⟩
/-- a dict whose keys are the texts of the kinds T, no two alike -/
structure KeysAre (kvs : List (Key × V)) (T : List Kd) : Prop where
  keys : kvs.map (·.1) = keysOf T
  nd : T.Nodup
theorem KeysAre.nil : KeysAre [] [] := ⟨rfl, List.nodup_nil⟩
theorem mem_keysOf {T : List Kd} {k : Kd} (hT : ∀ j ∈ T, Wf j) (hk : Wf k) : (Sum.inr (txt k) : Key) ∈ keysOf T ↔ k ∈ T := by
  constructor
  · intro h
    obtain ⟨j, hj, e⟩ := List.mem_map.mp h
    rw [← txt_inj (hT j hj) hk (Sum.inr.inj e)]
    exact hj
  · intro h
    exact List.mem_map.mpr ⟨k, h, rfl⟩
theorem KeysAre.put {kvs : List (Key × V)} {T : List Kd} (x : KeysAre kvs T) (hT : ∀ j ∈ T, Wf j) {k : Kd} (hk : Wf k) (v : V) : ∃ T', KeysAre (putK kvs (Sum.inr (txt k)) v) T' ∧ ∀ j, j ∈ T' ↔ j ∈ T ∨ j = k := by
  by_cases h : k ∈ T
  · refine ⟨T, ⟨?_, x.nd⟩, fun j => ⟨.inl, fun z => z.elim id fun e => e ▸ h⟩⟩
    rw [putK_keys, if_pos (valV_keys.mpr (by rw [x.keys]; exact (mem_keysOf hT hk).mpr h))]
    exact x.keys
  · refine ⟨T ++ [k], ⟨?_, ?_⟩, fun j => by rw [List.mem_append, List.mem_singleton]⟩
    · rw [putK_keys, if_neg (fun z => h ((mem_keysOf hT hk).mp (by rw [← x.keys]; exact valV_keys.mp z))), x.keys, keysOf, keysOf, List.map_append]
      rfl
    · rw [List.nodup_append]
      exact ⟨x.nd, List.nodup_cons.mpr ⟨by simp, List.nodup_nil⟩, fun a ha b hb e => h (by rw [List.mem_singleton.mp hb] at e; exact e ▸ ha)⟩
end KF
/-! shown_kind. -/
namespace KF
open PySem PySem.Spec PyProof.Rows L2

/-- what the top leaves of the program's own names, and that built-ins are themselves -/
structure Glo (K : PySem.W.Frag) (mg : Str → Option Value) (o1 : Addr) : Prop where
  one : mg "ONE" = some (.ref o1)
  oneT : ∀ H, SqT K H o1 [.str sOne]
  tuple : mg "tuple" = none
  sorted : mg "sorted" = none
  len : mg "len" = none
  min : mg "min" = none
  max : mg "max" = none
  set : mg "set" = none
  isi : mg "isinstance" = none
  range : mg "range" = none
  int : mg "int" = none
/-- an item of a kind -/
theorem KAt.head {H : Hp} {k : Kd} {a : Addr} (h : KAt H k a) : ∃ xs, H a = some (.tup xs) ∧ xs[0]? = some (.str (word k)) := by
  cases k with
  | one => exact ⟨_, h, rfl⟩
  | mk m => exact ⟨_, h, rfl⟩
  | to x y => obtain ⟨p, q, h, _⟩ := h; exact ⟨_, h, rfl⟩
  | both x y => obtain ⟨p, q, h, _⟩ := h; exact ⟨_, h, rfl⟩
theorem word_mark (k : Kd) : decide (V.str (word k) = V.str sMark) = decide (con k = 1) := by
  have e := word_eq k (.mk sMark)
  have e2 : word (.mk sMark) = sMark := rfl
  rw [e2] at e
  rw [show con (.mk sMark) = 1 from rfl] at e
  rw [← e]
  by_cases z : word k = sMark
  · simp [z]
  · simp [z]
theorem word_both (k : Kd) : decide (V.str (word k) = V.str sBoth) = decide (con k = 0) := by
  have e := word_eq k (.both .one .one)
  have e2 : word (.both .one .one) = sBoth := rfl
  rw [e2, show con (.both .one .one) = 0 from rfl] at e
  rw [← e]
  by_cases z : word k = sBoth
  · simp [z]
  · simp [z]
theorem word_to (k : Kd) : decide (V.str (word k) = V.str sTo) = decide (con k = 3) := by
  have e := word_eq k (.to .one .one)
  have e2 : word (.to .one .one) = sTo := rfl
  rw [e2, show con (.to .one .one) = 3 from rfl] at e
  rw [← e]
  by_cases z : word k = sTo
  · simp [z]
  · simp [z]
theorem word_one (k : Kd) : decide (V.str (word k) = V.str sOne) = decide (con k = 2) := by
  have e := word_eq k .one
  have e2 : word .one = sOne := rfl
  rw [e2, show con .one = 2 from rfl] at e
  rw [← e]
  by_cases z : word k = sOne
  · simp [z]
  · simp [z]
theorem one_dp {K : PySem.W.Frag} {mg : Str → Option Value} {o1 : Addr} (G : Glo K mg o1) (H : Hp) : Dp K H (.ref o1) (dat .one) := .tup (G.oneT H) (.cons (.str _) .nil)
theorem good_one : Good .one := ⟨trivial, by decide⟩
theorem Good.left {a b : Kd} (h : Good (.to a b)) : Good a := ⟨h.1.1, by have := h.2; have := leaves_pos b; simp only [leaves] at *; omega⟩
theorem Good.right {a b : Kd} (h : Good (.to a b)) : Good b := ⟨h.1.2, by have := h.2; have := leaves_pos a; simp only [leaves] at *; omega⟩
theorem Good.left' {a b : Kd} (h : Good (.both a b)) : Good a := ⟨h.1.1, by have := h.2; have := leaves_pos b; simp only [leaves] at *; omega⟩
theorem Good.right' {a b : Kd} (h : Good (.both a b)) : Good b := ⟨h.1.2, by have := h.2; have := leaves_pos a; simp only [leaves] at *; omega⟩

def spShown (n : Nat) : Sp := fun vs H Q _ => ∃ (k : Kd) (a : Addr), vs = [.ref a] ∧ KAt H k a ∧ leaves k ≤ n ∧ Good k ∧ Q (.str (txt k)) H
section
variable {P : Program} {w : World} {K : PySem.W.Frag} {mg : Str → Option Value} {base : Heap} {o1 f : Addr} {fd : FuncData}
theorem line_big {n : Nat} (h : n ≤ 10000) : n ≤ sizeLine := by rw [sizeLine_eq]; omega
theorem app_len (x y : Str) : (x ++ y).length = x.length + y.length := by
  show (x.cps ++ y.cps).size = _
  rw [Array.size_append]
  rfl
theorem ok_shown {n : Nat} (F : Fun K "shown_kind" "shown_kind" sShown f fd) (G : Glo K mg o1) (R : FnOk P w K mg base CX0 n f fd ["kind"] (spShown n)) (bR : Binds K fd ["kind"] []) (gR : mg "shown_kind" = some (.ref f)) :
    FnOk P w K mg base CX0 (n + 1) f fd ["kind"] (spShown (n + 1)) := by
  refine F.ok scShown (fun vs H Q E h => ?_) (fun cdv A outer s H vs Q E hr h => ?_)
  · obtain ⟨k, a, rfl, _⟩ := h
    rfl
  obtain ⟨k, a, rfl, hk, hn, hg, q⟩ := h
  refine ⟨_, pss_cons (ps_if (pt_cmpR (op_eqD hr.units) (pv 0) (pe_glob (v := .ref o1) rfl G.one rfl) (nomark _)) (pss_one (ps_ret pe_str)) pss_nil)
    (pss_cons (ps_if (pt_cmpR op_eq (pe_ix ix_tup (pv 0) pe_int (fun _ _ => rfl)) pe_str (nomark _)) (pss_one (ps_ret (pe_ix ix_tup (pv 0) pe_int (fun _ _ => rfl)))) pss_nil)
    (pss_cons (ps_set (i := 1) scShown.nd rfl (.inl rfl) pe_str)
    (pss_cons (ps_if (pt_cmpR op_eq (pe_ix ix_tup (pv 0) pe_int (fun _ _ => rfl)) pe_str (nomark _)) (pss_one (ps_set (i := 1) scShown.nd rfl (.inl rfl) pe_str)) pss_nil)
    (pss_one (ps_ret (pe_op op_add_str (pe_op op_add_str (pe_op op_add_str (pe_op op_add_str (pe_op op_add_str (pe_op op_add_str pe_str (pe_call R hr rfl gR F.kp bR .nil pass0 (pa_cons (pe_ix ix_tup (pv 0) pe_int (fun _ _ => rfl)) pa_nil))) pe_str) (pv 1)) pe_str)
      (pe_call R hr rfl gR F.kp bR .nil pass0 (pa_cons (pe_ix ix_tup (pv 0) pe_int (fun _ _ => rfl)) pa_nil))) pe_str)))))), ?_⟩
  -- kind == ONE
  refine ⟨.ref a, rfl, dat k, dat .one, hk.dp, one_dp G H, dat_shaped hg, dat_shaped good_one, _, rfl, ?_⟩
  rw [dat_eqv]
  refine ite2 (fun e => ?_) (fun e => ?_)
  · have e1 : k = .one := of_decide_eq_true e
    subst e1
    exact q
  have e1 : ¬ k = .one := of_decide_eq_false (Bool.eq_false_iff.mpr e)
  -- kind[0] == 'mark'
  obtain ⟨xs, hx, h0⟩ := hk.head
  refine ⟨.ref a, rfl, a, xs, 0, .str (word k), rfl, rfl, SqT.of hx, atI_nat (j := 0) h0, rfl, _, rfl, ?_⟩
  rw [word_mark]
  refine ite2 (fun e => ?_) (fun e => ?_)
  · have ec : con k = 1 := of_decide_eq_true e
    cases k with
    | mk m => exact ⟨.ref a, rfl, a, _, 1, .str m, rfl, rfl, SqT.of hk, rfl, q⟩
    | one => cases ec
    | to x y => cases ec
    | both x y => cases ec
  have ec : ¬ con k = 1 := of_decide_eq_false (Bool.eq_false_iff.mpr e)
  -- sign
  refine ⟨.ref a, rfl, a, xs, 0, .str (word k), rfl, rfl, SqT.of hx, atI_nat (j := 0) h0, rfl, _, rfl, ?_⟩
  rw [word_both]
  cases k with
  | one => exact absurd rfl e1
  | mk m => exact absurd rfl ec
  | to x y =>
    obtain ⟨p, r, hh, hp, hr'⟩ := hk
    have l1 := leaves_pos x
    have l2 := leaves_pos y
    have l3 := txt_len hg.1.1
    have l4 := txt_len hg.1.2
    have l5 := hg.2
    simp only [leaves] at hn l5
    refine iteF ?_
    refine ⟨.ref a, rfl, a, _, 1, .ref p, rfl, rfl, SqT.of hh, rfl, x, p, rfl, hp, by omega, hg.left, ?_⟩
    have z : ∀ s t : Str, s.length + t.length ≤ 10000 → s.length + t.length ≤ sizeLine := fun s t h => line_big h
    have c1 : ("( " : Str).length = 2 := by decide +kernel
    have c2 : (" " : Str).length = 1 := by decide +kernel
    have c3 : ("->" : Str).length = 2 := by decide +kernel
    have c4 : (" )" : Str).length = 2 := by decide +kernel
    refine ⟨_, _, rfl, rfl, line_big (by rw [c1]; omega), ?_⟩
    refine ⟨_, _, rfl, rfl, line_big (by simp only [app_len, c1, c2]; omega), ?_⟩
    refine ⟨_, rfl, _, _, rfl, rfl, line_big (by simp only [app_len, c1, c2, c3]; omega), ?_⟩
    refine ⟨_, _, rfl, rfl, line_big (by simp only [app_len, c1, c2, c3]; omega), ?_⟩
    refine ⟨.ref a, rfl, a, _, 2, .ref r, rfl, rfl, SqT.of hh, rfl, y, r, rfl, hr', by omega, hg.right, ?_⟩
    refine ⟨_, _, rfl, rfl, line_big (by simp only [app_len, c1, c2, c3]; omega), ?_⟩
    exact ⟨_, _, rfl, rfl, line_big (by simp only [app_len, c1, c2, c3, c4]; omega), q⟩
  | both x y =>
    obtain ⟨p, r, hh, hp, hr'⟩ := hk
    have l1 := leaves_pos x
    have l2 := leaves_pos y
    have l3 := txt_len hg.1.1
    have l4 := txt_len hg.1.2
    have l5 := hg.2
    simp only [leaves] at hn l5
    refine iteT ?_
    refine ⟨.ref a, rfl, a, _, 1, .ref p, rfl, rfl, SqT.of hh, rfl, x, p, rfl, hp, by omega, hg.left', ?_⟩
    have c1 : ("( " : Str).length = 2 := by decide +kernel
    have c2 : (" " : Str).length = 1 := by decide +kernel
    have c3 : ("*" : Str).length = 1 := by decide +kernel
    have c4 : (" )" : Str).length = 2 := by decide +kernel
    refine ⟨_, _, rfl, rfl, line_big (by rw [c1]; omega), ?_⟩
    refine ⟨_, _, rfl, rfl, line_big (by simp only [app_len, c1, c2]; omega), ?_⟩
    refine ⟨_, rfl, _, _, rfl, rfl, line_big (by simp only [app_len, c1, c2, c3]; omega), ?_⟩
    refine ⟨_, _, rfl, rfl, line_big (by simp only [app_len, c1, c2, c3]; omega), ?_⟩
    refine ⟨.ref a, rfl, a, _, 2, .ref r, rfl, rfl, SqT.of hh, rfl, y, r, rfl, hr', by omega, hg.right', ?_⟩
    refine ⟨_, _, rfl, rfl, line_big (by simp only [app_len, c1, c2, c3]; omega), ?_⟩
    exact ⟨_, _, rfl, rfl, line_big (by simp only [app_len, c1, c2, c3, c4]; omega), q⟩
theorem no_shown : FnOk P w K mg base CX0 0 f fd ["kind"] (spShown 0) := by
  have no : ∀ vs H Q E, ¬ spShown 0 vs H Q E := fun vs H Q E h => by
    obtain ⟨k, a, _, _, hn, _⟩ := h
    have := leaves_pos k
    omega
  exact ⟨fun vs H Q E h => absurd h (no vs H Q E), fun A outer s H args us vs Q E _ _ _ _ h => absurd h (no vs H Q E)⟩
theorem all_shown (F : Fun K "shown_kind" "shown_kind" sShown f fd) (G : Glo K mg o1) (bR : Binds K fd ["kind"] []) (gR : mg "shown_kind" = some (.ref f)) : ∀ n : Nat, FnOk P w K mg base CX0 n f fd ["kind"] (spShown n)
  | 0 => no_shown
  | n + 1 => ok_shown F G (all_shown F G bR gR n) bR gR
end
end KF
/-! Lists of ends and ways in the heap; ends_of, ways_of, and the law's own. -/
namespace KF
open PySem PySem.Spec PyProof.Rows L2

theorem same_new {H : Hp} {p : Addr} (h : H p = none) (o : HO) : Same H (upd H p o) := fun b u q => by rw [upd_ne (ne_of_none q h)]; exact q
/-- the heap without what stands at D -/
def hide (D : Addr) (H : Hp) : Hp := fun b => if b = D then none else H b
theorem hide_ne {D b : Addr} {H : Hp} (h : b ≠ D) : hide D H b = H b := by unfold hide; rw [if_neg h]
theorem hide_some {D b : Addr} {H : Hp} {o : HO} (h : hide D H b = some o) : b ≠ D ∧ H b = some o := by
  unfold hide at h
  by_cases e : b = D
  · rw [if_pos e] at h; cases h
  · rw [if_neg e] at h; exact ⟨e, h⟩
theorem hide_same (D : Addr) (H : Hp) : Same (hide D H) H := fun _ _ h => (hide_some h).2
theorem hide_mono {D : Addr} {H H' : Hp} (h : Same H H') : Same (hide D H) (hide D H') := fun b o e => by
  obtain ⟨hb, q⟩ := hide_some e
  rw [hide_ne hb]
  exact h b o q
theorem hide_upd {D : Addr} {H : Hp} {o : HO} : hide D (upd H D o) = hide D H := by
  funext b
  unfold hide
  by_cases e : b = D
  · rw [if_pos e, if_pos e]
  · rw [if_neg e, if_neg e, upd_ne e]
theorem same_hide {D : Addr} {H H' : Hp} (hD : H D = none) (h : Same H H') : Same H (hide D H') := fun b o e => by
  rw [hide_ne (ne_of_none e hD)]
  exact h b o e

/-- a kind, a move, as an item -/
def KvAt (H : Hp) (v : V) (k : Kd) : Prop := ∃ a, v = .ref a ∧ KAt H k a
def MvAt (H : Hp) (v : V) : Int ⊕ Kd → Prop
  | .inl i => v = .int i
  | .inr k => KvAt H v k
theorem KvAt.same {H H' : Hp} (s : Same H H') {v : V} {k : Kd} (h : KvAt H v k) : KvAt H' v k := let ⟨a, e, x⟩ := h; ⟨a, e, x.same s⟩
theorem MvAt.same {H H' : Hp} (s : Same H H') {v : V} : ∀ {m : Int ⊕ Kd}, MvAt H v m → MvAt H' v m
  | .inl _, h => h
  | .inr _, h => KvAt.same s h
section
variable {α : Type} {It : Hp → V → α → Prop}
/-- a tuple of a list and a mark -/
def PairG (It : Hp → V → α → Prop) (Fr : Addr → Prop) (H : Hp) (p : Addr) (e : List α × Str) : Prop := ∃ tl vs, Fr tl ∧ H p = some (.tup [.ref tl, .str e.2]) ∧ H tl = some (.lst vs) ∧ Paired (It H) vs e.1
/-- a list of them -/
def ListG (It : Hp → V → α → Prop) (Fr : Addr → Prop) (H : Hp) (l : Addr) (es : List (List α × Str)) : Prop := ∃ ps : List Addr, Fr l ∧ H l = some (.lst (ps.map V.ref)) ∧ Paired (PairG It Fr H) ps es
theorem PairG.same (mono : ∀ (H H' : Hp) (v : V) (a : α), Same H H' → It H v a → It H' v a) {Fr : Addr → Prop} {H H' : Hp} (s : Same H H') {p : Addr} {e : List α × Str} (h : PairG It Fr H p e) : PairG It Fr H' p e := by
  obtain ⟨tl, vs, h0, h1, h2, h3⟩ := h
  exact ⟨tl, vs, h0, s _ _ h1, s _ _ h2, Paired.mapP h3 fun _ _ q => mono _ _ _ _ s q⟩
theorem PairG.imp {Fr Fr' : Addr → Prop} (f : ∀ a, Fr a → Fr' a) {H : Hp} {p : Addr} {e : List α × Str} (h : PairG It Fr H p e) : PairG It Fr' H p e := by
  obtain ⟨tl, vs, h0, h1, h2, h3⟩ := h
  exact ⟨tl, vs, f _ h0, h1, h2, h3⟩
theorem ListG.same (mono : ∀ (H H' : Hp) (v : V) (a : α), Same H H' → It H v a → It H' v a) {Fr : Addr → Prop} {H H' : Hp} (s : Same H H') {l : Addr} {es : List (List α × Str)} (h : ListG It Fr H l es) : ListG It Fr H' l es := by
  obtain ⟨ps, h0, h1, h2⟩ := h
  exact ⟨ps, h0, s _ _ h1, Paired.mapP h2 fun _ _ q => q.same mono s⟩
theorem ListG.imp {Fr Fr' : Addr → Prop} (f : ∀ a, Fr a → Fr' a) {H : Hp} {l : Addr} {es : List (List α × Str)} (h : ListG It Fr H l es) : ListG It Fr' H l es := by
  obtain ⟨ps, h0, h1, h2⟩ := h
  exact ⟨ps, f _ h0, h1, Paired.mapP h2 fun _ _ q => q.imp f⟩
/-- where what stands at D is none of it -/
theorem ListG.hide (mono : ∀ (H H' : Hp) (v : V) (a : α), Same H H' → It H v a → It H' v a) {H0 H : Hp} {D l : Addr} {xs : List V} (hD : H0 D = some (.lst xs)) (hH : H D = some (.lst xs)) (mono' : ∀ v a, It H v a → It (hide D H) v a) {es : List (List α × Str)} (h : ListG It (fun a => H0 a = none) H l es) :
    ListG It (fun a => H0 a = none) (hide D H) l es := by
  obtain ⟨ps, h0, h1, h2⟩ := h
  refine ⟨ps, h0, by rw [hide_ne (ne_of_none hD h0).symm]; exact h1, Paired.mapP h2 fun p e q => ?_⟩
  obtain ⟨tl, vs, g0, g1, g2, g3⟩ := q
  exact ⟨tl, vs, g0, by rw [hide_ne (ne_of g1 hH (by intro z; cases z))]; exact g1, by rw [hide_ne (ne_of_none hD g0).symm]; exact g2, Paired.mapP g3 fun v a q => mono' v a q⟩
theorem paired_app {β : Type} {F : β → α → Prop} : ∀ {l1 l2 : List β} {m1 m2 : List α}, Paired F l1 m1 → Paired F l2 m2 → Paired F (l1 ++ l2) (m1 ++ m2)
  | _, _, _, _, .nil, h => h
  | _, _, _, _, .cons a t, h => .cons a (paired_app t h)
theorem paired_at {β : Type} {F : β → α → Prop} : ∀ {l : List β} {m : List α} {i : Nat} {x : β}, Paired F l m → l[i]? = some x → ∃ y, m[i]? = some y ∧ F x y
  | _, _, _, _, .nil, e => by simp at e
  | _, _, 0, _, .cons r _, e => by simp at e; subst e; exact ⟨_, rfl, r⟩
  | _, _, i + 1, x, .cons _ t, e => by
    obtain ⟨y, h1, h2⟩ := paired_at (i := i) (x := x) t (by simpa using e)
    exact ⟨y, by simpa using h1, h2⟩
end
theorem take_snoc {α : Type} {l : List α} {i : Nat} {x : α} (h : l[i]? = some x) : l.take (i + 1) = l.take i ++ [x] := by
  rw [List.take_succ, h]
  rfl
theorem map_refs_at {ps : List Addr} {i : Nat} {x : V} (h : (ps.map V.ref)[i]? = some x) : ∃ p, ps[i]? = some p ∧ x = .ref p := by
  rw [List.getElem?_map] at h
  cases e : ps[i]? with
  | none => rw [e] at h; cases h
  | some p => rw [e] at h; exact ⟨p, rfl, (Option.some.inj h).symm⟩
theorem kv_mono (H H' : Hp) (v : V) (a : Kd) (s : Same H H') (h : KvAt H v a) : KvAt H' v a := h.same s
theorem mv_mono (H H' : Hp) (v : V) (a : Int ⊕ Kd) (s : Same H H') (h : MvAt H v a) : MvAt H' v a := h.same s
theorem ends_small {k : Kd} (h : Good k) : (ends k).length ≤ 8 := Nat.le_trans ends_len h.2
theorem pways_len : ∀ {k : Kd}, (pways k).length ≤ leaves k
  | .one => Nat.zero_le _
  | .mk m => Nat.le_refl _
  | .to a b => by
    have h : (pways b).length ≤ leaves b := pways_len
    simp only [pways, leaves, List.length_map]
    omega
  | .both a b => by
    have h1 : (pways a).length ≤ leaves a := pways_len
    have h2 : (pways b).length ≤ leaves b := pways_len
    simp only [pways, leaves, List.length_append, List.length_map]
    omega
theorem pmoves_len : ∀ {k : Kd} {e : List (Int ⊕ Kd) × Str}, e ∈ pways k → e.1.length + 1 ≤ leaves k
  | .one, e, h => nomatch h
  | .mk m, e, h => by rw [List.mem_singleton.mp h]; exact Nat.le_refl _
  | .to a b, e, h => by
    obtain ⟨f, hf, rfl⟩ := List.mem_map.mp h
    have := pmoves_len hf
    have := leaves_pos a
    simp only [leaves, List.length_cons]
    omega
  | .both a b, e, h => by
    rcases List.mem_append.mp h with h | h
    · obtain ⟨f, hf, rfl⟩ := List.mem_map.mp h
      have := pmoves_len hf
      have := leaves_pos b
      simp only [leaves, List.length_cons]
      omega
    · obtain ⟨f, hf, rfl⟩ := List.mem_map.mp h
      have := pmoves_len hf
      have := leaves_pos a
      simp only [leaves, List.length_cons]
      omega
theorem paired_len {α β : Type} {F : α → β → Prop} {l : List α} {m : List β} (h : Paired F l m) : l.length = m.length := Paired.length h

theorem ln1 : 1 ≤ sizeLine := line_big (by decide)
theorem ln2 : 2 ≤ sizeLine := line_big (by decide)
theorem ln3 : 3 ≤ sizeLine := line_big (by decide)
def spEnds (n : Nat) : Sp := fun vs H Q _ => ∃ (k : Kd) (a : Addr), vs = [.ref a] ∧ KAt H k a ∧ leaves k ≤ n ∧ Good k ∧ ∀ H' l, Same H H' → ListG KvAt (fun a => H a = none) H' l (ends k) → Q (.ref l) H'
section
variable {P : Program} {w : World} {K : PySem.W.Frag} {mg : Str → Option Value} {base : Heap} {o1 f : Addr} {fd : FuncData}
theorem ok_ends {n : Nat} (F : Fun K "ends_of" "ends_of" sEnds f fd) (G : Glo K mg o1) (R : FnOk P w K mg base CX0 n f fd ["kind"] (spEnds n)) (bR : Binds K fd ["kind"] []) (gR : mg "ends_of" = some (.ref f)) :
    FnOk P w K mg base CX0 (n + 1) f fd ["kind"] (spEnds (n + 1)) := by
  refine F.ok scEnds (fun vs H Q E h => ?_) (fun cdv A outer s H vs Q E hr h => ?_)
  · obtain ⟨k, a, rfl, _⟩ := h
    rfl
  obtain ⟨k, a, rfl, hk, hn, hg, q⟩ := h
  refine ⟨_, pss_cons (ps_if (pt_cmpR (op_eqD hr.units) (pv 0) (pe_glob (v := .ref o1) rfl G.one rfl) (nomark _)) (pss_one (ps_ret (pe_lst pa_nil))) pss_nil)
    (pss_cons (ps_if (pt_cmpR op_eq (pe_ix ix_tup (pv 0) pe_int (fun _ _ => rfl)) pe_str (nomark _)) (pss_one (ps_ret (pe_lst (pa_cons (pe_tup (pa_cons (pe_lst pa_nil) (pa_cons (pe_ix ix_tup (pv 0) pe_int (fun _ _ => rfl)) pa_nil))) pa_nil)))) pss_nil)
    (pss_cons (ps_if (pt_cmpR op_eq (pe_ix ix_tup (pv 0) pe_int (fun _ _ => rfl)) pe_str (nomark _)) (pss_one (ps_ret (pe_op op_cat (pe_call R hr rfl gR F.kp bR .nil pass0 (pa_cons (pe_ix ix_tup (pv 0) pe_int (fun _ _ => rfl)) pa_nil)) (pe_call R hr rfl gR F.kp bR .nil pass0 (pa_cons (pe_ix ix_tup (pv 0) pe_int (fun _ _ => rfl)) pa_nil))))) pss_nil)
    (pss_one (ps_ret (pe_lc (own := [("taken", 1), ("mark", 2)]) (g := gTup K 2 (gCons (gName 1) (gCons (gName 2) gNil))) (tt := tYes) rfl scEnds.nd (pi_list (pe_call R hr rfl gR F.kp bR .nil pass0 (pa_cons (pe_ix ix_tup (pv 0) pe_int (fun _ _ => rfl)) pa_nil)))
      (blkOk_by (N := nEnds) (sc := defScope sEnds) (by decide +kernel)) (fun _ _ _ _ _ => pg_tup rfl (pgs_cons (pg_name (i := 1) scEnds.nd rfl (.inl rfl)) (pgs_cons (pg_name (i := 2) scEnds.nd rfl (.inl rfl)) pgs_nil))) (fun _ _ _ _ _ => pts_nil)
      (fun _ _ _ _ _ => pe_tup (pa_cons (pe_op op_cat (pe_lst (pa_cons (pe_ix (r := rIxT K) ix_tup (pv 0) pe_int (fun _ _ => rfl)) pa_nil)) (pv 1)) (pa_cons (pv 2) pa_nil)))))))), ?_⟩
  -- kind == ONE
  refine ⟨.ref a, rfl, dat k, dat .one, hk.dp, one_dp G H, dat_shaped hg, dat_shaped good_one, _, rfl, ?_⟩
  rw [dat_eqv]
  refine ite2 (fun e => ?_) (fun e => ?_)
  · have e1 : k = .one := of_decide_eq_true e
    subst e1
    exact ⟨Nat.zero_le _, fun l hl => q _ l (same_new hl _) ⟨[], hl, upd_same, .nil⟩⟩
  have e1 : ¬ k = .one := of_decide_eq_false (Bool.eq_false_iff.mpr e)
  -- kind[0] == 'mark'
  obtain ⟨xs, hx, h0⟩ := hk.head
  refine ⟨.ref a, rfl, a, xs, 0, .str (word k), rfl, rfl, SqT.of hx, atI_nat (j := 0) h0, rfl, _, rfl, ?_⟩
  rw [word_mark]
  refine ite2 (fun e => ?_) (fun e => ?_)
  · have ec : con k = 1 := of_decide_eq_true e
    cases k with
    | mk m =>
      refine ⟨Nat.zero_le _, fun tl htl => ?_⟩
      have s1 : Same H (upd H tl (.lst [])) := same_new htl _
      refine ⟨.ref a, rfl, a, _, 1, .str m, rfl, rfl, SqT.of (s1 _ _ hk), rfl, ln2, fun p hp => ?_⟩
      have s2 : Same (upd H tl (.lst [])) (upd (upd H tl (.lst [])) p (.tup [.ref tl, .str m])) := same_new hp _
      refine ⟨ln1, fun l hl => ?_⟩
      have s3 := same_new hl (.lst [.ref p])
      exact q _ l (s1.trans (s2.trans s3)) ⟨[p], (s1.trans s2).free hl, upd_same, .cons ⟨tl, [], htl, s3 _ _ upd_same, s3 _ _ (s2 _ _ upd_same), .nil⟩ .nil⟩
    | one => cases ec
    | to x y => cases ec
    | both x y => cases ec
  have ec : ¬ con k = 1 := of_decide_eq_false (Bool.eq_false_iff.mpr e)
  -- kind[0] == 'both'
  refine ⟨.ref a, rfl, a, xs, 0, .str (word k), rfl, rfl, SqT.of hx, atI_nat (j := 0) h0, rfl, _, rfl, ?_⟩
  rw [word_both]
  cases k with
  | one => exact absurd rfl e1
  | mk m => exact absurd rfl ec
  | both x y =>
    obtain ⟨p, r, hh, hp, hr'⟩ := hk
    have l1 := leaves_pos x
    have l2 := leaves_pos y
    have l5 := hg.2
    simp only [leaves] at hn l5
    refine iteT ?_
    refine ⟨.ref a, rfl, a, _, 1, .ref p, rfl, rfl, SqT.of hh, rfl, x, p, rfl, hp, by omega, hg.left', fun H1 i1 s1 e1 => ?_⟩
    refine ⟨.ref a, rfl, a, _, 2, .ref r, rfl, rfl, SqT.of (s1 _ _ hh), rfl, y, r, rfl, hr'.same s1, by omega, hg.right', fun H2 i2 s2 e2 => ?_⟩
    obtain ⟨ps1, _, a1, b1⟩ := e1.same kv_mono s2
    obtain ⟨ps2, _, a2, b2⟩ := e2.imp (Fr' := fun a => H a = none) fun a z => s1.free z
    have z1 := paired_len b1
    have z2 := paired_len b2
    have y1 := ends_small hg.left'
    have y2 := ends_small hg.right'
    refine ⟨i1, i2, _, _, rfl, rfl, a1, a2, line_big (by rw [List.length_map, List.length_map]; omega), fun t ht => ?_⟩
    have s3 := same_new ht (.lst (ps1.map V.ref ++ ps2.map V.ref))
    refine q _ t (s1.trans (s2.trans s3)) ⟨ps1 ++ ps2, (s1.trans s2).free ht, by rw [upd_same, List.map_append], paired_app (Paired.mapP b1 fun _ _ z => z.same kv_mono s3) (Paired.mapP b2 fun _ _ z => z.same kv_mono s3)⟩
  | to x y =>
    obtain ⟨p, r, hh, hp, hr'⟩ := hk
    have l1 := leaves_pos x
    have l2 := leaves_pos y
    have l5 := hg.2
    simp only [leaves] at hn l5
    refine iteF ?_
    refine ⟨.ref a, rfl, a, _, 2, .ref r, rfl, rfl, SqT.of hh, rfl, y, r, rfl, hr', by omega, hg.right, fun H1 i1 s1 e1 => ?_⟩
    obtain ⟨ps, _, a1, b1⟩ := e1
    have z1 := paired_len b1
    have y1 := ends_small hg.right
    refine ⟨i1, rfl, ⟨_, SqL.of a1⟩, fun D hD => ?_⟩
    refine lc_list (K := K) (a := i1) (xs := ps.map V.ref) (fun i H' => Same H1 (hide D H') ∧ ∃ ps' : List Addr, H' D = some (.lst (ps'.map V.ref)) ∧ Paired (PairG KvAt (fun a => H a = none) (hide D H')) ps' (((ends y).map fun e => (x :: e.1, e.2)).take i))
      ⟨same_hide hD (same_new hD _), [], upd_same, .nil⟩ (fun i H' _ h => SqL.of (hide_same D H' _ _ (h.1 _ _ a1))) (fun i v H3 hv h => ?_) fun H3 h => ?_
    · obtain ⟨sm, ps', hd, hps⟩ := h
      obtain ⟨pi, hpi, rfl⟩ := map_refs_at hv
      obtain ⟨e, he, hpe⟩ := paired_at b1 hpi
      obtain ⟨tl, vs, _, t1, t2, t3⟩ := PairG.same kv_mono sm hpe
      obtain ⟨n1, t1'⟩ := hide_some t1
      obtain ⟨n2, t2'⟩ := hide_some t2
      have t0 := hide_some (sm _ _ (s1 _ _ hh))
      have tv := paired_len t3
      have te := taken_len (List.mem_of_getElem? he)
      refine ⟨pi, _, rfl, SqT.of t1', rfl, _, _, rfl, _, _, rfl, rfl, rfl, ?_⟩
      -- [kind[1]] + taken
      refine ⟨.ref a, rfl, a, _, 1, .ref p, rfl, rfl, SqT.of t0.2, rfl, ln1, fun c hc => ?_⟩
      have u1 := same_new hc (.lst [.ref p])
      refine ⟨.ref tl, rfl, c, tl, _, _, rfl, rfl, upd_same, u1 _ _ t2', line_big (by have := hg.right.2; simp only [List.length_cons, List.length_nil]; omega), fun t ht => ?_⟩
      have u2 := same_new ht (.lst ([.ref p] ++ vs))
      refine ⟨.str e.2, rfl, ln2, fun T hT => ?_⟩
      have u3 := same_new hT (.tup [.ref t, .str e.2])
      have u := u1.trans (u2.trans u3)
      have hd3 := u _ _ hd
      have nt : t ≠ D := (ne_of_none (u1 _ _ hd) ht).symm
      have nT : T ≠ D := (ne_of_none (u2 _ _ (u1 _ _ hd)) hT).symm
      have lp := paired_len hps
      refine ⟨_, hd3, ?_, ?_⟩
      · rw [List.length_map, lp, List.length_take, List.length_map]
        exact Nat.lt_of_le_of_lt (Nat.min_le_right _ _) (by rw [sizeLine_eq]; omega)
      · rw [hide_upd]
        refine ⟨sm.trans (hide_mono u), ps' ++ [T], by rw [upd_same, List.map_append]; rfl, ?_⟩
        have ge : ((ends y).map fun e => (x :: e.1, e.2))[i]? = some (x :: e.1, e.2) := by rw [List.getElem?_map, he]; rfl
        rw [take_snoc ge]
        refine Paired.snoc (Paired.mapP hps fun _ _ z => z.same kv_mono (hide_mono u)) ⟨t, .ref p :: vs, (s1.trans (sm.trans ((hide_same D H3).trans u1))).free ht, ?_, ?_, .cons ⟨p, rfl, ?_⟩ (Paired.mapP t3 fun _ _ z => z.same (hide_mono u))⟩
        · rw [hide_ne nT, upd_same]
        · rw [hide_ne nt]
          exact u3 _ _ upd_same
        · exact hp.same (s1.trans (sm.trans (hide_mono u)))
    · obtain ⟨sm, ps', hd, hps⟩ := h
      refine q H3 D (s1.trans (sm.trans (hide_same D H3))) ⟨ps', s1.free hD, hd, ?_⟩
      have e : ((ends y).map fun e => (x :: e.1, e.2)).take (ps.map V.ref).length = (ends y).map fun e => (x :: e.1, e.2) := List.take_of_length_le (by rw [List.length_map, List.length_map]; omega)
      rw [e] at hps
      exact Paired.mapP hps fun _ _ z => z.same kv_mono (hide_same D H3)
end
end KF
/-! The law's own ends and ways. -/
namespace KF
open PySem PySem.Spec PyProof.Rows L2

section
variable {P : Program} {w : World} {K : PySem.W.Frag} {mg : Str → Option Value} {base : Heap} {o1 f : Addr} {fd : FuncData}
theorem ok_lends {n : Nat} (F : Fun K "_law_ends" "_law_ends" sLEnds f fd) (G : Glo K mg o1) (R : FnOk P w K mg base CX0 n f fd ["_law_kind_here"] (spEnds n)) (bR : Binds K fd ["_law_kind_here"] []) (gR : mg "_law_ends" = some (.ref f)) :
    FnOk P w K mg base CX0 (n + 1) f fd ["_law_kind_here"] (spEnds (n + 1)) := by
  refine F.ok scLEnds (fun vs H Q E h => ?_) (fun cdv A outer s H vs Q E hr h => ?_)
  · obtain ⟨k, a, rfl, _⟩ := h
    rfl
  obtain ⟨k, a, rfl, hk, hn, hg, q⟩ := h
  refine ⟨_, pss_cons (ps_if (pt_cmpR op_eq (pe_ix ix_tup (pv 0) pe_int (fun _ _ => rfl)) pe_str (nomark _)) (pss_one (ps_ret (pe_lst pa_nil))) pss_nil)
    (pss_cons (ps_if (pt_cmpR op_eq (pe_ix ix_tup (pv 0) pe_int (fun _ _ => rfl)) pe_str (nomark _)) (pss_one (ps_ret (pe_lst (pa_cons (pe_tup (pa_cons (pe_lst pa_nil) (pa_cons (pe_ix ix_tup (pv 0) pe_int (fun _ _ => rfl)) pa_nil))) pa_nil)))) pss_nil)
    (pss_cons (ps_if (pt_cmpR op_eq (pe_ix ix_tup (pv 0) pe_int (fun _ _ => rfl)) pe_str (nomark _)) (pss_one (ps_ret (pe_op op_cat (pe_call R hr rfl gR F.kp bR .nil pass0 (pa_cons (pe_ix ix_tup (pv 0) pe_int (fun _ _ => rfl)) pa_nil)) (pe_call R hr rfl gR F.kp bR .nil pass0 (pa_cons (pe_ix ix_tup (pv 0) pe_int (fun _ _ => rfl)) pa_nil))))) pss_nil)
    (pss_one (ps_ret (pe_lc (own := [("_law_taken", 1), ("_law_mark", 2)]) (g := gTup K 2 (gCons (gName 1) (gCons (gName 2) gNil))) (tt := tYes) rfl scLEnds.nd (pi_list (pe_call R hr rfl gR F.kp bR .nil pass0 (pa_cons (pe_ix ix_tup (pv 0) pe_int (fun _ _ => rfl)) pa_nil)))
      (blkOk_by (N := nLEnds) (sc := defScope sLEnds) (by decide +kernel)) (fun _ _ _ _ _ => pg_tup rfl (pgs_cons (pg_name (i := 1) scLEnds.nd rfl (.inl rfl)) (pgs_cons (pg_name (i := 2) scLEnds.nd rfl (.inl rfl)) pgs_nil))) (fun _ _ _ _ _ => pts_nil)
      (fun _ _ _ _ _ => pe_tup (pa_cons (pe_op op_cat (pe_lst (pa_cons (pe_ix (r := rIxT K) ix_tup (pv 0) pe_int (fun _ _ => rfl)) pa_nil)) (pv 1)) (pa_cons (pv 2) pa_nil)))))))), ?_⟩
  -- kind[0] == 'one'
  obtain ⟨xs, hx, h0⟩ := hk.head
  refine ⟨.ref a, rfl, a, xs, 0, .str (word k), rfl, rfl, SqT.of hx, atI_nat (j := 0) h0, rfl, _, rfl, ?_⟩
  rw [word_one]
  refine ite2 (fun e => ?_) (fun e => ?_)
  · have ec : con k = 2 := of_decide_eq_true e
    cases k with
    | one => exact ⟨Nat.zero_le _, fun l hl => q _ l (same_new hl _) ⟨[], hl, upd_same, .nil⟩⟩
    | mk m => cases ec
    | to x y => cases ec
    | both x y => cases ec
  have e1 : ¬ k = .one := fun z => by
    subst z
    exact e rfl
  -- kind[0] == 'mark'
  refine ⟨.ref a, rfl, a, xs, 0, .str (word k), rfl, rfl, SqT.of hx, atI_nat (j := 0) h0, rfl, _, rfl, ?_⟩
  rw [word_mark]
  refine ite2 (fun e => ?_) (fun e => ?_)
  · have ec : con k = 1 := of_decide_eq_true e
    cases k with
    | mk m =>
      refine ⟨Nat.zero_le _, fun tl htl => ?_⟩
      have s1 : Same H (upd H tl (.lst [])) := same_new htl _
      refine ⟨.ref a, rfl, a, _, 1, .str m, rfl, rfl, SqT.of (s1 _ _ hk), rfl, ln2, fun p hp => ?_⟩
      have s2 : Same (upd H tl (.lst [])) (upd (upd H tl (.lst [])) p (.tup [.ref tl, .str m])) := same_new hp _
      refine ⟨ln1, fun l hl => ?_⟩
      have s3 := same_new hl (.lst [.ref p])
      exact q _ l (s1.trans (s2.trans s3)) ⟨[p], (s1.trans s2).free hl, upd_same, .cons ⟨tl, [], htl, s3 _ _ upd_same, s3 _ _ (s2 _ _ upd_same), .nil⟩ .nil⟩
    | one => cases ec
    | to x y => cases ec
    | both x y => cases ec
  have ec : ¬ con k = 1 := of_decide_eq_false (Bool.eq_false_iff.mpr e)
  -- kind[0] == 'both'
  refine ⟨.ref a, rfl, a, xs, 0, .str (word k), rfl, rfl, SqT.of hx, atI_nat (j := 0) h0, rfl, _, rfl, ?_⟩
  rw [word_both]
  cases k with
  | one => exact absurd rfl e1
  | mk m => exact absurd rfl ec
  | both x y =>
    obtain ⟨p, r, hh, hp, hr'⟩ := hk
    have l1 := leaves_pos x
    have l2 := leaves_pos y
    have l5 := hg.2
    simp only [leaves] at hn l5
    refine iteT ?_
    refine ⟨.ref a, rfl, a, _, 1, .ref p, rfl, rfl, SqT.of hh, rfl, x, p, rfl, hp, by omega, hg.left', fun H1 i1 s1 e1 => ?_⟩
    refine ⟨.ref a, rfl, a, _, 2, .ref r, rfl, rfl, SqT.of (s1 _ _ hh), rfl, y, r, rfl, hr'.same s1, by omega, hg.right', fun H2 i2 s2 e2 => ?_⟩
    obtain ⟨ps1, _, a1, b1⟩ := e1.same kv_mono s2
    obtain ⟨ps2, _, a2, b2⟩ := e2.imp (Fr' := fun a => H a = none) fun a z => s1.free z
    have z1 := paired_len b1
    have z2 := paired_len b2
    have y1 := ends_small hg.left'
    have y2 := ends_small hg.right'
    refine ⟨i1, i2, _, _, rfl, rfl, a1, a2, line_big (by rw [List.length_map, List.length_map]; omega), fun t ht => ?_⟩
    have s3 := same_new ht (.lst (ps1.map V.ref ++ ps2.map V.ref))
    refine q _ t (s1.trans (s2.trans s3)) ⟨ps1 ++ ps2, (s1.trans s2).free ht, by rw [upd_same, List.map_append], paired_app (Paired.mapP b1 fun _ _ z => z.same kv_mono s3) (Paired.mapP b2 fun _ _ z => z.same kv_mono s3)⟩
  | to x y =>
    obtain ⟨p, r, hh, hp, hr'⟩ := hk
    have l1 := leaves_pos x
    have l2 := leaves_pos y
    have l5 := hg.2
    simp only [leaves] at hn l5
    refine iteF ?_
    refine ⟨.ref a, rfl, a, _, 2, .ref r, rfl, rfl, SqT.of hh, rfl, y, r, rfl, hr', by omega, hg.right, fun H1 i1 s1 e1 => ?_⟩
    obtain ⟨ps, _, a1, b1⟩ := e1
    have z1 := paired_len b1
    have y1 := ends_small hg.right
    refine ⟨i1, rfl, ⟨_, SqL.of a1⟩, fun D hD => ?_⟩
    refine lc_list (K := K) (a := i1) (xs := ps.map V.ref) (fun i H' => Same H1 (hide D H') ∧ ∃ ps' : List Addr, H' D = some (.lst (ps'.map V.ref)) ∧ Paired (PairG KvAt (fun a => H a = none) (hide D H')) ps' (((ends y).map fun e => (x :: e.1, e.2)).take i))
      ⟨same_hide hD (same_new hD _), [], upd_same, .nil⟩ (fun i H' _ h => SqL.of (hide_same D H' _ _ (h.1 _ _ a1))) (fun i v H3 hv h => ?_) fun H3 h => ?_
    · obtain ⟨sm, ps', hd, hps⟩ := h
      obtain ⟨pi, hpi, rfl⟩ := map_refs_at hv
      obtain ⟨e, he, hpe⟩ := paired_at b1 hpi
      obtain ⟨tl, vs, _, t1, t2, t3⟩ := PairG.same kv_mono sm hpe
      obtain ⟨n1, t1'⟩ := hide_some t1
      obtain ⟨n2, t2'⟩ := hide_some t2
      have t0 := hide_some (sm _ _ (s1 _ _ hh))
      have tv := paired_len t3
      have te := taken_len (List.mem_of_getElem? he)
      refine ⟨pi, _, rfl, SqT.of t1', rfl, _, _, rfl, _, _, rfl, rfl, rfl, ?_⟩
      -- [kind[1]] + taken
      refine ⟨.ref a, rfl, a, _, 1, .ref p, rfl, rfl, SqT.of t0.2, rfl, ln1, fun c hc => ?_⟩
      have u1 := same_new hc (.lst [.ref p])
      refine ⟨.ref tl, rfl, c, tl, _, _, rfl, rfl, upd_same, u1 _ _ t2', line_big (by have := hg.right.2; simp only [List.length_cons, List.length_nil]; omega), fun t ht => ?_⟩
      have u2 := same_new ht (.lst ([.ref p] ++ vs))
      refine ⟨.str e.2, rfl, ln2, fun T hT => ?_⟩
      have u3 := same_new hT (.tup [.ref t, .str e.2])
      have u := u1.trans (u2.trans u3)
      have hd3 := u _ _ hd
      have nt : t ≠ D := (ne_of_none (u1 _ _ hd) ht).symm
      have nT : T ≠ D := (ne_of_none (u2 _ _ (u1 _ _ hd)) hT).symm
      have lp := paired_len hps
      refine ⟨_, hd3, ?_, ?_⟩
      · rw [List.length_map, lp, List.length_take, List.length_map]
        exact Nat.lt_of_le_of_lt (Nat.min_le_right _ _) (by rw [sizeLine_eq]; omega)
      · rw [hide_upd]
        refine ⟨sm.trans (hide_mono u), ps' ++ [T], by rw [upd_same, List.map_append]; rfl, ?_⟩
        have ge : ((ends y).map fun e => (x :: e.1, e.2))[i]? = some (x :: e.1, e.2) := by rw [List.getElem?_map, he]; rfl
        rw [take_snoc ge]
        refine Paired.snoc (Paired.mapP hps fun _ _ z => z.same kv_mono (hide_mono u)) ⟨t, .ref p :: vs, (s1.trans (sm.trans ((hide_same D H3).trans u1))).free ht, ?_, ?_, .cons ⟨p, rfl, ?_⟩ (Paired.mapP t3 fun _ _ z => z.same (hide_mono u))⟩
        · rw [hide_ne nT, upd_same]
        · rw [hide_ne nt]
          exact u3 _ _ upd_same
        · exact hp.same (s1.trans (sm.trans (hide_mono u)))
    · obtain ⟨sm, ps', hd, hps⟩ := h
      refine q H3 D (s1.trans (sm.trans (hide_same D H3))) ⟨ps', s1.free hD, hd, ?_⟩
      have e : ((ends y).map fun e => (x :: e.1, e.2)).take (ps.map V.ref).length = (ends y).map fun e => (x :: e.1, e.2) := List.take_of_length_le (by rw [List.length_map, List.length_map]; omega)
      rw [e] at hps
      exact Paired.mapP hps fun _ _ z => z.same kv_mono (hide_same D H3)
theorem ok_lways {n : Nat} (F : Fun K "_law_ways" "_law_ways" sLWays f fd) (G : Glo K mg o1) (R : FnOk P w K mg base CX0 n f fd ["_law_kind_here"] (spEnds n)) (bR : Binds K fd ["_law_kind_here"] []) (gR : mg "_law_ways" = some (.ref f)) :
    FnOk P w K mg base CX0 (n + 1) f fd ["_law_kind_here"] (spEnds (n + 1)) := by
  refine F.ok scLWays (fun vs H Q E h => ?_) (fun cdv A outer s H vs Q E hr h => ?_)
  · obtain ⟨k, a, rfl, _⟩ := h
    rfl
  obtain ⟨k, a, rfl, hk, hn, hg, q⟩ := h
  refine ⟨_, pss_cons (ps_if (pt_cmpR op_eq (pe_ix ix_tup (pv 0) pe_int (fun _ _ => rfl)) pe_str (nomark _)) (pss_one (ps_ret (pe_lst pa_nil))) pss_nil)
    (pss_cons (ps_if (pt_cmpR op_eq (pe_ix ix_tup (pv 0) pe_int (fun _ _ => rfl)) pe_str (nomark _)) (pss_one (ps_ret (pe_lst (pa_cons (pe_tup (pa_cons (pe_lst pa_nil) (pa_cons (pe_ix ix_tup (pv 0) pe_int (fun _ _ => rfl)) pa_nil))) pa_nil)))) pss_nil)
    (pss_cons (ps_if (pt_cmpR op_eq (pe_ix ix_tup (pv 0) pe_int (fun _ _ => rfl)) pe_str (nomark _)) (pss_one (ps_ret (pe_op op_cat (pe_call R hr rfl gR F.kp bR .nil pass0 (pa_cons (pe_ix ix_tup (pv 0) pe_int (fun _ _ => rfl)) pa_nil)) (pe_call R hr rfl gR F.kp bR .nil pass0 (pa_cons (pe_ix ix_tup (pv 0) pe_int (fun _ _ => rfl)) pa_nil))))) pss_nil)
    (pss_one (ps_ret (pe_lc (own := [("_law_moves", 1), ("_law_mark", 2)]) (g := gTup K 2 (gCons (gName 1) (gCons (gName 2) gNil))) (tt := tYes) rfl scLWays.nd (pi_list (pe_call R hr rfl gR F.kp bR .nil pass0 (pa_cons (pe_ix ix_tup (pv 0) pe_int (fun _ _ => rfl)) pa_nil)))
      (blkOk_by (N := nLWays) (sc := defScope sLWays) (by decide +kernel)) (fun _ _ _ _ _ => pg_tup rfl (pgs_cons (pg_name (i := 1) scLWays.nd rfl (.inl rfl)) (pgs_cons (pg_name (i := 2) scLWays.nd rfl (.inl rfl)) pgs_nil))) (fun _ _ _ _ _ => pts_nil)
      (fun _ _ _ _ _ => pe_tup (pa_cons (pe_op op_cat (pe_lst (pa_cons (pe_ix (r := rIxT K) ix_tup (pv 0) pe_int (fun _ _ => rfl)) pa_nil)) (pv 1)) (pa_cons (pv 2) pa_nil)))))))), ?_⟩
  -- kind[0] == 'one'
  obtain ⟨xs, hx, h0⟩ := hk.head
  refine ⟨.ref a, rfl, a, xs, 0, .str (word k), rfl, rfl, SqT.of hx, atI_nat (j := 0) h0, rfl, _, rfl, ?_⟩
  rw [word_one]
  refine ite2 (fun e => ?_) (fun e => ?_)
  · have ec : con k = 2 := of_decide_eq_true e
    cases k with
    | one => exact ⟨Nat.zero_le _, fun l hl => q _ l (same_new hl _) ⟨[], hl, upd_same, .nil⟩⟩
    | mk m => cases ec
    | to x y => cases ec
    | both x y => cases ec
  have e1 : ¬ k = .one := fun z => by
    subst z
    exact e rfl
  -- kind[0] == 'mark'
  refine ⟨.ref a, rfl, a, xs, 0, .str (word k), rfl, rfl, SqT.of hx, atI_nat (j := 0) h0, rfl, _, rfl, ?_⟩
  rw [word_mark]
  refine ite2 (fun e => ?_) (fun e => ?_)
  · have ec : con k = 1 := of_decide_eq_true e
    cases k with
    | mk m =>
      refine ⟨Nat.zero_le _, fun tl htl => ?_⟩
      have s1 : Same H (upd H tl (.lst [])) := same_new htl _
      refine ⟨.ref a, rfl, a, _, 1, .str m, rfl, rfl, SqT.of (s1 _ _ hk), rfl, ln2, fun p hp => ?_⟩
      have s2 : Same (upd H tl (.lst [])) (upd (upd H tl (.lst [])) p (.tup [.ref tl, .str m])) := same_new hp _
      refine ⟨ln1, fun l hl => ?_⟩
      have s3 := same_new hl (.lst [.ref p])
      exact q _ l (s1.trans (s2.trans s3)) ⟨[p], (s1.trans s2).free hl, upd_same, .cons ⟨tl, [], htl, s3 _ _ upd_same, s3 _ _ (s2 _ _ upd_same), .nil⟩ .nil⟩
    | one => cases ec
    | to x y => cases ec
    | both x y => cases ec
  have ec : ¬ con k = 1 := of_decide_eq_false (Bool.eq_false_iff.mpr e)
  -- kind[0] == 'both'
  refine ⟨.ref a, rfl, a, xs, 0, .str (word k), rfl, rfl, SqT.of hx, atI_nat (j := 0) h0, rfl, _, rfl, ?_⟩
  rw [word_both]
  cases k with
  | one => exact absurd rfl e1
  | mk m => exact absurd rfl ec
  | both x y =>
    obtain ⟨p, r, hh, hp, hr'⟩ := hk
    have l1 := leaves_pos x
    have l2 := leaves_pos y
    have l5 := hg.2
    simp only [leaves] at hn l5
    refine iteT ?_
    refine ⟨.ref a, rfl, a, _, 1, .ref p, rfl, rfl, SqT.of hh, rfl, x, p, rfl, hp, by omega, hg.left', fun H1 i1 s1 e1 => ?_⟩
    refine ⟨.ref a, rfl, a, _, 2, .ref r, rfl, rfl, SqT.of (s1 _ _ hh), rfl, y, r, rfl, hr'.same s1, by omega, hg.right', fun H2 i2 s2 e2 => ?_⟩
    obtain ⟨ps1, _, a1, b1⟩ := e1.same kv_mono s2
    obtain ⟨ps2, _, a2, b2⟩ := e2.imp (Fr' := fun a => H a = none) fun a z => s1.free z
    have z1 := paired_len b1
    have z2 := paired_len b2
    have y1 := ends_small hg.left'
    have y2 := ends_small hg.right'
    refine ⟨i1, i2, _, _, rfl, rfl, a1, a2, line_big (by rw [List.length_map, List.length_map]; omega), fun t ht => ?_⟩
    have s3 := same_new ht (.lst (ps1.map V.ref ++ ps2.map V.ref))
    refine q _ t (s1.trans (s2.trans s3)) ⟨ps1 ++ ps2, (s1.trans s2).free ht, by rw [upd_same, List.map_append], paired_app (Paired.mapP b1 fun _ _ z => z.same kv_mono s3) (Paired.mapP b2 fun _ _ z => z.same kv_mono s3)⟩
  | to x y =>
    obtain ⟨p, r, hh, hp, hr'⟩ := hk
    have l1 := leaves_pos x
    have l2 := leaves_pos y
    have l5 := hg.2
    simp only [leaves] at hn l5
    refine iteF ?_
    refine ⟨.ref a, rfl, a, _, 2, .ref r, rfl, rfl, SqT.of hh, rfl, y, r, rfl, hr', by omega, hg.right, fun H1 i1 s1 e1 => ?_⟩
    obtain ⟨ps, _, a1, b1⟩ := e1
    have z1 := paired_len b1
    have y1 := ends_small hg.right
    refine ⟨i1, rfl, ⟨_, SqL.of a1⟩, fun D hD => ?_⟩
    refine lc_list (K := K) (a := i1) (xs := ps.map V.ref) (fun i H' => Same H1 (hide D H') ∧ ∃ ps' : List Addr, H' D = some (.lst (ps'.map V.ref)) ∧ Paired (PairG KvAt (fun a => H a = none) (hide D H')) ps' (((ends y).map fun e => (x :: e.1, e.2)).take i))
      ⟨same_hide hD (same_new hD _), [], upd_same, .nil⟩ (fun i H' _ h => SqL.of (hide_same D H' _ _ (h.1 _ _ a1))) (fun i v H3 hv h => ?_) fun H3 h => ?_
    · obtain ⟨sm, ps', hd, hps⟩ := h
      obtain ⟨pi, hpi, rfl⟩ := map_refs_at hv
      obtain ⟨e, he, hpe⟩ := paired_at b1 hpi
      obtain ⟨tl, vs, _, t1, t2, t3⟩ := PairG.same kv_mono sm hpe
      obtain ⟨n1, t1'⟩ := hide_some t1
      obtain ⟨n2, t2'⟩ := hide_some t2
      have t0 := hide_some (sm _ _ (s1 _ _ hh))
      have tv := paired_len t3
      have te := taken_len (List.mem_of_getElem? he)
      refine ⟨pi, _, rfl, SqT.of t1', rfl, _, _, rfl, _, _, rfl, rfl, rfl, ?_⟩
      -- [kind[1]] + taken
      refine ⟨.ref a, rfl, a, _, 1, .ref p, rfl, rfl, SqT.of t0.2, rfl, ln1, fun c hc => ?_⟩
      have u1 := same_new hc (.lst [.ref p])
      refine ⟨.ref tl, rfl, c, tl, _, _, rfl, rfl, upd_same, u1 _ _ t2', line_big (by have := hg.right.2; simp only [List.length_cons, List.length_nil]; omega), fun t ht => ?_⟩
      have u2 := same_new ht (.lst ([.ref p] ++ vs))
      refine ⟨.str e.2, rfl, ln2, fun T hT => ?_⟩
      have u3 := same_new hT (.tup [.ref t, .str e.2])
      have u := u1.trans (u2.trans u3)
      have hd3 := u _ _ hd
      have nt : t ≠ D := (ne_of_none (u1 _ _ hd) ht).symm
      have nT : T ≠ D := (ne_of_none (u2 _ _ (u1 _ _ hd)) hT).symm
      have lp := paired_len hps
      refine ⟨_, hd3, ?_, ?_⟩
      · rw [List.length_map, lp, List.length_take, List.length_map]
        exact Nat.lt_of_le_of_lt (Nat.min_le_right _ _) (by rw [sizeLine_eq]; omega)
      · rw [hide_upd]
        refine ⟨sm.trans (hide_mono u), ps' ++ [T], by rw [upd_same, List.map_append]; rfl, ?_⟩
        have ge : ((ends y).map fun e => (x :: e.1, e.2))[i]? = some (x :: e.1, e.2) := by rw [List.getElem?_map, he]; rfl
        rw [take_snoc ge]
        refine Paired.snoc (Paired.mapP hps fun _ _ z => z.same kv_mono (hide_mono u)) ⟨t, .ref p :: vs, (s1.trans (sm.trans ((hide_same D H3).trans u1))).free ht, ?_, ?_, .cons ⟨p, rfl, ?_⟩ (Paired.mapP t3 fun _ _ z => z.same (hide_mono u))⟩
        · rw [hide_ne nT, upd_same]
        · rw [hide_ne nt]
          exact u3 _ _ upd_same
        · exact hp.same (s1.trans (sm.trans (hide_mono u)))
    · obtain ⟨sm, ps', hd, hps⟩ := h
      refine q H3 D (s1.trans (sm.trans (hide_same D H3))) ⟨ps', s1.free hD, hd, ?_⟩
      have e : ((ends y).map fun e => (x :: e.1, e.2)).take (ps.map V.ref).length = (ends y).map fun e => (x :: e.1, e.2) := List.take_of_length_le (by rw [List.length_map, List.length_map]; omega)
      rw [e] at hps
      exact Paired.mapP hps fun _ _ z => z.same kv_mono (hide_same D H3)
theorem no_ends {ps : List Str} : FnOk P w K mg base CX0 0 f fd ps (spEnds 0) := by
  have no : ∀ vs H Q E, ¬ spEnds 0 vs H Q E := fun vs H Q E h => by
    obtain ⟨k, a, _, _, hn, _⟩ := h
    have := leaves_pos k
    omega
  exact ⟨fun vs H Q E h => absurd h (no vs H Q E), fun A outer s H args us vs Q E _ _ _ _ h => absurd h (no vs H Q E)⟩
theorem all_ends (F : Fun K "ends_of" "ends_of" sEnds f fd) (G : Glo K mg o1) (bR : Binds K fd ["kind"] []) (gR : mg "ends_of" = some (.ref f)) : ∀ n : Nat, FnOk P w K mg base CX0 n f fd ["kind"] (spEnds n)
  | 0 => no_ends
  | n + 1 => ok_ends F G (all_ends F G bR gR n) bR gR
theorem all_lends (F : Fun K "_law_ends" "_law_ends" sLEnds f fd) (G : Glo K mg o1) (bR : Binds K fd ["_law_kind_here"] []) (gR : mg "_law_ends" = some (.ref f)) : ∀ n : Nat, FnOk P w K mg base CX0 n f fd ["_law_kind_here"] (spEnds n)
  | 0 => no_ends
  | n + 1 => ok_lends F G (all_lends F G bR gR n) bR gR
theorem all_lways (F : Fun K "_law_ways" "_law_ways" sLWays f fd) (G : Glo K mg o1) (bR : Binds K fd ["_law_kind_here"] []) (gR : mg "_law_ways" = some (.ref f)) : ∀ n : Nat, FnOk P w K mg base CX0 n f fd ["_law_kind_here"] (spEnds n)
  | 0 => no_ends
  | n + 1 => ok_lways F G (all_lways F G bR gR n) bR gR
end
end KF
/-! ways_of. -/
namespace KF
open PySem PySem.Spec PyProof.Rows L2

def spWays (n : Nat) : Sp := fun vs H Q _ => ∃ (k : Kd) (a : Addr), vs = [.ref a] ∧ KAt H k a ∧ leaves k ≤ n ∧ Good k ∧ ∀ H' l, Same H H' → ListG MvAt (fun a => H a = none) H' l (pways k) → Q (.ref l) H'
theorem pways_small {k : Kd} (h : Good k) : (pways k).length ≤ 8 := Nat.le_trans pways_len h.2
section
variable {P : Program} {w : World} {K : PySem.W.Frag} {mg : Str → Option Value} {base : Heap} {o1 f : Addr} {fd : FuncData}
theorem ok_ways {n : Nat} (F : Fun K "ways_of" "ways_of" sWays f fd) (G : Glo K mg o1) (R : FnOk P w K mg base CX0 n f fd ["kind"] (spWays n)) (bR : Binds K fd ["kind"] []) (gR : mg "ways_of" = some (.ref f)) :
    FnOk P w K mg base CX0 (n + 1) f fd ["kind"] (spWays (n + 1)) := by
  refine F.ok scWays (fun vs H Q E h => ?_) (fun cdv A outer s H vs Q E hr h => ?_)
  · obtain ⟨k, a, rfl, _⟩ := h
    rfl
  obtain ⟨k, a, rfl, hk, hn, hg, q⟩ := h
  refine ⟨_, pss_cons (ps_if (pt_cmpR (op_eqD hr.units) (pv 0) (pe_glob (v := .ref o1) rfl G.one rfl) (nomark _)) (pss_one (ps_ret (pe_lst pa_nil))) pss_nil)
    (pss_cons (ps_if (pt_cmpR op_eq (pe_ix ix_tup (pv 0) pe_int (fun _ _ => rfl)) pe_str (nomark _)) (pss_one (ps_ret (pe_lst (pa_cons (pe_tup (pa_cons (pe_lst pa_nil) (pa_cons (pe_ix ix_tup (pv 0) pe_int (fun _ _ => rfl)) pa_nil))) pa_nil)))) pss_nil)
    (pss_cons (ps_if (pt_cmpR op_eq (pe_ix ix_tup (pv 0) pe_int (fun _ _ => rfl)) pe_str (nomark _)) (pss_one (ps_ret (pe_lc (own := [("moves", 2), ("mark", 3)]) (g := gTup K 2 (gCons (gName 2) (gCons (gName 3) gNil))) (tt := tYes) rfl scWays.nd (pi_list (pe_call R hr rfl gR F.kp bR .nil pass0 (pa_cons (pe_ix ix_tup (pv 0) pe_int (fun _ _ => rfl)) pa_nil)))
      (blkOk_by (N := nWays) (sc := defScope sWays) (by decide +kernel)) (fun _ _ _ _ _ => pg_tup rfl (pgs_cons (pg_name (i := 2) scWays.nd rfl (.inl rfl)) (pgs_cons (pg_name (i := 3) scWays.nd rfl (.inl rfl)) pgs_nil))) (fun _ _ _ _ _ => pts_nil)
      (fun _ _ _ _ _ => pe_tup (pa_cons (pe_op op_cat (pe_lst (pa_cons (pe_ix (r := rIxT K) ix_tup (pv 0) pe_int (fun _ _ => rfl)) pa_nil)) (pv 2)) (pa_cons (pv 3) pa_nil)))))) pss_nil)
    (pss_cons (ps_setLc (i := 1) (own := [("moves", 2), ("mark", 3)]) (g := gTup K 2 (gCons (gName 2) (gCons (gName 3) gNil))) (tt := tYes) rfl scWays.nd rfl rfl (sw_true rfl rfl rfl (by decide +kernel)) (pi_list (pe_call R hr rfl gR F.kp bR .nil pass0 (pa_cons (pe_ix ix_tup (pv 0) pe_int (fun _ _ => rfl)) pa_nil)))
      (blkOk_by (N := nWays) (sc := defScope sWays) (by decide +kernel)) (fun _ _ _ _ _ => pg_tup rfl (pgs_cons (pg_name (i := 2) scWays.nd rfl (.inl rfl)) (pgs_cons (pg_name (i := 3) scWays.nd rfl (.inl rfl)) pgs_nil))) (fun _ _ _ _ _ => pts_nil)
      (fun _ _ _ _ _ => pe_tup (pa_cons (pe_op op_cat (pe_lst (pa_cons (pe_int) pa_nil)) (pv 2)) (pa_cons (pv 3) pa_nil))))
    (pss_one (ps_ret (pe_op op_cat (pv 1) (pe_lc (own := [("moves", 2), ("mark", 3)]) (g := gTup K 2 (gCons (gName 2) (gCons (gName 3) gNil))) (tt := tYes) rfl scWays.nd (pi_list (pe_call R hr rfl gR F.kp bR .nil pass0 (pa_cons (pe_ix ix_tup (pv 0) pe_int (fun _ _ => rfl)) pa_nil)))
      (blkOk_by (N := nWays) (sc := defScope sWays) (by decide +kernel)) (fun _ _ _ _ _ => pg_tup rfl (pgs_cons (pg_name (i := 2) scWays.nd rfl (.inl rfl)) (pgs_cons (pg_name (i := 3) scWays.nd rfl (.inl rfl)) pgs_nil))) (fun _ _ _ _ _ => pts_nil)
      (fun _ _ _ _ _ => pe_tup (pa_cons (pe_op op_cat (pe_lst (pa_cons (pe_int) pa_nil)) (pv 2)) (pa_cons (pv 3) pa_nil)))))))))), ?_⟩
  -- kind == ONE
  refine ⟨.ref a, rfl, dat k, dat .one, hk.dp, one_dp G H, dat_shaped hg, dat_shaped good_one, _, rfl, ?_⟩
  rw [dat_eqv]
  refine ite2 (fun e => ?_) (fun e => ?_)
  · have e1 : k = .one := of_decide_eq_true e
    subst e1
    exact ⟨Nat.zero_le _, fun l hl => q _ l (same_new hl _) ⟨[], hl, upd_same, .nil⟩⟩
  have e1 : ¬ k = .one := of_decide_eq_false (Bool.eq_false_iff.mpr e)
  -- kind[0] == 'mark'
  obtain ⟨xs, hx, h0⟩ := hk.head
  refine ⟨.ref a, rfl, a, xs, 0, .str (word k), rfl, rfl, SqT.of hx, atI_nat (j := 0) h0, rfl, _, rfl, ?_⟩
  rw [word_mark]
  refine ite2 (fun e => ?_) (fun e => ?_)
  · have ec : con k = 1 := of_decide_eq_true e
    cases k with
    | mk m =>
      refine ⟨Nat.zero_le _, fun tl htl => ?_⟩
      have s1 : Same H (upd H tl (.lst [])) := same_new htl _
      refine ⟨.ref a, rfl, a, _, 1, .str m, rfl, rfl, SqT.of (s1 _ _ hk), rfl, ln2, fun p hp => ?_⟩
      have s2 : Same (upd H tl (.lst [])) (upd (upd H tl (.lst [])) p (.tup [.ref tl, .str m])) := same_new hp _
      refine ⟨ln1, fun l hl => ?_⟩
      have s3 := same_new hl (.lst [.ref p])
      exact q _ l (s1.trans (s2.trans s3)) ⟨[p], (s1.trans s2).free hl, upd_same, .cons ⟨tl, [], htl, s3 _ _ upd_same, s3 _ _ (s2 _ _ upd_same), .nil⟩ .nil⟩
    | one => cases ec
    | to x y => cases ec
    | both x y => cases ec
  have ec : ¬ con k = 1 := of_decide_eq_false (Bool.eq_false_iff.mpr e)
  -- kind[0] == 'to'
  refine ⟨.ref a, rfl, a, xs, 0, .str (word k), rfl, rfl, SqT.of hx, atI_nat (j := 0) h0, rfl, _, rfl, ?_⟩
  rw [word_to]
  cases k with
  | one => exact absurd rfl e1
  | mk m => exact absurd rfl ec
  | to x y =>
    obtain ⟨p, r, hh, hp, hr'⟩ := hk
    have l1 := leaves_pos x
    have l2 := leaves_pos y
    have l5 := hg.2
    simp only [leaves] at hn l5
    refine iteT ?_
    refine ⟨.ref a, rfl, a, _, 2, .ref r, rfl, rfl, SqT.of hh, rfl, y, r, rfl, hr', by omega, hg.right, fun H1 i1 s1 e1 => ?_⟩
    obtain ⟨ps, _, a1, b1⟩ := e1
    have z1 := paired_len b1
    have y1 := pways_small hg.right
    refine ⟨i1, rfl, ⟨_, SqL.of a1⟩, fun D hD => ?_⟩
    refine lc_list (K := K) (a := i1) (xs := ps.map V.ref) (fun i H' => Same H1 (hide D H') ∧ ∃ ps' : List Addr, H' D = some (.lst (ps'.map V.ref)) ∧ Paired (PairG MvAt (fun a => H a = none) (hide D H')) ps' (((pways y).map fun e => ((Sum.inr x) :: e.1, e.2)).take i))
      ⟨same_hide hD (same_new hD _), [], upd_same, .nil⟩ (fun i H' _ h => SqL.of (hide_same D H' _ _ (h.1 _ _ a1))) (fun i v H3 hv h => ?_) fun H3 h => ?_
    · obtain ⟨sm, ps', hd, hps⟩ := h
      obtain ⟨pi, hpi, rfl⟩ := map_refs_at hv
      obtain ⟨e, he, hpe⟩ := paired_at b1 hpi
      obtain ⟨tl, vs, _, t1, t2, t3⟩ := PairG.same mv_mono sm hpe
      obtain ⟨n1, t1'⟩ := hide_some t1
      obtain ⟨n2, t2'⟩ := hide_some t2
      have tv := paired_len t3
      have te := pmoves_len (List.mem_of_getElem? he)
      refine ⟨pi, _, rfl, SqT.of t1', rfl, _, _, rfl, _, _, rfl, rfl, rfl, ?_⟩
      have t0 := hide_some (sm _ _ (s1 _ _ hh))
      refine ⟨.ref a, rfl, a, _, 1, .ref p, rfl, rfl, SqT.of t0.2, rfl, ln1, fun c hc => ?_⟩
      have u1 := same_new hc (.lst [.ref p])
      refine ⟨.ref tl, rfl, c, tl, _, _, rfl, rfl, upd_same, u1 _ _ t2', line_big (by simp only [List.length_cons, List.length_nil]; omega), fun t ht => ?_⟩
      have u2 := same_new ht (.lst ([.ref p] ++ vs))
      refine ⟨.str e.2, rfl, ln2, fun T hT => ?_⟩
      have u3 := same_new hT (.tup [.ref t, .str e.2])
      have u := u1.trans (u2.trans u3)
      have hd3 := u _ _ hd
      have nt : t ≠ D := (ne_of_none (u1 _ _ hd) ht).symm
      have nT : T ≠ D := (ne_of_none (u2 _ _ (u1 _ _ hd)) hT).symm
      have lp := paired_len hps
      refine ⟨_, hd3, ?_, ?_⟩
      · rw [List.length_map, lp, List.length_take, List.length_map]
        exact Nat.lt_of_le_of_lt (Nat.min_le_right _ _) (by rw [sizeLine_eq]; omega)
      · rw [hide_upd]
        refine ⟨sm.trans (hide_mono u), ps' ++ [T], by rw [upd_same, List.map_append]; rfl, ?_⟩
        have ge : ((pways y).map fun e => ((Sum.inr x) :: e.1, e.2))[i]? = some ((Sum.inr x) :: e.1, e.2) := by rw [List.getElem?_map, he]; rfl
        rw [take_snoc ge]
        refine Paired.snoc (Paired.mapP hps fun _ _ z => z.same mv_mono (hide_mono u)) ⟨t, .ref p :: vs, (s1.trans (sm.trans ((hide_same D H3).trans u1))).free ht, ?_, ?_, .cons (show MvAt _ _ (Sum.inr x) from ⟨p, rfl, hp.same (s1.trans (sm.trans (hide_mono u)))⟩) (Paired.mapP t3 fun _ _ z => z.same (hide_mono u))⟩
        · rw [hide_ne nT, upd_same]
        · rw [hide_ne nt]
          exact u3 _ _ upd_same
    · obtain ⟨sm, ps', hd, hps⟩ := h
      have ed : ((pways y).map fun e => ((Sum.inr x) :: e.1, e.2)).take (ps.map V.ref).length = (pways y).map fun e => ((Sum.inr x) :: e.1, e.2) := List.take_of_length_le (by rw [List.length_map, List.length_map]; omega)
      rw [ed] at hps
      have hL : ListG MvAt (fun a => H a = none) H3 D ((pways y).map fun e => ((Sum.inr x) :: e.1, e.2)) := ⟨ps', s1.free hD, hd, Paired.mapP hps fun _ _ z => z.same mv_mono (hide_same D H3)⟩
      have sA : Same H1 H3 := sm.trans (hide_same D H3)

      exact q H3 D (s1.trans sA) hL
  | both x y =>
    obtain ⟨p, r, hh, hp, hr'⟩ := hk
    have l1 := leaves_pos x
    have l2 := leaves_pos y
    have l5 := hg.2
    simp only [leaves] at hn l5
    refine iteF ?_
    refine ⟨.ref a, rfl, a, _, 1, .ref p, rfl, rfl, SqT.of hh, rfl, x, p, rfl, hp, by omega, hg.left', fun H1 i1 s1 e1 => ?_⟩
    obtain ⟨ps, _, a1, b1⟩ := e1
    have z1 := paired_len b1
    have y1 := pways_small hg.left'
    refine ⟨i1, rfl, ⟨_, SqL.of a1⟩, fun D hD => ?_⟩
    refine lc_list (K := K) (a := i1) (xs := ps.map V.ref) (fun i H' => Same H1 (hide D H') ∧ ∃ ps' : List Addr, H' D = some (.lst (ps'.map V.ref)) ∧ Paired (PairG MvAt (fun a => H a = none) (hide D H')) ps' (((pways x).map fun e => ((Sum.inl 1) :: e.1, e.2)).take i))
      ⟨same_hide hD (same_new hD _), [], upd_same, .nil⟩ (fun i H' _ h => SqL.of (hide_same D H' _ _ (h.1 _ _ a1))) (fun i v H3 hv h => ?_) fun H3 h => ?_
    · obtain ⟨sm, ps', hd, hps⟩ := h
      obtain ⟨pi, hpi, rfl⟩ := map_refs_at hv
      obtain ⟨e, he, hpe⟩ := paired_at b1 hpi
      obtain ⟨tl, vs, _, t1, t2, t3⟩ := PairG.same mv_mono sm hpe
      obtain ⟨n1, t1'⟩ := hide_some t1
      obtain ⟨n2, t2'⟩ := hide_some t2
      have tv := paired_len t3
      have te := pmoves_len (List.mem_of_getElem? he)
      refine ⟨pi, _, rfl, SqT.of t1', rfl, _, _, rfl, _, _, rfl, rfl, rfl, ?_⟩
      refine ⟨ln1, fun c hc => ?_⟩
      have u1 := same_new hc (.lst [.int 1])
      refine ⟨.ref tl, rfl, c, tl, _, _, rfl, rfl, upd_same, u1 _ _ t2', line_big (by simp only [List.length_cons, List.length_nil]; omega), fun t ht => ?_⟩
      have u2 := same_new ht (.lst ([.int 1] ++ vs))
      refine ⟨.str e.2, rfl, ln2, fun T hT => ?_⟩
      have u3 := same_new hT (.tup [.ref t, .str e.2])
      have u := u1.trans (u2.trans u3)
      have hd3 := u _ _ hd
      have nt : t ≠ D := (ne_of_none (u1 _ _ hd) ht).symm
      have nT : T ≠ D := (ne_of_none (u2 _ _ (u1 _ _ hd)) hT).symm
      have lp := paired_len hps
      refine ⟨_, hd3, ?_, ?_⟩
      · rw [List.length_map, lp, List.length_take, List.length_map]
        exact Nat.lt_of_le_of_lt (Nat.min_le_right _ _) (by rw [sizeLine_eq]; omega)
      · rw [hide_upd]
        refine ⟨sm.trans (hide_mono u), ps' ++ [T], by rw [upd_same, List.map_append]; rfl, ?_⟩
        have ge : ((pways x).map fun e => ((Sum.inl 1) :: e.1, e.2))[i]? = some ((Sum.inl 1) :: e.1, e.2) := by rw [List.getElem?_map, he]; rfl
        rw [take_snoc ge]
        refine Paired.snoc (Paired.mapP hps fun _ _ z => z.same mv_mono (hide_mono u)) ⟨t, .int 1 :: vs, (s1.trans (sm.trans ((hide_same D H3).trans u1))).free ht, ?_, ?_, .cons (show MvAt _ (.int 1) (Sum.inl 1) from rfl) (Paired.mapP t3 fun _ _ z => z.same (hide_mono u))⟩
        · rw [hide_ne nT, upd_same]
        · rw [hide_ne nt]
          exact u3 _ _ upd_same
    · obtain ⟨sm, ps', hd, hps⟩ := h
      have ed : ((pways x).map fun e => ((Sum.inl 1) :: e.1, e.2)).take (ps.map V.ref).length = (pways x).map fun e => ((Sum.inl 1) :: e.1, e.2) := List.take_of_length_le (by rw [List.length_map, List.length_map]; omega)
      rw [ed] at hps
      have hL : ListG MvAt (fun a => H a = none) H3 D ((pways x).map fun e => ((Sum.inl 1) :: e.1, e.2)) := ⟨ps', s1.free hD, hd, Paired.mapP hps fun _ _ z => z.same mv_mono (hide_same D H3)⟩
      have sA : Same H1 H3 := sm.trans (hide_same D H3)

      -- found is there; the second half
      refine ⟨.ref D, rfl, .ref a, rfl, a, _, 2, .ref r, rfl, rfl, SqT.of (sA _ _ (s1 _ _ hh)), rfl, y, r, rfl, hr'.same (s1.trans sA), by omega, hg.right', fun H4 i2 s2 e2 => ?_⟩
      have s4 : Same H H4 := s1.trans (sA.trans s2)
      have hF := hL.same mv_mono s2
      have wl := hg.left'.2
      clear hL hps hd sm sA s2 ps'
      have wl1 := pways_small hg.left'
      obtain ⟨qs, _, a2, b2⟩ := e2
      have z2 := paired_len b2
      have y2 := pways_small hg.right'
      refine ⟨i2, rfl, ⟨_, SqL.of a2⟩, fun D2 hD2 => ?_⟩
      refine lc_list (K := K) (a := i2) (xs := qs.map V.ref) (fun i H' => Same H4 (hide D2 H') ∧ ∃ ps' : List Addr, H' D2 = some (.lst (ps'.map V.ref)) ∧ Paired (PairG MvAt (fun a => H a = none) (hide D2 H')) ps' (((pways y).map fun e => ((Sum.inl 2) :: e.1, e.2)).take i))
        ⟨same_hide hD2 (same_new hD2 _), [], upd_same, .nil⟩ (fun i H' _ h => SqL.of (hide_same D2 H' _ _ (h.1 _ _ a2))) (fun i v H3 hv h => ?_) fun H3 h => ?_
      · obtain ⟨sm, ps', hd, hps⟩ := h
        obtain ⟨pi, hpi, rfl⟩ := map_refs_at hv
        obtain ⟨e, he, hpe⟩ := paired_at b2 hpi
        obtain ⟨tl, vs, _, t1, t2, t3⟩ := PairG.same mv_mono sm hpe
        obtain ⟨n1, t1'⟩ := hide_some t1
        obtain ⟨n2, t2'⟩ := hide_some t2
        have tv := paired_len t3
        have te := pmoves_len (List.mem_of_getElem? he)
        refine ⟨pi, _, rfl, SqT.of t1', rfl, _, _, rfl, _, _, rfl, rfl, rfl, ?_⟩
        refine ⟨ln1, fun c hc => ?_⟩
        have u1 := same_new hc (.lst [.int 2])
        refine ⟨.ref tl, rfl, c, tl, _, _, rfl, rfl, upd_same, u1 _ _ t2', line_big (by simp only [List.length_cons, List.length_nil]; omega), fun t ht => ?_⟩
        have u2 := same_new ht (.lst ([.int 2] ++ vs))
        refine ⟨.str e.2, rfl, ln2, fun T hT => ?_⟩
        have u3 := same_new hT (.tup [.ref t, .str e.2])
        have u := u1.trans (u2.trans u3)
        have hd3 := u _ _ hd
        have nt : t ≠ D2 := (ne_of_none (u1 _ _ hd) ht).symm
        have nT : T ≠ D2 := (ne_of_none (u2 _ _ (u1 _ _ hd)) hT).symm
        have lp := paired_len hps
        refine ⟨_, hd3, ?_, ?_⟩
        · rw [List.length_map, lp, List.length_take, List.length_map]
          exact Nat.lt_of_le_of_lt (Nat.min_le_right _ _) (by rw [sizeLine_eq]; omega)
        · rw [hide_upd]
          refine ⟨sm.trans (hide_mono u), ps' ++ [T], by rw [upd_same, List.map_append]; rfl, ?_⟩
          have ge : ((pways y).map fun e => ((Sum.inl 2) :: e.1, e.2))[i]? = some ((Sum.inl 2) :: e.1, e.2) := by rw [List.getElem?_map, he]; rfl
          rw [take_snoc ge]
          refine Paired.snoc (Paired.mapP hps fun _ _ z => z.same mv_mono (hide_mono u)) ⟨t, .int 2 :: vs, (s4.trans (sm.trans ((hide_same D2 H3).trans u1))).free ht, ?_, ?_, .cons (show MvAt _ (.int 2) (Sum.inl 2) from rfl) (Paired.mapP t3 fun _ _ z => z.same (hide_mono u))⟩
          · rw [hide_ne nT, upd_same]
          · rw [hide_ne nt]
            exact u3 _ _ upd_same
      · obtain ⟨sm, ps', hd, hps⟩ := h
        have ed : ((pways y).map fun e => ((Sum.inl 2) :: e.1, e.2)).take (qs.map V.ref).length = (pways y).map fun e => ((Sum.inl 2) :: e.1, e.2) := List.take_of_length_le (by rw [List.length_map, List.length_map]; omega)
        rw [ed] at hps
        have hL : ListG MvAt (fun a => H a = none) H3 D2 ((pways y).map fun e => ((Sum.inl 2) :: e.1, e.2)) := ⟨ps', s4.free hD2, hd, Paired.mapP hps fun _ _ z => z.same mv_mono (hide_same D2 H3)⟩
        have sA : Same H4 H3 := sm.trans (hide_same D2 H3)

        obtain ⟨ps1, _, f1, g1⟩ := hF.same mv_mono sA
        obtain ⟨ps2, _, f2, g2⟩ := hL
        have k1 := paired_len g1
        have k2 := paired_len g2
        rw [List.length_map] at k1 k2
        refine ⟨D, D2, _, _, rfl, rfl, f1, f2, line_big (by rw [List.length_map, List.length_map]; omega), fun t ht => ?_⟩
        have s5 := same_new ht (.lst (ps1.map V.ref ++ ps2.map V.ref))
        refine q _ t (s4.trans (sA.trans s5)) ⟨ps1 ++ ps2, (s4.trans sA).free ht, by rw [upd_same, List.map_append], ?_⟩
        exact paired_app (Paired.mapP g1 fun _ _ z => z.same mv_mono s5) (Paired.mapP g2 fun _ _ z => z.same mv_mono s5)
theorem no_ways {ps : List Str} : FnOk P w K mg base CX0 0 f fd ps (spWays 0) := by
  have no : ∀ vs H Q E, ¬ spWays 0 vs H Q E := fun vs H Q E h => by
    obtain ⟨k, a, _, _, hn, _⟩ := h
    have := leaves_pos k
    omega
  exact ⟨fun vs H Q E h => absurd h (no vs H Q E), fun A outer s H args us vs Q E _ _ _ _ h => absurd h (no vs H Q E)⟩
theorem all_ways (F : Fun K "ways_of" "ways_of" sWays f fd) (G : Glo K mg o1) (bR : Binds K fd ["kind"] []) (gR : mg "ways_of" = some (.ref f)) : ∀ n : Nat, FnOk P w K mg base CX0 n f fd ["kind"] (spWays n)
  | 0 => no_ways
  | n + 1 => ok_ways F G (all_ways F G bR gR n) bR gR
end
end KF
/-! The object that finds what can be had: what holds of it; with_more. -/
namespace KF
open PySem PySem.Spec PyProof.Rows L2

theorem kf_ne : ¬ (("kinds" : Str) = "found") := by decide +kernel
def hf (kd fd : Addr) : List (Str × V) := putF "found" (.ref fd) (putF "kinds" (.ref kd) [])
theorem hf_kinds (kd fd : Addr) : (hf kd fd).lookup ("kinds" : Str) = some (.ref kd) := by
  unfold hf
  rw [lookup_putF, if_neg kf_ne, lookup_putF, if_pos rfl]
theorem hf_found (kd fd : Addr) : (hf kd fd).lookup ("found" : Str) = some (.ref fd) := by
  unfold hf
  rw [lookup_putF, if_pos rfl]
theorem hf_no (kd fd : Addr) {m : Str} (h1 : ¬ m = "found") (h2 : ¬ m = "kinds") : (hf kd fd).lookup m = none := by
  unfold hf
  rw [lookup_putF, if_neg h1, lookup_putF, if_neg h2]
  all_goals rfl
structure HCls (K : PySem.W.Frag) (mg : Str → Option Value) (C : Addr) : Prop where
  cl : Cls K C
  nK : NoAttr K C "kinds"
  nF : NoAttr K C "found"
  mgC : mg "Having" = some (.ref C)
/-- the kind is known by its text -/
def Kn (H : Hp) (kd : Addr) (k : Kd) : Prop := ∃ kvs, H kd = some (.dK kvs) ∧ (valV kvs (Sum.inr (txt k))).isSome = true
structure KindsOk (U : List Kd) (H : Hp) (kvs : List (Key × V)) (T : List Kd) : Prop where
  keys : KeysAre kvs T
  sub : ∀ k ∈ T, k ∈ U
  at_ : ∀ k ∈ T, ∃ v, valV kvs (Sum.inr (txt k)) = some v ∧ KvAt H v k
/-- what is found for x -/
def FndAt (U : List Kd) (kd : Addr) (H : Hp) (x : List Key) (v : V) : Prop := ∃ (S : List Kd) (d : Addr) (mks : List (Key × V)) (M : List Str), x = keysOf S ∧ CtxU U S ∧ v = .ref d ∧ d ≠ kd ∧ H d = some (.dK mks) ∧ mks.map (·.1) = M.map Sum.inr ∧ IsHad S M ∧ M.Nodup
structure HavAt (U : List Kd) (C : Addr) (H : Hp) (p kd fd : Addr) : Prop where
  ob : ∃ dx, H p = some (.ins C dx (hf kd fd))
  kinds : ∃ kvs T, H kd = some (.dK kvs) ∧ KindsOk U H kvs T
  found : ∃ fvs, H fd = some (.dT fvs) ∧ (fvs.map (·.1)).Nodup ∧ ∀ x v, valV fvs x = some v → FndAt U kd H x v
/-- all else stays; kinds that are known are known still -/
structure Kept (kd fd : Addr) (H H' : Hp) : Prop where
  same : ∀ b o, b ≠ kd → b ≠ fd → H b = some o → H' b = some o
  grow : ∀ k : Kd, Kn H kd k → Kn H' kd k
  dom : ∀ b, H' b = none → H b = none
  fnd : ∀ fvs, H fd = some (.dT fvs) → ∃ fvs', H' fd = some (.dT fvs') ∧ ∀ x b, valV fvs' x = some (.ref b) → (∃ x', valV fvs x' = some (.ref b)) ∨ H b = none
theorem Kn.same {H H' : Hp} {kd : Addr} {k : Kd} (s : Same H H') (h : Kn H kd k) : Kn H' kd k := let ⟨kvs, e, x⟩ := h; ⟨kvs, s _ _ e, x⟩
theorem Kept.refl (kd fd : Addr) (H : Hp) : Kept kd fd H H := ⟨fun _ _ _ _ e => e, fun _ h => h, fun _ h => h, fun fvs e => ⟨fvs, e, fun x b z => .inl ⟨x, z⟩⟩⟩
theorem Kept.trans {kd fd : Addr} {H H1 H2 : Hp} (a : Kept kd fd H H1) (b : Kept kd fd H1 H2) : Kept kd fd H H2 := ⟨fun c o h1 h2 e => b.same c o h1 h2 (a.same c o h1 h2 e), fun k h => b.grow k (a.grow k h), fun c h => a.dom c (b.dom c h), fun fvs e => by
  obtain ⟨fvs1, e1, h1⟩ := a.fnd fvs e
  obtain ⟨fvs2, e2, h2⟩ := b.fnd fvs1 e1
  refine ⟨fvs2, e2, fun x c z => ?_⟩
  rcases h2 x c z with ⟨x', z'⟩ | z'
  · exact h1 x' c z'
  · exact .inr (a.dom c z')⟩
theorem Kept.of {kd fd : Addr} {H H' : Hp} (s : Same H H') : Kept kd fd H H' := ⟨fun b o _ _ e => s b o e, fun k h => h.same s, fun b h => s.free h, fun fvs e => ⟨fvs, s _ _ e, fun x b z => .inl ⟨x, z⟩⟩⟩
theorem KindsOk.mono {U : List Kd} {H H' : Hp} (ht : ∀ b xs, H b = some (.tup xs) → H' b = some (.tup xs)) {kvs : List (Key × V)} {T : List Kd} (h : KindsOk U H kvs T) : KindsOk U H' kvs T :=
  ⟨h.keys, h.sub, fun k hk => let ⟨v, e, a, ea, x⟩ := h.at_ k hk; ⟨v, e, a, ea, x.mono ht⟩⟩
theorem FndAt.mono {U : List Kd} {kd : Addr} {H H' : Hp} (hd : ∀ b mks, b ≠ kd → H b = some (.dK mks) → H' b = some (.dK mks)) {x : List Key} {v : V} (h : FndAt U kd H x v) : FndAt U kd H' x v := by
  obtain ⟨S, d, mks, M, h1, h2, h3, h4, h5, h6⟩ := h
  exact ⟨S, d, mks, M, h1, h2, h3, h4, hd d mks h4 h5, h6⟩
theorem HavAt.mono {U : List Kd} {C : Addr} {H H' : Hp} {p kd fd : Addr} (s : Same H H') (h : HavAt U C H p kd fd) : HavAt U C H' p kd fd := by
  obtain ⟨⟨dx, ho⟩, ⟨kvs, T, hk, ok⟩, ⟨fvs, hf, hn, hv⟩⟩ := h
  exact ⟨⟨dx, s _ _ ho⟩, ⟨kvs, T, s _ _ hk, ok.mono fun b xs e => s _ _ e⟩, ⟨fvs, s _ _ hf, hn, fun x v e => (hv x v e).mono fun b mks _ e => s _ _ e⟩⟩
theorem HavAt.kd_fd {U : List Kd} {C : Addr} {H : Hp} {p kd fd : Addr} (h : HavAt U C H p kd fd) : kd ≠ fd := by
  obtain ⟨_, ⟨kvs, T, hk, _⟩, ⟨fvs, hf, _⟩⟩ := h
  exact ne_of hk hf (by intro z; cases z)
/-- a tuple, a list, the object stay -/
theorem HavAt.stay {U : List Kd} {C : Addr} {H H' : Hp} {p kd fd b : Addr} {o : HO} (h : HavAt U C H p kd fd) (k : Kept kd fd H H') (e : H b = some o) (h1 : ∀ kvs, o ≠ .dK kvs) (h2 : ∀ fvs, o ≠ .dT fvs) : H' b = some o := by
  obtain ⟨_, ⟨kvs, T, hk, _⟩, ⟨fvs, hf, _⟩⟩ := h
  exact k.same b o (ne_of e hk (h1 _)) (ne_of e hf (h2 _)) e
theorem HavAt.tup {U : List Kd} {C : Addr} {H H' : Hp} {p kd fd b : Addr} {xs : List V} (h : HavAt U C H p kd fd) (k : Kept kd fd H H') (e : H b = some (.tup xs)) : H' b = some (.tup xs) := h.stay k e (fun _ z => by cases z) (fun _ z => by cases z)
theorem HavAt.lst {U : List Kd} {C : Addr} {H H' : Hp} {p kd fd b : Addr} {xs : List V} (h : HavAt U C H p kd fd) (k : Kept kd fd H H') (e : H b = some (.lst xs)) : H' b = some (.lst xs) := h.stay k e (fun _ z => by cases z) (fun _ z => by cases z)
theorem HavAt.kAt {U : List Kd} {C : Addr} {H H' : Hp} {p kd fd a : Addr} {k : Kd} (h : HavAt U C H p kd fd) (s : Kept kd fd H H') (e : KAt H k a) : KAt H' k a := e.mono fun b xs z => h.tup s z
theorem HavAt.kvAt {U : List Kd} {C : Addr} {H H' : Hp} {p kd fd : Addr} {k : Kd} {v : V} (h : HavAt U C H p kd fd) (s : Kept kd fd H H') (e : KvAt H v k) : KvAt H' v k := let ⟨a, ea, x⟩ := e; ⟨a, ea, h.kAt s x⟩
theorem HavAt.mvAt {U : List Kd} {C : Addr} {H H' : Hp} {p kd fd : Addr} {v : V} (h : HavAt U C H p kd fd) (s : Kept kd fd H H') : ∀ {m : Int ⊕ Kd}, MvAt H v m → MvAt H' v m
  | .inl _, e => e
  | .inr _, e => h.kvAt s e
/-- a kind is put -/
theorem HavAt.putKind {U : List Kd} {C : Addr} {H : Hp} {p kd fd : Addr} (c : Clo U) (h : HavAt U C H p kd fd) {kvs : List (Key × V)} {T : List Kd} (hk : H kd = some (.dK kvs)) (ok : KindsOk U H kvs T) {k : Kd} {v : V} (hU : k ∈ U) (hv : KvAt H v k) :
    HavAt U C (upd H kd (.dK (putK kvs (Sum.inr (txt k)) v))) p kd fd ∧ Kn (upd H kd (.dK (putK kvs (Sum.inr (txt k)) v))) kd k ∧ Kept kd fd H (upd H kd (.dK (putK kvs (Sum.inr (txt k)) v))) := by
  obtain ⟨⟨dx, ho⟩, _, ⟨fvs, hff, hn, hfv⟩⟩ := id h
  have tu : ∀ b xs, H b = some (.tup xs) → upd H kd (.dK (putK kvs (Sum.inr (txt k)) v)) b = some (.tup xs) := fun b xs e => by
    rw [upd_ne (ne_of e hk (by intro z; cases z))]
    exact e
  have hwT : ∀ j ∈ T, Wf j := fun j hj => c.wf j (ok.sub j hj)
  obtain ⟨T', kT, mT⟩ := ok.keys.put hwT (c.wf k hU) v
  refine ⟨⟨⟨dx, by rw [upd_ne (ne_of ho hk (by intro z; cases z))]; exact ho⟩, ⟨_, T', upd_same, kT, fun j hj => ?_, fun j hj => ?_⟩, ⟨fvs, by rw [upd_ne h.kd_fd.symm]; exact hff, hn, fun x u e => (hfv x u e).mono fun b mks hb e => by rw [upd_ne hb]; exact e⟩⟩, ⟨_, upd_same, ?_⟩, ⟨fun b o h1 _ e => by rw [upd_ne h1]; exact e, fun j hj => ?_, fun b hb => ?_, fun fvs' e => ⟨fvs', by rw [upd_ne h.kd_fd.symm]; exact e, fun x b z => .inl ⟨x, z⟩⟩⟩⟩
  · rcases (mT j).1 hj with z | z
    · exact ok.sub j z
    · rw [z]; exact hU
  · by_cases ej : j = k
    · subst ej
      obtain ⟨a, ea, x⟩ := hv
      exact ⟨v, by rw [valV_put, if_pos rfl], a, ea, x.mono tu⟩
    · have hj' : j ∈ T := ((mT j).1 hj).elim id fun z => absurd z ej
      obtain ⟨u, e, a, ea, x⟩ := ok.at_ j hj'
      refine ⟨u, ?_, a, ea, x.mono tu⟩
      rw [valV_put, if_neg fun z => ej (txt_inj (hwT j hj') (c.wf k hU) (Sum.inr.inj z))]
      exact e
  · rw [valV_put, if_pos rfl]
    rfl
  · obtain ⟨kvs', e, x⟩ := hj
    rw [hk] at e
    cases e
    refine ⟨_, upd_same, ?_⟩
    rw [valV_put]
    split
    · rfl
    · exact x
  · by_cases e : b = kd
    · rw [e, upd_same] at hb; cases hb
    · rw [upd_ne e] at hb; exact hb
theorem hide_upd_ne {D b : Addr} {H : Hp} {o : HO} (h : b ≠ D) : hide D (upd H b o) = upd (hide D H) b o := by
  funext c
  by_cases e : c = D
  · have e2 : ¬ c = b := fun z => h (z.symm.trans e)
    simp [hide, upd, e, Ne.symm h]
  · by_cases e2 : c = b
    · simp [hide, upd, e, e2, h]
    · simp [hide, upd, e, e2]
theorem bo_sorted : bootBuiltins "sorted" = some (.builtin "sorted") := by decide +kernel
theorem bo_tuple : bootBuiltins "tuple" = some (.type "tuple") := by decide +kernel
theorem bo_len : bootBuiltins "len" = some (.builtin "len") := by decide +kernel
theorem bo_isi : bootBuiltins "isinstance" = some (.builtin "isinstance") := by decide +kernel

def spMore (U : List Kd) (C : Addr) : Sp := fun vs H Q _ => ∃ (p kd fd t l : Addr) (S : List Kd) (us : List V) (ks : List Kd), vs = [.ref p, .ref t, .ref l] ∧ HavAt U C H p kd fd ∧ TxAt H t S ∧ CtxU U S ∧ (∀ k ∈ S, Kn H kd k) ∧ H l = some (.lst us) ∧ Paired (KvAt H) us ks ∧ (∀ k ∈ ks, k ∈ U) ∧
  ∀ (H' : Hp) (t' : Addr) (S' : List Kd), HavAt U C H' p kd fd → Kept kd fd H H' → TxAt H' t' S' → CtxU U S' → SameSet S' (S ++ ks) → (∀ k ∈ S', Kn H' kd k) → Q (.ref t') H'
section
variable {P : Program} {w : World} {K : PySem.W.Frag} {mg : Str → Option Value} {base : Heap} {o1 C f g : Addr} {fd gd : FuncData} {U : List Kd}
theorem ok_more (c : Clo U) (F : Fun K "with_more" "Having.with_more" sMore f fd) (G : Glo K mg o1) (T : HCls K mg C) (GS : FnOk P w K mg base CX0 8 g gd ["kind"] (spShown 8)) (bS : Binds K gd ["kind"] []) (kS : PySem.W.keepIn K (.ref g) = true) (gS : mg "shown_kind" = some (.ref g)) :
    FnOk P w K mg base CX0 9 f fd ["self", "texts", "some"] (spMore U C) := by
  refine F.ok scMore (fun vs H Q E h => ?_) (fun cdv A outer s H vs Q E hr h => ?_)
  · obtain ⟨p, kd, fd, t, l, S, us, ks, rfl, _⟩ := h
    rfl
  obtain ⟨p, kd, fd, t, l, S, us, ks, rfl, hv, ht, hS, hkn, hl, hus, hU, q⟩ := h
  have hu := hu_of hr
  refine ⟨_, pss_cons (ps_set (i := 3) scMore.nd rfl (.inl rfl) pe_dnewK)
    (pss_cons (ps_for PassesOwn.never rfl (pi_tup (pv 1)) (pg_name (i := 4) scMore.nd rfl (.inl rfl)) (pss_one (ps_dput hu (pv 3) (pv 4) pe_bl rfl)))
    (pss_cons (ps_for PassesOwn.never rfl (pi_list (pv 2)) (pg_name (i := 5) scMore.nd rfl (.inl rfl)) (pss_cons (ps_dput hu (pe_fld (pv 0) rfl) (pe_call GS hr rfl gS kS bS .nil pass0 (pa_cons (pv 5) pa_nil)) (pv 5) rfl)
      (pss_one (ps_dput hu (pv 3) (pe_call GS hr rfl gS kS bS .nil pass0 (pa_cons (pv 5) pa_nil)) pe_bl rfl))))
    (pss_one (ps_ret (pe_callTy call_tuple_of rfl G.tuple bo_tuple (pa_cons (pe_callB (call_sortedD rfl) rfl G.sorted bo_sorted (pa_cons (pv 3) pa_nil)) pa_nil)))))), ?_⟩
  -- more = {}
  intro m hm
  have s1 : Same H (hide m (upd H m (.dK []))) := same_hide hm (same_new hm _)
  -- for text in texts
  refine ⟨.ref t, rfl, t, rfl, ⟨_, SqT.of (hide_same m _ _ _ (s1 _ _ ht))⟩, for_tup (K := K) (a := t) (xs := (txts S).map V.str) (fun i σ H' => ∃ x4 x5, σ = [some (.ref p), some (.ref t), some (.ref l), some (.ref m), x4, x5] ∧ Same H (hide m H') ∧ ∃ mvs T, H' m = some (.dK mvs) ∧ KeysAre mvs T ∧ ∀ j, j ∈ T ↔ j ∈ S.take i)
    ⟨none, none, rfl, s1, [], [], upd_same, KeysAre.nil, fun j => by simp⟩ (fun i σ H' _ ⟨_, _, _, sm, _⟩ => SqT.of (hide_same m _ _ _ (sm _ _ ht))) ?_ ?_⟩
  · rintro i x σ H' hi ⟨x4, x5, rfl, sm, mvs, Tm, hmv, kT, mT⟩
    obtain ⟨k, hk, rfl⟩ : ∃ k, S[i]? = some k ∧ x = .str (txt k) := by
      rw [List.getElem?_map, List.getElem?_map] at hi
      cases e : S[i]? with
      | none => rw [e] at hi; cases hi
      | some k => rw [e] at hi; exact ⟨k, rfl, (Option.some.inj hi).symm⟩
    have hkS := List.mem_of_getElem? hk
    have hTw : ∀ j ∈ Tm, Wf j := fun j hj => hS.wf c j (List.mem_of_mem_take ((mT j).1 hj))
    obtain ⟨T', kT', mT'⟩ := kT.put hTw (hS.wf c k hkS) (.bl true)
    have ln : mvs.length ≤ 18 := by
      have e1 := congrArg List.length kT.keys
      rw [List.length_map, List.length_map] at e1
      rw [e1]
      exact Nat.le_trans (nodup_len Tm S kT.nd fun j hj => List.mem_of_mem_take ((mT j).1 hj)) (hS.len c)
    refine ⟨.ref m, rfl, .str (txt k), rfl, m, _, rfl, DPut.k (k := Sum.inr (txt k)) hmv (small1000 (by omega)), ?_⟩
    refine ⟨_, _, rfl, by rw [hide_upd]; exact sm, _, T', upd_same, kT', fun j => ?_⟩
    rw [mT', mT, take_snoc hk, List.mem_append, List.mem_singleton]
  · rintro σ H2 ⟨x4, x5, rfl, sm, mvs, Tm, hmv, kT, mT⟩
    rw [List.length_map, List.length_map, List.take_length] at mT
    -- for kind in some
    have hl2 := hide_same m _ _ _ (sm _ _ hl)
    refine ⟨.ref l, rfl, l, rfl, ⟨_, SqL.of hl2⟩, for_list (K := K) (a := l) (xs := us) (fun i σ H' => ∃ x4 x5, σ = [some (.ref p), some (.ref t), some (.ref l), some (.ref m), x4, x5] ∧ HavAt U C (hide m H') p kd fd ∧ Kept kd fd H (hide m H') ∧ (∃ mvs T, H' m = some (.dK mvs) ∧ KeysAre mvs T ∧ ∀ j, j ∈ T ↔ j ∈ S ∨ j ∈ ks.take i) ∧ ∀ k ∈ ks.take i, Kn (hide m H') kd k)
      ⟨_, _, rfl, hv.mono sm, Kept.of sm, ⟨mvs, Tm, hmv, kT, fun j => by rw [mT]; simp⟩, fun k hk => by simp at hk⟩ (fun i σ H' _ ⟨_, _, _, _, kp, _⟩ => SqL.of (hide_same m _ _ _ (hv.lst kp hl))) ?_ ?_⟩
    · rintro i v σ H3 hi ⟨y4, y5, rfl, hv3, kp, ⟨mvs3, T3, hm3, kT3, mT3⟩, kn3⟩
      obtain ⟨k, hk, hkv⟩ := paired_at hus hi
      have hkm := List.mem_of_getElem? hk
      have hkU := hU k hkm
      have hg : Good k := ⟨c.wf k hkU, c.lv k hkU⟩
      have hkv3 := hv.kvAt kp hkv
      obtain ⟨a, rfl, ha⟩ := id hkv3
      obtain ⟨⟨dx, ho⟩, ⟨kvs, T2, hkd, ok⟩, _⟩ := id hv3
      have nkm := (hide_some hkd).1
      have lnk : kvs.length ≤ 18 := by
        have e1 := congrArg List.length ok.keys.keys
        rw [List.length_map, List.length_map] at e1
        rw [e1]
        exact Nat.le_trans (nodup_len T2 U ok.keys.nd ok.sub) c.sz
      -- self.kinds[shown_kind(kind)] = kind
      refine ⟨.ref a, rfl, .ref p, rfl, p, C, dx, _, _, rfl, hide_same m _ _ _ ho, T.cl, T.nK, hf_kinds kd fd, .ref a, rfl, k, a, rfl, ha.same (hide_same m _), hg.2, hg, kd, _, rfl, DPut.k (k := Sum.inr (txt k)) (hide_same m _ _ _ hkd) (small1000 (by omega)), ?_⟩
      obtain ⟨hv4, kn4, kp4⟩ := hv3.putKind c hkd ok hkU hkv3
      rw [← hide_upd_ne nkm] at hv4 kn4 kp4
      have hm4 : (upd H3 kd (.dK (putK kvs (Sum.inr (txt k)) (.ref a)))) m = some (.dK mvs3) := by rw [upd_ne nkm.symm]; exact hm3
      have ha4 := hv3.kAt kp4 ha
      generalize upd H3 kd (.dK (putK kvs (Sum.inr (txt k)) (.ref a))) = H4 at hv4 kn4 kp4 hm4 ha4 ⊢
      -- more[shown_kind(kind)] = True
      have hT3 : ∀ j ∈ T3, j ∈ U := fun j hj => ((mT3 j).1 hj).elim (hS.sub j) fun z => hU j (List.mem_of_mem_take z)
      obtain ⟨T5, kT5, mT5⟩ := kT3.put (fun j hj => c.wf j (hT3 j hj)) hg.1 (.bl true)
      have ln3 : mvs3.length ≤ 18 := by
        have e1 := congrArg List.length kT3.keys
        rw [List.length_map, List.length_map] at e1
        rw [e1]
        exact Nat.le_trans (nodup_len T3 U kT3.nd hT3) c.sz
      refine ⟨.ref m, rfl, .ref a, rfl, k, a, rfl, ha4.same (hide_same m _), hg.2, hg, m, _, rfl, DPut.k (k := Sum.inr (txt k)) hm4 (small1000 (by omega)), ?_⟩
      refine ⟨_, _, rfl, by rw [hide_upd]; exact hv4, by rw [hide_upd]; exact kp.trans kp4, ⟨_, T5, upd_same, kT5, fun j => ?_⟩, fun j hj => ?_⟩
      · rw [mT5, mT3, take_snoc hk, List.mem_append, List.mem_singleton, or_assoc]
      · rw [hide_upd]
        rw [take_snoc hk] at hj
        rcases List.mem_append.mp hj with z | z
        · exact kp4.grow j (kn3 j z)
        · rw [List.mem_singleton.mp z]; exact kn4
    · rintro σ H3 ⟨y4, y5, rfl, hv3, kp, ⟨mvs3, T3, hm3, kT3, mT3⟩, kn3⟩
      have el : us.length = ks.length := paired_len hus
      rw [el, List.take_length] at mT3 kn3
      have hT3 : ∀ j ∈ T3, j ∈ U := fun j hj => ((mT3 j).1 hj).elim (hS.sub j) (hU j)
      have ln3 : (txts T3).length < 64 := by
        rw [List.length_map]
        exact Nat.lt_of_le_of_lt (Nat.le_trans (nodup_len T3 U kT3.nd hT3) c.sz) (by decide)
      -- return tuple(sorted(more))
      refine ⟨.ref m, rfl, m, mvs3, txts T3, rfl, .of hm3, by rw [kT3.keys, keys_txts], ln3, fun ys s2 pm hs hn => ?_⟩
      obtain ⟨S', rfl, pS, asc⟩ := asc_of (fun j hj => c.wf j (hT3 j hj)) kT3.nd pm hs
      have u1 := same_new hn (.lst ((txts S').map V.str))
      refine ⟨s2, _, rfl, .inl ⟨SqL.of upd_same, fun t' ht' => ?_⟩⟩
      have u2 := same_new ht' (.tup ((txts S').map V.str))
      have u := (hide_same m H3).trans (u1.trans u2)
      refine q _ t' S' (hv3.mono u) (kp.trans (Kept.of u)) upd_same ⟨asc, fun k hk => hT3 k (pS.mem_iff.mp hk)⟩ (fun j => ?_) fun j hj => ?_
      · rw [pS.mem_iff, mT3, List.mem_append]
      · rcases (mT3 j).1 (pS.mem_iff.mp hj) with z | z
        · exact (kp.trans (Kept.of u)).grow j (hkn j z)
        · exact (kn3 j z).same u
end
end KF
/-! lack_of. -/
namespace KF
open PySem PySem.Spec PyProof.Rows L2

/-- an object of another make does not touch what holds of Having -/
theorem HavAt.upd {U : List Kd} {C : Addr} {H : Hp} {p kd fd b : Addr} {o u : HO} (h : HavAt U C H p kd fd) (e : H b = some u) (h1 : ∀ kvs, u ≠ .dK kvs) (h2 : ∀ fvs, u ≠ .dT fvs) (h3 : ∀ xs, u ≠ .tup xs) (h4 : ∀ C dx fs, u ≠ .ins C dx fs) : HavAt U C (upd H b o) p kd fd := by
  obtain ⟨⟨dx, ho⟩, ⟨kvs, T, hk, ok⟩, ⟨fvs, hf, hn, hv⟩⟩ := h
  have ne : ∀ {c : Addr} {x : HO}, H c = some x → x ≠ u → c ≠ b := fun e1 h => ne_of e1 e h
  refine ⟨⟨dx, by rw [upd_ne (ne ho (h4 _ _ _).symm)]; exact ho⟩, ⟨kvs, T, by rw [upd_ne (ne hk (h1 _).symm)]; exact hk, ok.mono fun c xs e2 => ?_⟩, ⟨fvs, by rw [upd_ne (ne hf (h2 _).symm)]; exact hf, hn, fun x v e3 => (hv x v e3).mono fun c mks _ e2 => ?_⟩⟩
  · rw [upd_ne (ne e2 (h3 _).symm)]; exact e2
  · rw [upd_ne (ne e2 (h1 _).symm)]; exact e2
theorem HavAt.updL {U : List Kd} {C : Addr} {H : Hp} {p kd fd b : Addr} {o : HO} {xs : List V} (h : HavAt U C H p kd fd) (e : H b = some (.lst xs)) : HavAt U C (L2.upd H b o) p kd fd :=
  h.upd e (fun _ z => by cases z) (fun _ z => by cases z) (fun _ z => by cases z) fun _ _ _ z => by cases z
/-- a list of one's own is changed -/
theorem Kept.updL {kd fd b : Addr} {H H' : Hp} {o : HO} {xs : List V} (k : Kept kd fd H H') (hb : H b = none) (e : H' b = some (.lst xs)) : Kept kd fd H (upd H' b o) :=
  ⟨fun c u h1 h2 e2 => by rw [upd_ne (ne_of_none e2 hb)]; exact k.same c u h1 h2 e2, fun j hj => by
    obtain ⟨kvs, e3, x⟩ := k.grow j hj
    exact ⟨kvs, by rw [upd_ne (ne_of e3 e (by intro z; cases z))]; exact e3, x⟩, fun c hc => by
    by_cases ec : c = b
    · rw [ec]; exact hb
    · rw [upd_ne ec] at hc; exact k.dom c hc, fun fvs ef => by
    obtain ⟨fvs', e4, x⟩ := k.fnd fvs ef
    exact ⟨fvs', by rw [upd_ne (ne_of e4 e (by intro z; cases z))]; exact e4, x⟩⟩
theorem kv_upd {H : Hp} {b : Addr} {o : HO} {xs : List V} (e : H b = some (.lst xs)) {v : V} {k : Kd} (h : KvAt H v k) : KvAt (upd H b o) v k := by
  obtain ⟨a, ea, x⟩ := h
  exact ⟨a, ea, x.mono fun c ys e2 => by rw [upd_ne (ne_of e2 e (by intro z; cases z))]; exact e2⟩
theorem tx_upd {H : Hp} {b t : Addr} {o : HO} {xs : List V} {S : List Kd} (e : H b = some (.lst xs)) (h : TxAt H t S) : TxAt (upd H b o) t S := by
  unfold TxAt
  rw [upd_ne (ne_of h e (by intro z; cases z))]
  exact h
theorem kn_upd {H : Hp} {b kd : Addr} {o : HO} {xs : List V} {k : Kd} (e : H b = some (.lst xs)) (h : Kn H kd k) : Kn (upd H b o) kd k := by
  obtain ⟨kvs, e3, x⟩ := h
  exact ⟨kvs, by rw [upd_ne (ne_of e3 e (by intro z; cases z))]; exact e3, x⟩
theorem PairG.kept {U : List Kd} {C : Addr} {H H' : Hp} {p kd fd : Addr} (h : HavAt U C H p kd fd) (s : Kept kd fd H H') {Fr : Addr → Prop} {q : Addr} {e : List Kd × Str} (x : PairG KvAt Fr H q e) : PairG KvAt Fr H' q e := by
  obtain ⟨tl, vs, h0, h1, h2, h3⟩ := x
  exact ⟨tl, vs, h0, h.tup s h1, h.lst s h2, Paired.mapP h3 fun _ _ z => h.kvAt s z⟩
theorem PairG.updL {H0 H : Hp} {L : Addr} {o : HO} {xs ys : List V} (e0 : H0 L = some (.lst ys)) (e : H L = some (.lst xs)) {q : Addr} {x : List Kd × Str} (h : PairG KvAt (fun a => H0 a = none) H q x) : PairG KvAt (fun a => H0 a = none) (upd H L o) q x := by
  obtain ⟨tl, vs, h0, h1, h2, h3⟩ := h
  exact ⟨tl, vs, h0, by rw [upd_ne (ne_of h1 e (by intro z; cases z))]; exact h1, by rw [upd_ne (ne_of_none e0 h0).symm]; exact h2, Paired.mapP h3 fun _ _ z => kv_upd e z⟩
/-- a greater or the same set of what is there -/
structure ResAt (U : List Kd) (kd : Addr) (H : Hp) (S : List Kd) (t : Addr) (S' : List Kd) : Prop where
  tx : TxAt H t S'
  ctx : CtxU U S'
  sub : ∀ k ∈ S, k ∈ S'
  kn : ∀ k ∈ S', Kn H kd k
theorem ResAt.kept {U : List Kd} {C : Addr} {H H' : Hp} {p kd fd t : Addr} {S S' : List Kd} (h : HavAt U C H p kd fd) (s : Kept kd fd H H') (x : ResAt U kd H S t S') : ResAt U kd H' S t S' := ⟨h.tup s x.tx, x.ctx, x.sub, fun k hk => s.grow k (x.kn k hk)⟩
theorem ResAt.updL {U : List Kd} {H : Hp} {kd t b : Addr} {o : HO} {xs : List V} {S S' : List Kd} (e : H b = some (.lst xs)) (x : ResAt U kd H S t S') : ResAt U kd (upd H b o) S t S' := ⟨tx_upd e x.tx, x.ctx, x.sub, fun k hk => kn_upd e (x.kn k hk)⟩
/-- the marks dict -/
structure MksAt (H : Hp) (kd d : Addr) (mks : List (Key × V)) (M : List Str) : Prop where
  at_ : H d = some (.dK mks)
  ne : d ≠ kd
  keys : mks.map (·.1) = M.map Sum.inr
theorem MksAt.kept {U : List Kd} {C : Addr} {H H' : Hp} {p kd fd d : Addr} {mks : List (Key × V)} {M : List Str} (h : HavAt U C H p kd fd) (s : Kept kd fd H H') (x : MksAt H kd d mks M) : MksAt H' kd d mks M := by
  obtain ⟨_, _, ⟨fvs, hf, _⟩⟩ := h
  exact ⟨s.same d _ x.ne (ne_of x.at_ hf (by intro z; cases z)) x.at_, x.ne, x.keys⟩
theorem MksAt.updL {H : Hp} {kd d b : Addr} {o : HO} {xs : List V} {mks : List (Key × V)} {M : List Str} (e : H b = some (.lst xs)) (x : MksAt H kd d mks M) : MksAt (upd H b o) kd d mks M :=
  ⟨by rw [upd_ne (ne_of x.at_ e (by intro z; cases z))]; exact x.at_, x.ne, x.keys⟩
theorem MksAt.has {H : Hp} {kd d : Addr} {mks : List (Key × V)} {M : List Str} (x : MksAt H kd d mks M) (m : Str) : (valV mks (Sum.inr m)).isSome = decide (m ∈ M) := by
  rw [Bool.eq_iff_iff, valV_keys, x.keys, decide_eq_true_eq]
  constructor
  · intro h
    obtain ⟨y, hy, e⟩ := List.mem_map.mp h
    rw [← Sum.inr.inj e]
    exact hy
  · exact fun h => List.mem_map.mpr ⟨m, h, rfl⟩

def spLack (U : List Kd) (C : Addr) (n : Nat) : Sp := fun vs H Q _ => ∃ (p kd fd t d a : Addr) (S : List Kd) (mks : List (Key × V)) (M : List Str) (k : Kd), vs = [.ref p, .ref t, .ref d, .ref a] ∧ HavAt U C H p kd fd ∧ ResAt U kd H S t S ∧ mu U S ≤ n ∧ MksAt H kd d mks M ∧ KAt H k a ∧ In U k ∧
  ∀ (H' : Hp) (v : V), HavAt U C H' p kd fd → Kept kd fd H H' → ((OkK S M k ∧ v = .non) ∨ (¬ OkK S M k ∧ ∃ t' S', v = .ref t' ∧ ResAt U kd H' S t' S')) → Q v H'
def spHad (U : List Kd) (C : Addr) (n : Nat) : Sp := fun vs H Q _ => ∃ (p kd fd t : Addr) (S : List Kd), vs = [.ref p, .ref t] ∧ HavAt U C H p kd fd ∧ ResAt U kd H S t S ∧ mu U S < n ∧
  ∀ (H' : Hp) (d : Addr) (mks : List (Key × V)) (M : List Str), HavAt U C H' p kd fd → Kept kd fd H H' → MksAt H' kd d mks M → IsHad S M → M.Nodup → Q (.ref d) H'
theorem in_good {U : List Kd} {k : Kd} (h : In U k) : Good k := ⟨h.wf, h.lv⟩
theorem okM_same {S : List Kd} {M : List Str} {e : List Kd × Str} (h : ∀ t ∈ e.1, t ∈ S) : OkM S M e ↔ e.2 ∈ M := ⟨fun z => z.elim (fun z => z.2) fun z => absurd h z.1, fun z => .inl ⟨h, z⟩⟩
theorem okM_more {S : List Kd} {M : List Str} {e : List Kd × Str} (h : ¬ ∀ t ∈ e.1, t ∈ S) : OkM S M e ↔ Der (S ++ e.1) e.2 := ⟨fun z => z.elim (fun z => absurd z.1 h) fun z => z.2, fun z => .inr ⟨h, z⟩⟩
theorem der_same {S T : List Kd} {m : Str} (h : SameSet S T) : Der S m ↔ Der T m := ⟨Der.mono fun k hk => (h k).1 hk, Der.mono fun k hk => (h k).2 hk⟩

section
variable {P : Program} {w : World} {K : PySem.W.Frag} {mg : Str → Option Value} {base : Heap} {o1 C f fM fE fH : Addr} {fd fdM fdE fdH : FuncData} {U : List Kd}
theorem ok_lack {n lv : Nat} (c : Clo U) (h9 : 9 ≤ lv) (F : Fun K "lack_of" "Having.lack_of" sLack f fd) (G : Glo K mg o1) (T : HCls K mg C) (GM : FnOk P w K mg base CX0 9 fM fdM ["self", "texts", "some"] (spMore U C)) (bM : Binds K fdM ["self", "texts", "some"] []) (mM : Meth K C "with_more" fM)
    (GE : FnOk P w K mg base CX0 8 fE fdE ["kind"] (spEnds 8)) (bE : Binds K fdE ["kind"] []) (kE : PySem.W.keepIn K (.ref fE) = true) (gE : mg "ends_of" = some (.ref fE)) (GH : FnOk P w K mg base CX0 lv fH fdH ["self", "texts"] (spHad U C n)) (bH : Binds K fdH ["self", "texts"] []) (mH : Meth K C "had" fH) :
    FnOk P w K mg base CX0 (lv + 1) f fd ["self", "texts", "marks", "kind"] (spLack U C n) := by
  refine F.ok scLack (fun vs H Q E h => ?_) (fun cdv A outer s H vs Q E hr h => ?_)
  · obtain ⟨p, kd, fd, t, d, a, S, mks, M, k, rfl, _⟩ := h
    rfl
  obtain ⟨p, kd, fd, t, d, a, S, mks, M, k, rfl, hv, hS, hmu, hM, hk, hI, q⟩ := h
  have hu := hu_of hr
  have hu65 : (A.deeper (envOfC "Having.lack_of" (defScope sLack) s.heap.objs.size f cdv)).units + 65 < cLine := by have := hr.un; omega
  refine ⟨_, pss_cons (ps_set (i := 4) scLack.nd rfl (.inl rfl) (pe_lst pa_nil))
    (pss_cons (ps_for PassesOwn.never rfl (pi_list (pe_call GE (hr.mono (by omega)) rfl gE kE bE .nil pass0 (pa_cons (pv 3) pa_nil))) (pg_tup rfl (pgs_cons (pg_name (i := 5) scLack.nd rfl (.inl rfl)) (pgs_cons (pg_name (i := 6) scLack.nd rfl (.inl rfl)) pgs_nil)))
      (pss_cons (ps_set (i := 7) scLack.nd rfl (.inl rfl) (pe_meth (pv 0) T.cl mM GM (hr.mono (by omega)) bM .nil pass0 (pa_cons (pv 1) (pa_cons (pv 5) pa_nil))))
      (pss_one (ps_if (PW.pt (pw_or (PW.pt (pw_and (pt_cmpR (op_eqD hr.units) (pv 7) (pv 1) (nomark _)) (pw_and1 (pt_cmp (pc_dnotin hu (pv 6) (pv 2))))))
          (pw_or1 (PW.pt (pw_and (pt_cmpR (op_neD hr.units) (pv 7) (pv 1) (nomark _)) (pw_and1 (pt_cmp (pc_dnotin hu (pv 6) (pe_meth (pv 0) T.cl mH GH hr bH .nil pass0 (pa_cons (pv 7) pa_nil)))))))))) 
        (pss_one (ps_expr (pe_bm PySem.F.plainAttrs_list PySem.F.slot_list_append PySem.F.type_list_append mt_append (pv 4) (pa_cons (pv 7) pa_nil)))) pss_nil))))
    (pss_cons (ps_if (pt_cmpR (op_inD hu65) (pv 1) (pv 4) rfl) (pss_one (ps_ret (pv 1))) pss_nil)
    (pss_one (ps_ret (pe_minLen rfl G.min rfl G.len rfl (pa_cons (pv 4) pa_nil)))))), ?_⟩
  -- lacking = []
  refine ⟨Nat.zero_le _, fun L hL => ?_⟩
  have s0 := same_new hL (.lst [])
  -- for taken, mark in ends_of(kind)
  refine ⟨.ref a, rfl, k, a, rfl, hk.same s0, hI.lv, in_good hI, fun H1 l s1 ⟨ps, fl, a1, b1⟩ => ?_⟩
  have sA := s0.trans s1
  have hL1 : H1 L = some (.lst []) := s1 _ _ upd_same
  have nlL : l ≠ L := (ne_of_none (H := upd H L (.lst [])) upd_same fl).symm
  refine ⟨l, rfl, ⟨_, SqL.of a1⟩, for_list (K := K) (a := l) (xs := ps.map V.ref) (fun i σ H' => ∃ x5 x6 x7, σ = [some (.ref p), some (.ref t), some (.ref d), some (.ref a), some (.ref L), x5, x6, x7] ∧ HavAt U C H' p kd fd ∧ Kept kd fd H H' ∧ H' l = some (.lst (ps.map V.ref)) ∧ Paired (PairG KvAt (fun b => (upd H L (.lst [])) b = none) H') ps (ends k) ∧
      ∃ ls : List (Addr × List Kd), H' L = some (.lst (ls.map fun q => V.ref q.1)) ∧ (∀ q ∈ ls, ResAt U kd H' S q.1 q.2) ∧ (ls = [] ↔ ∀ e ∈ (ends k).take i, OkM S M e) ∧ ls.length ≤ i)
    ⟨none, none, none, rfl, hv.mono sA, Kept.of sA, a1, b1, [], hL1, (fun q hq => by cases hq), by simp, Nat.le_refl _⟩ (fun i σ H' _ ⟨_, _, _, _, _, _, h4, _⟩ => SqL.of h4) ?_ ?_⟩
  · rintro i v σ H2 hi ⟨x5, x6, x7, rfl, hv2, kp, hl2, hps, ls, hL2, hls, hz, hln⟩
    obtain ⟨pi, hpi, rfl⟩ := map_refs_at hi
    obtain ⟨e, he, tl, us, g0, g1, g2, g3⟩ := paired_at hps hpi
    have hek := List.mem_of_getElem? he
    have heU := hI.cl e hek
    obtain ⟨⟨dx, ho⟩, _⟩ := id hv2
    refine ⟨pi, _, rfl, SqT.of g1, rfl, _, _, rfl, _, _, rfl, rfl, ?_⟩
    -- there = self.with_more(texts, taken)
    have hS2 := hS.kept hv kp
    refine ⟨.ref p, rfl, p, dx, _, rfl, ho, hf_no kd fd (by decide +kernel) (by decide +kernel), .ref t, rfl, .ref tl, rfl, p, kd, fd, t, tl, S, us, e.1, rfl, hv2, hS2.tx, hS2.ctx, hS2.kn, g2, g3, heU, fun H3 t3 S3 hv3 kp3 tx3 c3 ss kn3 => ?_⟩
    have kpA := kp.trans kp3
    have hS3 := hS.kept hv kpA
    have hM3 := hM.kept hv kpA
    have hL3 := hv2.lst kp3 hL2
    have hl3 := hv2.lst kp3 hl2
    have hps3 : Paired (PairG KvAt (fun b => (upd H L (.lst [])) b = none) H3) ps (ends k) := Paired.mapP hps fun _ _ z => z.kept hv2 kp3
    have hls3 : ∀ q ∈ ls, ResAt U kd H3 S q.1 q.2 := fun q hq => (hls q hq).kept hv2 kp3
    have sub3 : ∀ j ∈ S, j ∈ S3 := fun j hj => (ss j).2 (List.mem_append_left _ hj)
    have r3 : ResAt U kd H3 S t3 S3 := ⟨tx3, c3, sub3, kn3⟩
    clear hps hls hL2 hl2
    have eqS : S3 = S ↔ ∀ j ∈ e.1, j ∈ S := by
      constructor
      · intro z j hj
        rw [← z]
        exact (ss j).2 (List.mem_append_right _ hj)
      · intro z
        refine Ctx.uniq c3.asc hS.ctx.asc fun j => ⟨fun hj => ?_, sub3 j⟩
        rcases List.mem_append.mp ((ss j).1 hj) with w | w
        · exact w
        · exact z j w
    have tk := take_snoc he
    -- both ways out of the test
    have skip : ∀ (H4 : Hp) (y5 y6 y7 : Option V), HavAt U C H4 p kd fd → Kept kd fd H H4 → H4 l = some (.lst (ps.map V.ref)) → Paired (PairG KvAt (fun b => (upd H L (.lst [])) b = none) H4) ps (ends k) → H4 L = some (.lst (ls.map fun q => V.ref q.1)) → (∀ q ∈ ls, ResAt U kd H4 S q.1 q.2) → OkM S M e →
        ∃ x5 x6 x7, [some (V.ref p), some (.ref t), some (.ref d), some (.ref a), some (.ref L), y5, y6, y7] = [some (V.ref p), some (.ref t), some (.ref d), some (.ref a), some (.ref L), x5, x6, x7] ∧ HavAt U C H4 p kd fd ∧ Kept kd fd H H4 ∧ H4 l = some (.lst (ps.map V.ref)) ∧ Paired (PairG KvAt (fun b => (upd H L (.lst [])) b = none) H4) ps (ends k) ∧
          ∃ ls : List (Addr × List Kd), H4 L = some (.lst (ls.map fun q => V.ref q.1)) ∧ (∀ q ∈ ls, ResAt U kd H4 S q.1 q.2) ∧ (ls = [] ↔ ∀ e ∈ (ends k).take (i + 1), OkM S M e) ∧ ls.length ≤ i + 1 := fun H4 y5 y6 y7 b1 b2 b3 b4 b5 b6 b7 => by
      refine ⟨y5, y6, y7, rfl, b1, b2, b3, b4, ls, b5, b6, ?_, Nat.le_succ_of_le hln⟩
      rw [hz, tk]
      constructor
      · intro z x hx
        rcases List.mem_append.mp hx with w | w
        · exact z x w
        · rw [List.mem_singleton.mp w]; exact b7
      · exact fun z x hx => z x (List.mem_append_left _ hx)
    have more : ∀ (H4 : Hp) (y5 y6 y7 : Option V), HavAt U C H4 p kd fd → Kept kd fd H H4 → H4 l = some (.lst (ps.map V.ref)) → Paired (PairG KvAt (fun b => (upd H L (.lst [])) b = none) H4) ps (ends k) → H4 L = some (.lst (ls.map fun q => V.ref q.1)) → (∀ q ∈ ls, ResAt U kd H4 S q.1 q.2) → ResAt U kd H4 S t3 S3 → ¬ OkM S M e →
        ∃ x5 x6 x7, [some (V.ref p), some (.ref t), some (.ref d), some (.ref a), some (.ref L), y5, y6, y7] = [some (V.ref p), some (.ref t), some (.ref d), some (.ref a), some (.ref L), x5, x6, x7] ∧ HavAt U C (upd H4 L (.lst (ls.map (fun q => V.ref q.1) ++ [.ref t3]))) p kd fd ∧ Kept kd fd H (upd H4 L (.lst (ls.map (fun q => V.ref q.1) ++ [.ref t3]))) ∧ (upd H4 L (.lst (ls.map (fun q => V.ref q.1) ++ [.ref t3]))) l = some (.lst (ps.map V.ref)) ∧ Paired (PairG KvAt (fun b => (upd H L (.lst [])) b = none) (upd H4 L (.lst (ls.map (fun q => V.ref q.1) ++ [.ref t3])))) ps (ends k) ∧
          ∃ ls' : List (Addr × List Kd), (upd H4 L (.lst (ls.map (fun q => V.ref q.1) ++ [.ref t3]))) L = some (.lst (ls'.map fun q => V.ref q.1)) ∧ (∀ q ∈ ls', ResAt U kd (upd H4 L (.lst (ls.map (fun q => V.ref q.1) ++ [.ref t3]))) S q.1 q.2) ∧ (ls' = [] ↔ ∀ e ∈ (ends k).take (i + 1), OkM S M e) ∧ ls'.length ≤ i + 1 := fun H4 y5 y6 y7 b1 b2 b3 b4 b5 b6 b8 b7 => by
      refine ⟨y5, y6, y7, rfl, b1.updL b5, b2.updL hL b5, by rw [upd_ne nlL]; exact b3, Paired.mapP b4 fun _ _ z => z.updL upd_same b5, ls ++ [(t3, S3)], by rw [upd_same, List.map_append]; rfl, fun q hq => ?_, ?_, by rw [List.length_append, List.length_singleton]; omega⟩
      · rcases List.mem_append.mp hq with z | z
        · exact (b6 q z).updL b5
        · rw [List.mem_singleton.mp z]; exact b8.updL b5
      · rw [tk]
        constructor
        · intro z; simp at z
        · exact fun z => absurd (z e (List.mem_append_right _ List.mem_cons_self)) b7
    have hip : i < (ends k).length := (List.getElem?_eq_some_iff.mp he).1
    have hik := ends_small (in_good hI)
    have lns : (ls.map fun q => V.ref q.1).length < sizeLine := by rw [List.length_map]; exact small1000 (by omega)
    -- there == texts and mark not in marks or there != texts and mark not in self.had(there)
    refine ⟨.ref t3, rfl, .ref t, rfl, _, _, dp_txts tx3, dp_txts hS3.tx, tD_shaped (c3.okT c), tD_shaped (hS.ctx.okT c), _, rfl, ?_⟩
    rw [tD_eqv]
    by_cases cS : S3 = S
    · have e1 : decide (txts S3 = txts S) = true := decide_eq_true (by rw [cS])
      rw [e1]
      refine iteT ?_
      refine ⟨.str e.2, rfl, .ref d, rfl, d, _, rfl, DGet.k (k := Sum.inr e.2) hM3.at_, _, rfl, ?_⟩
      rw [hM3.has]
      by_cases cM : e.2 ∈ M
      · rw [decide_eq_true cM]
        refine iteF ?_
        -- there != texts
        refine ⟨.ref t3, rfl, .ref t, rfl, _, _, dp_txts tx3, dp_txts hS3.tx, tD_shaped (c3.okT c), tD_shaped (hS.ctx.okT c), _, rfl, ?_⟩
        rw [tD_eqv, e1]
        refine iteF ?_
        refine iteF ?_
        exact skip H3 _ _ _ hv3 kpA hl3 hps3 hL3 hls3 ((okM_same (eqS.1 cS)).2 cM)
      · rw [decide_eq_false cM]
        refine iteT ?_
        refine iteT ?_
        refine ⟨.ref L, rfl, .inl ⟨rfl, _, SqL.of hL3⟩, .ref t3, rfl, L, _, _, rfl, rfl, hL3, lns, ?_⟩
        exact more H3 _ _ _ hv3 kpA hl3 hps3 hL3 hls3 r3 fun z => cM ((okM_same (eqS.1 cS)).1 z)
    · have e1 : decide (txts S3 = txts S) = false := decide_eq_false fun z => cS (txts_inj (c3.wf c) (hS.ctx.wf c) z)
      rw [e1]
      refine iteF ?_
      refine iteF ?_
      refine ⟨.ref t3, rfl, .ref t, rfl, _, _, dp_txts tx3, dp_txts hS3.tx, tD_shaped (c3.okT c), tD_shaped (hS.ctx.okT c), _, rfl, ?_⟩
      rw [tD_eqv, e1]
      refine iteT ?_
      -- mark not in self.had(there)
      obtain ⟨⟨dx3, ho3⟩, _⟩ := id hv3
      have lt3 := hS.ctx.mu_lt c3 sub3 cS
      refine ⟨.str e.2, rfl, .ref p, rfl, p, dx3, _, rfl, ho3, hf_no kd fd (by decide +kernel) (by decide +kernel), .ref t3, rfl, p, kd, fd, t3, S3, rfl, hv3, ⟨tx3, c3, fun _ z => z, kn3⟩, by omega, fun H5 d5 mks5 M5 hv5 kp5 hM5 had5 _ => ?_⟩
      refine ⟨d5, _, rfl, DGet.k (k := Sum.inr e.2) hM5.at_, _, rfl, ?_⟩
      rw [hM5.has]
      have kpB := kpA.trans kp5
      have hl5 := hv3.lst kp5 hl3
      have hL5 := hv3.lst kp5 hL3
      have hps5 : Paired (PairG KvAt (fun b => (upd H L (.lst [])) b = none) H5) ps (ends k) := Paired.mapP hps3 fun _ _ z => z.kept hv3 kp5
      have hls5 : ∀ q ∈ ls, ResAt U kd H5 S q.1 q.2 := fun q hq => (hls3 q hq).kept hv3 kp5
      have notS : ¬ ∀ j ∈ e.1, j ∈ S := fun z => cS (eqS.2 z)
      have derS : e.2 ∈ M5 ↔ Der (S ++ e.1) e.2 := (had5 e.2).trans (der_same ss)
      by_cases cM : e.2 ∈ M5
      · rw [decide_eq_true cM]
        refine iteF ?_
        exact skip H5 _ _ _ hv5 kpB hl5 hps5 hL5 hls5 ((okM_more notS).2 (derS.1 cM))
      · rw [decide_eq_false cM]
        refine iteT ?_
        refine ⟨.ref L, rfl, .inl ⟨rfl, _, SqL.of hL5⟩, .ref t3, rfl, L, _, _, rfl, rfl, hL5, lns, ?_⟩
        exact more H5 _ _ _ hv5 kpB hl5 hps5 hL5 hls5 (r3.kept hv3 kp5) fun z => cM (derS.2 ((okM_more notS).1 z))
  · rintro σ H2 ⟨x5, x6, x7, rfl, hv2, kp, hl2, hps, ls, hL2, hls, hz, hln⟩
    have el : (ps.map V.ref).length = (ends k).length := by rw [List.length_map]; exact paired_len hps
    rw [el, List.take_length] at hz
    have hS2 := hS.kept hv kp
    -- texts in lacking
    have dpl : ∀ l : List (Addr × List Kd), (∀ q ∈ l, ResAt U kd H2 S q.1 q.2) → DpAll K H2 (l.map fun q => V.ref q.1) (l.map fun q => tD (txts q.2)) := by
      intro l
      induction l with
      | nil => intro _; exact .nil
      | cons x r ih => intro h; exact .cons (dp_txts (h x List.mem_cons_self).tx) (ih fun q hq => h q (List.mem_cons_of_mem _ hq))
    have em : (ls.map fun q => tD (txts q.2)) = (ls.map fun q => txts q.2).map tD := by rw [List.map_map]; rfl
    refine ⟨.ref t, rfl, .ref L, rfl, tD (txts S), _, dp_txts hS2.tx, .lst (SqL.of hL2) (dpl ls hls), tD_shaped (hS.ctx.okT c), by rw [em]; exact tDs_shaped fun x hx => (by
      obtain ⟨q, hq, rfl⟩ := List.mem_map.mp hx
      exact (hls q hq).ctx.okT c), _, rfl, ?_⟩
    rw [em, tDs_any]
    refine ite2 (fun e => ?_) (fun e => ?_)
    · have e1 : txts S ∈ ls.map fun q => txts q.2 := of_decide_eq_true e
      have ne : ¬ OkK S M k := fun z => by
        rw [hz.2 z] at e1
        cases e1
      exact ⟨.ref t, rfl, q H2 _ hv2 kp (.inr ⟨ne, t, S, rfl, hS2⟩)⟩
    · refine ⟨.ref L, rfl, L, _, rfl, SqL.of hL2, fun y hy => ?_, fun e0 => ?_, fun y hy => ?_⟩
      · obtain ⟨x, hx, rfl⟩ := List.mem_map.mp hy
        exact ⟨_, _, rfl, (hls x hx).tx⟩
      · have e1 : ls = [] := List.map_eq_nil_iff.mp e0
        exact q H2 _ hv2 kp (.inl ⟨hz.1 e1, rfl⟩)
      · obtain ⟨x, hx, rfl⟩ := List.mem_map.mp hy
        refine q H2 _ hv2 kp (.inr ⟨fun z => ?_, x.1, x.2, rfl, hls x hx⟩)
        rw [hz.2 z] at hx
        cases hx
end
end KF
/-! first_not_had. -/
namespace KF
open PySem PySem.Spec PyProof.Rows L2

/-- what one move lacks -/
def oV : Option (Addr × List Kd) → V
  | none => .non
  | some q => .ref q.1
def keepS : List (Option (Addr × List Kd)) → List (Addr × List Kd)
  | [] => []
  | none :: r => keepS r
  | some q :: r => q :: keepS r
theorem keepS_app : ∀ l m : List (Option (Addr × List Kd)), keepS (l ++ m) = keepS l ++ keepS m
  | [], _ => rfl
  | none :: r, m => keepS_app r m
  | some q :: r, m => congrArg (q :: ·) (keepS_app r m)
theorem keepS_mem : ∀ {l : List (Option (Addr × List Kd))} {q : Addr × List Kd}, q ∈ keepS l → some q ∈ l
  | [], _, h => (by cases h)
  | none :: r, q, h => List.mem_cons_of_mem _ (keepS_mem (l := r) h)
  | some x :: r, q, h => by
    rcases List.mem_cons.mp h with e | h
    · rw [e]; exact List.mem_cons_self
    · exact List.mem_cons_of_mem _ (keepS_mem h)
theorem keepS_nil : ∀ {l : List (Option (Addr × List Kd))}, keepS l = [] ↔ ∀ o ∈ l, o = none
  | [] => ⟨fun _ _ h => (by cases h), fun _ => rfl⟩
  | none :: r => ⟨fun h o ho => (List.mem_cons.mp ho).elim id fun ho => keepS_nil.1 (show keepS r = [] from h) o ho, fun h => keepS_nil (l := r) |>.2 fun o ho => h o (List.mem_cons_of_mem _ ho)⟩
  | some x :: r => ⟨fun h => (by cases (show x :: keepS r = [] from h)), fun h => (by cases h _ List.mem_cons_self)⟩
theorem keepS_len : ∀ l : List (Option (Addr × List Kd)), (keepS l).length ≤ l.length
  | [] => Nat.le_refl _
  | none :: r => Nat.le_succ_of_le (keepS_len r)
  | some _ :: r => Nat.succ_le_succ (keepS_len r)
theorem mvK_app : ∀ l m : List (Int ⊕ Kd), mvK (l ++ m) = mvK l ++ mvK m
  | [], _ => rfl
  | .inl _ :: r, m => mvK_app r m
  | .inr k :: r, m => congrArg (k :: ·) (mvK_app r m)

theorem mvK_mem : ∀ {ms : List (Int ⊕ Kd)} {k : Kd}, Sum.inr k ∈ ms → k ∈ mvK ms
  | .inl _ :: r, k, h => (List.mem_cons.mp h).elim (fun z => (by cases z)) fun z => mvK_mem (ms := r) z
  | .inr j :: r, k, h => (List.mem_cons.mp h).elim (fun z => (by cases z; exact List.mem_cons_self)) fun z => List.mem_cons_of_mem _ (mvK_mem z)

def spFirst (U : List Kd) (C : Addr) (n : Nat) : Sp := fun vs H Q _ => ∃ (p kd fd t d l : Addr) (S : List Kd) (mks : List (Key × V)) (M : List Str) (us : List V) (ms : List (Int ⊕ Kd)), vs = [.ref p, .ref t, .ref d, .ref l] ∧ HavAt U C H p kd fd ∧ ResAt U kd H S t S ∧ mu U S ≤ n ∧ MksAt H kd d mks M ∧
  H l = some (.lst us) ∧ Paired (MvAt H) us ms ∧ (∀ k ∈ mvK ms, In U k) ∧ us.length ≤ 9 ∧
  ∀ (H' : Hp) (v : V), HavAt U C H' p kd fd → Kept kd fd H H' → (((∀ k ∈ mvK ms, OkK S M k) ∧ v = .non) ∨ (¬ (∀ k ∈ mvK ms, OkK S M k) ∧ ∃ t' S', v = .ref t' ∧ ResAt U kd H' S t' S')) → Q v H'

section
variable {P : Program} {w : World} {K : PySem.W.Frag} {mg : Str → Option Value} {base : Heap} {o1 C f fL : Addr} {fd fdL : FuncData} {U : List Kd}
theorem ok_first {n lv : Nat} (c : Clo U) (F : Fun K "first_not_had" "Having.first_not_had" sFirst f fd) (G : Glo K mg o1) (T : HCls K mg C)
    (GL : FnOk P w K mg base CX0 lv fL fdL ["self", "texts", "marks", "kind"] (spLack U C n)) (bL : Binds K fdL ["self", "texts", "marks", "kind"] []) (mL : Meth K C "lack_of" fL) :
    FnOk P w K mg base CX0 (lv + 1) f fd ["self", "texts", "marks", "moves"] (spFirst U C n) := by
  refine F.ok scFirst (fun vs H Q E h => ?_) (fun cdv A outer s H vs Q E hr h => ?_)
  · obtain ⟨p, kd, fd, t, d, l, S, mks, M, us, ms, rfl, _⟩ := h
    rfl
  obtain ⟨p, kd, fd, t, d, l, S, mks, M, us, ms, rfl, hv, hS, hmu, hM, hl, hus, hI, hln, q⟩ := h
  have hu := hu_of hr
  have hu65 : (A.deeper (envOfC "Having.first_not_had" (defScope sFirst) s.heap.objs.size f cdv)).units + 65 < cLine := by have := hr.un; omega
  refine ⟨_, pss_cons (ps_setLc (i := 4) (own := [("move", 5)]) (g := gName 5) (tt := tB (tCB (rIsi K) (tCons (tVar 5) (tCons (tC (.ty "tuple")) tNil)))) (te := tMeth C "lack_of" (spLack U C n) [] E0 (tVar 0) (tCons (tVar 1) (tCons (tVar 2) (tCons (tVar 5) tNil)))) rfl scFirst.nd rfl rfl (sw_true rfl rfl rfl (by decide +kernel)) (pi_list (pv 3))
      (blkOk_by (N := nFirst) (sc := defScope sFirst) (by decide +kernel)) (fun _ _ _ _ _ => pg_name (i := 5) scFirst.nd rfl (.inl rfl))
      (fun _ _ _ _ _ => pts_one (pt_val (pe_callB call_isi rfl G.isi bo_isi (pa_cons (pv 5) (pa_cons (pe_bltn (v := .ty "tuple") rfl G.tuple bo_tuple rfl) pa_nil)))))
      (fun _ _ _ _ _ => pe_meth (pv 0) T.cl mL GL hr bL .nil pass0 (pa_cons (pv 1) (pa_cons (pv 2) (pa_cons (pv 5) pa_nil)))))
    (pss_cons (ps_setLc (i := 4) (own := [("one", 6)]) (g := gName 6) (tt := tTest (tOp rNotN (tVar 6) (tC .non))) (te := tVar 6) rfl scFirst.nd rfl rfl (sw_true rfl rfl rfl (by decide +kernel)) (pi_list (pv 4))
      (blkOk_by (N := nFirst) (sc := defScope sFirst) (by decide +kernel)) (fun _ _ _ _ _ => pg_name (i := 6) scFirst.nd rfl (.inl rfl))
      (fun _ _ _ _ _ => pts_one (pt_cmpR op_notN1 (pv 6) pe_non (nomark _)))
      (fun _ _ _ _ _ => pv 6))
    (pss_cons (ps_if (pt_cmpR (op_inD hu65) (pv 1) (pv 4) rfl) (pss_one (ps_ret (pv 1))) pss_nil)
    (pss_one (ps_ret (pe_minLen rfl G.min rfl G.len rfl (pa_cons (pv 4) pa_nil)))))), ?_⟩
  -- lacking = [self.lack_of(..) for move in moves if isinstance(move, tuple)]
  have el := paired_len hus
  refine ⟨.ref l, rfl, l, rfl, ⟨_, SqL.of hl⟩, fun D hD => ?_⟩
  have s0 := same_new hD (.lst [])
  refine lc_list (K := K) (a := l) (xs := us) (fun i H' => HavAt U C H' p kd fd ∧ Kept kd fd H H' ∧ ∃ ls : List (Option (Addr × List Kd)), H' D = some (.lst (ls.map oV)) ∧ (∀ q, some q ∈ ls → ResAt U kd H' S q.1 q.2) ∧ ((∀ o ∈ ls, o = none) ↔ ∀ k ∈ mvK (ms.take i), OkK S M k) ∧ ls.length ≤ i)
    ⟨hv.mono s0, Kept.of s0, [], upd_same, (fun q hq => by cases hq), ⟨fun _ k hk => (by cases (show k ∈ [] from hk)), fun _ o ho => (by cases ho)⟩, Nat.le_refl _⟩ (fun i H' _ h => SqL.of (hv.lst h.2.1 hl)) (fun i v H1 hv' h => ?_) fun H1 h => ?_
  · obtain ⟨hv1, kp, ls, hD1, hls, hz, hlen⟩ := h
    obtain ⟨m, hm, hmv⟩ := paired_at hus hv'
    have hmv1 := hv.mvAt kp hmv
    have lt9 : i < us.length := (List.getElem?_eq_some_iff.mp hv').1
    refine ⟨rfl, ?_⟩
    have tk : mvK (ms.take (i + 1)) = mvK (ms.take i) ++ mvK [m] := by rw [take_snoc hm, mvK_app]
    cases m with
    | inl j =>
      cases (show v = .int j from hmv1)
      refine ⟨.int j, rfl, _, _, .type "int", .type "tuple", false, rfl, .ty _, .base (.int j), kit_ty (by decide +kernel), _, rfl, ?_⟩
      refine iteF ⟨hv1, kp, ls, hD1, hls, ?_, Nat.le_succ_of_le hlen⟩
      rw [hz, tk]
      show _ ↔ ∀ k ∈ mvK (ms.take i) ++ [], OkK S M k
      rw [List.append_nil]
    | inr k =>
      obtain ⟨a, rfl, ha⟩ := id (show KvAt H1 v k from hmv1)
      obtain ⟨xs, hx⟩ := ha.isTup
      refine ⟨.ref a, rfl, _, _, .type "tuple", .type "tuple", true, rfl, .ty _, .base (.tup hx), kit_ty (by decide +kernel), _, rfl, ?_⟩
      refine iteT ?_
      have hkI : In U k := hI k (mvK_mem (List.mem_of_getElem? hm))
      obtain ⟨⟨dx, ho⟩, _⟩ := id hv1
      refine ⟨.ref p, rfl, p, dx, _, rfl, ho, hf_no kd fd (by decide +kernel) (by decide +kernel), .ref t, rfl, .ref d, rfl, .ref a, rfl, p, kd, fd, t, d, a, S, mks, M, k, rfl, hv1, hS.kept hv kp, hmu, hM.kept hv kp, ha, hkI, fun H2 v2 hv2 kp2 res => ?_⟩
      have hD2 := hv1.lst kp2 hD1
      have hls2 : ∀ q, some q ∈ ls → ResAt U kd H2 S q.1 q.2 := fun q hq => (hls q hq).kept hv1 kp2
      have kpA := kp.trans kp2
      refine ⟨_, hD2, by rw [List.length_map]; exact small1000 (by omega), hv2.updL hD2, kpA.updL hD hD2, ?_⟩
      have tk2 : (∀ j ∈ mvK (ms.take (i + 1)), OkK S M j) ↔ (∀ j ∈ mvK (ms.take i), OkK S M j) ∧ OkK S M k := by
        rw [tk]
        show (∀ j ∈ mvK (ms.take i) ++ [k], OkK S M j) ↔ _
        constructor
        · exact fun z => ⟨fun j hj => z j (List.mem_append_left _ hj), z k (List.mem_append_right _ List.mem_cons_self)⟩
        · intro z j hj
          rcases List.mem_append.mp hj with w | w
          · exact z.1 j w
          · rw [List.mem_singleton.mp w]; exact z.2
      rcases res with ⟨ok, rfl⟩ | ⟨nok, t', S', rfl, hr'⟩
      · refine ⟨ls ++ [none], by rw [upd_same, List.map_append]; rfl, fun q hq => ?_, ?_, by rw [List.length_append, List.length_singleton]; omega⟩
        · rcases List.mem_append.mp hq with z | z
          · exact (hls2 q z).updL hD2
          · cases (List.mem_singleton.mp z)
        · rw [tk2, ← hz]
          constructor
          · exact fun z => ⟨fun o ho => z o (List.mem_append_left _ ho), ok⟩
          · intro z o ho
            rcases List.mem_append.mp ho with w | w
            · exact z.1 o w
            · exact List.mem_singleton.mp w
      · refine ⟨ls ++ [some (t', S')], by rw [upd_same, List.map_append]; rfl, fun q hq => ?_, ?_, by rw [List.length_append, List.length_singleton]; omega⟩
        · rcases List.mem_append.mp hq with z | z
          · exact (hls2 q z).updL hD2
          · cases (List.mem_singleton.mp z)
            exact hr'.updL hD2
        · rw [tk2]
          constructor
          · intro z
            have := z (some (t', S')) (List.mem_append_right _ List.mem_cons_self)
            cases this
          · exact fun z => absurd z.2 nok
  obtain ⟨hv1, kp, ls, hD1, hls, hz, hlen⟩ := h
  rw [el, List.take_length] at hz
  rw [el] at hlen hln
  -- lacking = [one for one in lacking if one is not None]
  refine ⟨.ref D, rfl, D, rfl, ⟨_, SqL.of hD1⟩, fun D2 hD2 => ?_⟩
  have s1 := same_new hD2 (.lst [])
  refine lc_list (K := K) (a := D) (xs := ls.map oV) (fun i H' => HavAt U C H' p kd fd ∧ Kept kd fd H1 H' ∧ H' D2 = some (.lst ((keepS (ls.take i)).map fun q => V.ref q.1)))
    ⟨hv1.mono s1, Kept.of s1, upd_same⟩ (fun i H' _ h => SqL.of (hv1.lst h.2.1 hD1)) (fun i v H2 hv' h => ?_) fun H2 h => ?_
  · obtain ⟨hv2, kp2, hd⟩ := h
    obtain ⟨o, ho, rfl⟩ : ∃ o, ls[i]? = some o ∧ v = oV o := by
      rw [List.getElem?_map] at hv'
      cases e : ls[i]? with
      | none => rw [e] at hv'; cases hv'
      | some k => rw [e] at hv'; exact ⟨k, rfl, (Option.some.inj hv').symm⟩
    have lt9 : i < ls.length := (List.getElem?_eq_some_iff.mp ho).1
    refine ⟨rfl, _, rfl, rfl, ?_⟩
    cases o with
    | none =>
      refine ⟨_, rfl, ?_⟩
      refine iteF ⟨hv2, kp2, ?_⟩
      rw [take_snoc ho, keepS_app]
      show H2 D2 = some (.lst ((keepS (ls.take i) ++ []).map _))
      rw [List.append_nil]
      exact hd
    | some q0 =>
      refine ⟨_, rfl, ?_⟩
      refine iteT ?_
      refine ⟨_, rfl, _, hd, ?_, hv2.updL hd, kp2.updL hD2 hd, ?_⟩
      · have := keepS_len (ls.take i)
        rw [List.length_take] at this
        rw [List.length_map]
        exact small1000 (by omega)
      · rw [upd_same, take_snoc ho, keepS_app, List.map_append]
        rfl
  obtain ⟨hv2, kp2, hd⟩ := h
  rw [List.length_map, List.take_length] at hd
  have kpB := kp.trans kp2
  have hS2 := hS.kept hv kpB
  have hks : ∀ q ∈ keepS ls, ResAt U kd H2 S q.1 q.2 := fun q hq => (hls q (keepS_mem hq)).kept hv1 kp2
  have hz2 := keepS_nil.trans hz
  -- texts in lacking
  have dpl : ∀ l : List (Addr × List Kd), (∀ q ∈ l, ResAt U kd H2 S q.1 q.2) → DpAll K H2 (l.map fun q => V.ref q.1) (l.map fun q => tD (txts q.2)) := by
    intro l
    induction l with
    | nil => intro _; exact .nil
    | cons x r ih => intro h; exact .cons (dp_txts (h x List.mem_cons_self).tx) (ih fun q hq => h q (List.mem_cons_of_mem _ hq))
  generalize keepS ls = ks at hd hks hz2
  have em : (ks.map fun q => tD (txts q.2)) = (ks.map fun q => txts q.2).map tD := by rw [List.map_map]; rfl
  refine ⟨.ref t, rfl, .ref D2, rfl, tD (txts S), _, dp_txts hS2.tx, .lst (SqL.of hd) (dpl ks hks), tD_shaped (hS.ctx.okT c), by rw [em]; exact tDs_shaped fun x hx => (by
    obtain ⟨q, hq, rfl⟩ := List.mem_map.mp hx
    exact (hks q hq).ctx.okT c), _, rfl, ?_⟩
  rw [em, tDs_any]
  refine ite2 (fun e => ?_) (fun e => ?_)
  · have e1 : txts S ∈ ks.map fun q => txts q.2 := of_decide_eq_true e
    have ne : ¬ ∀ k ∈ mvK ms, OkK S M k := fun z => by
      rw [hz2.2 z] at e1
      cases e1
    exact ⟨.ref t, rfl, q H2 _ hv2 kpB (.inr ⟨ne, t, S, rfl, hS2⟩)⟩
  · refine ⟨.ref D2, rfl, D2, _, rfl, SqL.of hd, fun y hy => ?_, fun e0 => ?_, fun y hy => ?_⟩
    · obtain ⟨x, hx, rfl⟩ := List.mem_map.mp hy
      exact ⟨_, _, rfl, (hks x hx).tx⟩
    · have e1 : ks = [] := List.map_eq_nil_iff.mp e0
      exact q H2 _ hv2 kpB (.inl ⟨hz2.1 e1, rfl⟩)
    · obtain ⟨x, hx, rfl⟩ := List.mem_map.mp hy
      refine q H2 _ hv2 kpB (.inr ⟨fun z => ?_, x.1, x.2, rfl, hks x hx⟩)
      rw [hz2.2 z] at hx
      cases hx
end
end KF
/-! had_more. -/
namespace KF
open PySem PySem.Spec PyProof.Rows L2

/-- the marks that may come -/
structure MkU (U : List Kd) (Ms : List Str) : Prop where
  sz : Ms.length ≤ 9
  cl : ∀ k ∈ U, ∀ e ∈ ends k, e.2 ∈ Ms
theorem MkU.len {U : List Kd} {Ms : List Str} (m : MkU U Ms) {S : List Kd} {M : List Str} (hS : CtxU U S) (hn : M.Nodup) (hd : ∀ x ∈ M, Der S x) : M.length ≤ 9 := by
  refine Nat.le_trans (nodup_len M Ms hn fun x hx => ?_) m.sz
  obtain ⟨k, hk, e, he, em, _⟩ := (hd x hx).inv
  rw [← em]
  exact m.cl k (hS.sub k hk) e he
/-- d is not kept as found -/
def NotF (H : Hp) (fd d : Addr) : Prop := ∀ fvs x, H fd = some (.dT fvs) → valV fvs x ≠ some (.ref d)
theorem NotF.kept {U : List Kd} {C : Addr} {H H' : Hp} {p kd fd d : Addr} {o : HO} (hv : HavAt U C H p kd fd) (s : Kept kd fd H H') (e : H d = some o) (h : NotF H fd d) : NotF H' fd d := by
  obtain ⟨_, _, ⟨fvs, hf, _⟩⟩ := hv
  obtain ⟨fvs', hf', hx⟩ := s.fnd fvs hf
  intro gvs x eg ev
  rw [hf'] at eg
  cases eg
  rcases hx x d ev with ⟨x', z⟩ | z
  · exact h fvs x' hf z
  · rw [e] at z; cases z
theorem MksAt.nfd {U : List Kd} {C : Addr} {H : Hp} {p kd fd d : Addr} {mks : List (Key × V)} {M : List Str} (hv : HavAt U C H p kd fd) (x : MksAt H kd d mks M) : d ≠ fd := by
  obtain ⟨_, _, ⟨fvs, hf, _⟩⟩ := hv
  exact ne_of x.at_ hf (by intro z; cases z)
theorem HavAt.hide {U : List Kd} {C : Addr} {H : Hp} {p kd fd d : Addr} {mks : List (Key × V)} {M : List Str} (hv : HavAt U C H p kd fd) (x : MksAt H kd d mks M) (nf : NotF H fd d) : HavAt U C (KF.hide d H) p kd fd := by
  have nfd := x.nfd hv
  obtain ⟨⟨dx, ho⟩, ⟨kvs, T, hk, ok⟩, ⟨fvs, hf, hn, hx⟩⟩ := hv
  refine ⟨⟨dx, by rw [hide_ne (ne_of ho x.at_ (by intro z; cases z))]; exact ho⟩, ⟨kvs, T, by rw [hide_ne x.ne.symm]; exact hk, ok.mono fun b xs e => by rw [hide_ne (ne_of e x.at_ (by intro z; cases z))]; exact e⟩, ⟨fvs, by rw [hide_ne nfd.symm]; exact hf, hn, fun y v ev => ?_⟩⟩
  obtain ⟨S, d', mks', M', h1, h2, h3, h4, h5, h6⟩ := hx y v ev
  refine ⟨S, d', mks', M', h1, h2, h3, h4, ?_, h6⟩
  rw [hide_ne fun e => nf fvs y hf (by rw [ev, h3, e])]
  exact h5
theorem Kn.hide {H : Hp} {kd d : Addr} {k : Kd} (h : d ≠ kd) (x : Kn H kd k) : Kn (KF.hide d H) kd k := by
  obtain ⟨kvs, e, z⟩ := x
  exact ⟨kvs, by rw [hide_ne h.symm]; exact e, z⟩
theorem Kept.hide {kd fd d : Addr} {H H1 : Hp} (k : Kept kd fd (KF.hide d H) H1) (h1 : d ≠ kd) (h2 : d ≠ fd) : Kept kd fd (KF.hide d H) (KF.hide d H1) := by
  refine ⟨fun b o a1 a2 e => ?_, fun j hj => (k.grow j hj).hide h1, fun b hb => ?_, fun fvs e => ?_⟩
  · rw [hide_ne (hide_some e).1]
    exact k.same b o a1 a2 e
  · by_cases e : b = d
    · unfold KF.hide; rw [if_pos e]
    · rw [hide_ne e] at hb; exact k.dom b hb
  · obtain ⟨fvs', e', x⟩ := k.fnd fvs e
    exact ⟨fvs', by rw [hide_ne h2.symm]; exact e', x⟩
/-- the marks are changed -/
theorem HavAt.updD {U : List Kd} {C : Addr} {H : Hp} {p kd fd d : Addr} {o : HO} {mks : List (Key × V)} {M : List Str} (hv : HavAt U C H p kd fd) (x : MksAt H kd d mks M) (nf : NotF H fd d) : HavAt U C (L2.upd H d o) p kd fd := by
  have nfd := x.nfd hv
  obtain ⟨⟨dx, ho⟩, ⟨kvs, T, hk, ok⟩, ⟨fvs, hf, hn, hx⟩⟩ := hv
  refine ⟨⟨dx, by rw [upd_ne (ne_of ho x.at_ (by intro z; cases z))]; exact ho⟩, ⟨kvs, T, by rw [upd_ne x.ne.symm]; exact hk, ok.mono fun b xs e => by rw [upd_ne (ne_of e x.at_ (by intro z; cases z))]; exact e⟩, ⟨fvs, by rw [upd_ne nfd.symm]; exact hf, hn, fun y v ev => ?_⟩⟩
  obtain ⟨S, d', mks', M', h1, h2, h3, h4, h5, h6⟩ := hx y v ev
  refine ⟨S, d', mks', M', h1, h2, h3, h4, ?_, h6⟩
  rw [upd_ne fun e => nf fvs y hf (by rw [ev, h3, e])]
  exact h5
theorem Kept.updD {kd fd d : Addr} {H H1 : Hp} {o : HO} (k : Kept kd fd (KF.hide d H) H1) (h1 : d ≠ kd) (h2 : d ≠ fd) : Kept kd fd (KF.hide d H) (upd H1 d o) := by
  refine ⟨fun b o' a1 a2 e => ?_, fun j hj => ?_, fun b hb => ?_, fun fvs e => ?_⟩
  · rw [upd_ne (hide_some e).1]
    exact k.same b o' a1 a2 e
  · obtain ⟨kvs, e, z⟩ := k.grow j hj
    exact ⟨kvs, by rw [upd_ne h1.symm]; exact e, z⟩
  · by_cases e : b = d
    · rw [e, upd_same] at hb; cases hb
    · rw [upd_ne e] at hb; exact k.dom b hb
  · obtain ⟨fvs', e', x⟩ := k.fnd fvs e
    exact ⟨fvs', by rw [upd_ne h2.symm]; exact e', x⟩
theorem NotF.updD {H : Hp} {fd d : Addr} {o : HO} (h2 : d ≠ fd) (h : NotF H fd d) : NotF (upd H d o) fd d := fun fvs x e => h fvs x (by rw [upd_ne h2.symm] at e; exact e)
/-- a known kind is found by its text -/
theorem HavAt.get {U : List Kd} {C : Addr} {H : Hp} {p kd fd : Addr} (c : Clo U) (hv : HavAt U C H p kd fd) {k : Kd} (hk : Wf k) (x : Kn H kd k) : ∃ kvs a, H kd = some (.dK kvs) ∧ valV kvs (Sum.inr (txt k)) = some (.ref a) ∧ KAt H k a ∧ k ∈ U := by
  obtain ⟨_, ⟨kvs, T, e, ok⟩, _⟩ := hv
  obtain ⟨kvs', e', z⟩ := x
  rw [e] at e'
  cases e'
  have z' := valV_keys.mp z
  rw [ok.keys.keys] at z'
  have hT := (mem_keysOf (fun j hj => c.wf j (ok.sub j hj)) hk).mp z'
  obtain ⟨v, ev, a, rfl, ha⟩ := ok.at_ k hT
  exact ⟨kvs, a, e, ev, ha, ok.sub k hT⟩
/-- a mark is put -/
theorem MksAt.put {H : Hp} {kd d : Addr} {mks : List (Key × V)} {M : List Str} (x : MksAt H kd d mks M) {m : Str} (hm : m ∉ M) (v : V) : MksAt (upd H d (.dK (putK mks (Sum.inr m) v))) kd d (putK mks (Sum.inr m) v) (M ++ [m]) := by
  refine ⟨upd_same, x.ne, ?_⟩
  have h := x.has m
  rw [decide_eq_false hm] at h
  rw [putK_keys, h]
  simp [x.keys]

def spHadMore (U : List Kd) (C : Addr) (n : Nat) : Sp := fun vs H Q _ => ∃ (p kd fd t d : Addr) (S : List Kd) (mks : List (Key × V)) (M : List Str), vs = [.ref p, .ref t, .ref d] ∧ HavAt U C H p kd fd ∧ ResAt U kd H S t S ∧ mu U S ≤ n ∧ MksAt H kd d mks M ∧ NotF H fd d ∧ M.Nodup ∧ (∀ m ∈ M, Der S m) ∧
  ∀ (H' : Hp) (mks' : List (Key × V)) (r : List Str), HavAt U C H' p kd fd → Kept kd fd (hide d H) H' → NotF H' fd d → MksAt H' kd d mks' (M ++ r) → (M ++ r).Nodup → (∀ m ∈ M ++ r, Der S m) → (r = [] → IsHad S M) → Q (.bl (decide (0 < r.length))) H'

section
variable {P : Program} {w : World} {K : PySem.W.Frag} {mg : Str → Option Value} {base : Heap} {o1 C f fF fW : Addr} {fd fdF fdW : FuncData} {U : List Kd} {Ms : List Str}
theorem ok_hadMore {n lv : Nat} (c : Clo U) (cm : MkU U Ms) (h9 : 9 ≤ lv) (F : Fun K "had_more" "Having.had_more" sHadMore f fd) (G : Glo K mg o1) (T : HCls K mg C)
    (GW : FnOk P w K mg base CX0 9 fW fdW ["kind"] (spWays 9)) (bW : Binds K fdW ["kind"] []) (kW : PySem.W.keepIn K (.ref fW) = true) (gW : mg "ways_of" = some (.ref fW))
    (GF : FnOk P w K mg base CX0 lv fF fdF ["self", "texts", "marks", "moves"] (spFirst U C n)) (bF : Binds K fdF ["self", "texts", "marks", "moves"] []) (mF : Meth K C "first_not_had" fF) :
    FnOk P w K mg base CX0 (lv + 1) f fd ["self", "texts", "marks"] (spHadMore U C n) := by
  refine F.ok scHadMore (fun vs H Q E h => ?_) (fun cdv A outer s H vs Q E hr h => ?_)
  · obtain ⟨p, kd, fd, t, d, S, mks, M, rfl, _⟩ := h
    rfl
  obtain ⟨p, kd, fd, t, d, S, mks, M, rfl, hv, hS, hmu, hM, nf, hnd, hsd, q⟩ := h
  have hu := hu_of hr
  refine ⟨_, pss_cons (ps_set (i := 3) scHadMore.nd rfl (.inl rfl) (pe_callB call_lenD rfl G.len bo_len (pa_cons (pv 2) pa_nil)))
    (pss_cons (ps_for PassesOwn.never rfl (pi_tup (pv 1)) (pg_name (i := 4) scHadMore.nd rfl (.inl rfl))
      (pss_one (ps_for PassesOwn.never rfl (pi_list (pe_call GW (hr.mono h9) rfl gW kW bW .nil pass0 (pa_cons (pe_dget hu (pe_fld (pv 0) rfl) (pv 4) (fun _ _ => rfl)) pa_nil))) (pg_tup rfl (pgs_cons (pg_name (i := 5) scHadMore.nd rfl (.inl rfl)) (pgs_cons (pg_name (i := 6) scHadMore.nd rfl (.inl rfl)) pgs_nil)))
        (pss_one (ps_if (PW.pt (pw_and (pt_cmp (pc_dnotin hu (pv 6) (pv 2))) (pw_and1 (pt_cmpR op_isN1 (pe_meth (pv 0) T.cl mF GF hr bF .nil pass0 (pa_cons (pv 1) (pa_cons (pv 2) (pa_cons (pv 5) pa_nil)))) pe_non (nomark _)))))
          (pss_one (ps_dput hu (pv 2) (pv 6) pe_bl rfl)) pss_nil)))))
    (pss_one (ps_ret (pe_cmpR op_gt (pe_callB call_lenD rfl G.len bo_len (pa_cons (pv 2) pa_nil)) (pv 3) (nomark _))))), ?_⟩
  have nfd := hM.nfd hv
  have nkd := hM.ne
  have hvh := hv.hide hM nf
  have tn : ∀ {H : Hp} {b : Addr} {xs : List V} {mks : List (Key × V)} {M : List Str}, MksAt H kd d mks M → H b = some (.tup xs) → hide d H b = some (.tup xs) := fun x e => by
    rw [hide_ne (ne_of e x.at_ (by intro z; cases z))]; exact e
  have ln : ∀ {H : Hp} {b : Addr} {xs : List V} {mks : List (Key × V)} {M : List Str}, MksAt H kd d mks M → H b = some (.lst xs) → hide d H b = some (.lst xs) := fun x e => by
    rw [hide_ne (ne_of e x.at_ (by intro z; cases z))]; exact e
  have hth := tn hM hS.tx
  -- many = len(marks)
  refine ⟨.ref d, rfl, d, mks, rfl, hM.at_, ?_⟩
  have lenM : mks.length = M.length := by
    have := congrArg List.length hM.keys
    rwa [List.length_map, List.length_map] at this
  rw [lenM]
  -- for text in texts
  refine ⟨.ref t, rfl, t, rfl, ⟨_, SqT.of hS.tx⟩, for_tup (K := K) (a := t) (xs := (txts S).map V.str) (fun i σ H' => ∃ x4 x5 x6, σ = [some (.ref p), some (.ref t), some (.ref d), some (.int M.length), x4, x5, x6] ∧ HavAt U C H' p kd fd ∧ Kept kd fd (hide d H) H' ∧ NotF H' fd d ∧
      ∃ mks' r, MksAt H' kd d mks' (M ++ r) ∧ (M ++ r).Nodup ∧ (∀ m ∈ M ++ r, Der S m) ∧ (r = [] → ∀ k ∈ S.take i, ∀ e ∈ pways k, (∀ j ∈ mvK e.1, OkK S M j) → e.2 ∈ M))
    ⟨none, none, none, rfl, hv, Kept.of (hide_same d H), nf, mks, [], by rw [List.append_nil]; exact hM, by rw [List.append_nil]; exact hnd, by rw [List.append_nil]; exact hsd, fun _ k hk => (by simp at hk)⟩ (fun i σ H' _ ⟨_, _, _, _, _, kp, _⟩ => SqT.of (hvh.tup kp hth)) ?_ ?_⟩
  · rintro i x σ H1 hi ⟨x4, x5, x6, rfl, hv1, kp1, nf1, mks1, r1, hM1, hn1, hs1, hc1⟩
    obtain ⟨k, hk, rfl⟩ : ∃ k, S[i]? = some k ∧ x = .str (txt k) := by
      rw [List.getElem?_map, List.getElem?_map] at hi
      cases e : S[i]? with
      | none => rw [e] at hi; cases hi
      | some k => rw [e] at hi; exact ⟨k, rfl, (Option.some.inj hi).symm⟩
    have hkS := List.mem_of_getElem? hk
    have hwk := hS.ctx.wf c k hkS
    have kn1 := kp1.grow k ((hS.kn k hkS).hide nkd)
    obtain ⟨kvs, a, hkd, hget, hka, hkU⟩ := hv1.get c hwk kn1
    obtain ⟨⟨dx, ho⟩, _⟩ := id hv1
    -- for moves, mark in ways_of(self.kinds[text])
    refine ⟨.ref p, rfl, p, C, dx, _, _, rfl, ho, T.cl, T.nK, hf_kinds kd fd, .str (txt k), rfl, kd, .ref a, rfl, by rw [← hget]; exact DGet.k (k := Sum.inr (txt k)) hkd, k, a, rfl, hka, Nat.le_trans (c.lv k hkU) (by decide), ⟨hwk, c.lv k hkU⟩, fun H2 l s2 ⟨ps, fl, a2, b2⟩ => ?_⟩
    have kpA := kp1.trans (Kept.of s2)
    have hv2 := hv1.mono s2
    have hM2 := hM1.kept hv1 (Kept.of s2)
    have nf2 := nf1.kept hv1 (Kept.of s2) hM1.at_
    have hvh2 := hv2.hide hM2 nf2
    have hl2 := ln hM2 a2
    have ht2 := tn hM2 (hvh.tup kpA hth)
    refine ⟨l, rfl, ⟨_, SqL.of a2⟩, for_list (K := K) (a := l) (xs := ps.map V.ref) (fun j σ H' => ∃ x5 x6, σ = [some (.ref p), some (.ref t), some (.ref d), some (.int M.length), some (.str (txt k)), x5, x6] ∧ HavAt U C H' p kd fd ∧ Kept kd fd (hide d H2) H' ∧ NotF H' fd d ∧
      ∃ mks' r, MksAt H' kd d mks' (M ++ r) ∧ (M ++ r).Nodup ∧ (∀ m ∈ M ++ r, Der S m) ∧ (r = [] → r1 = []) ∧ (r = [] → ∀ e ∈ (pways k).take j, (∀ j ∈ mvK e.1, OkK S M j) → e.2 ∈ M))
      ⟨_, _, rfl, hv2, Kept.of (hide_same d H2), nf2, mks1, r1, hM2, hn1, hs1, id, fun _ e he => (by simp at he)⟩ (fun j σ H' _ ⟨_, _, _, _, kp, _⟩ => SqL.of (hvh2.lst kp hl2)) ?_ ?_⟩
    · rintro j v σ H3 hj ⟨y5, y6, rfl, hv3, kp3, nf3, mks3, r3, hM3, hn3, hs3, hr3, hc3⟩
      obtain ⟨pi, hpi, rfl⟩ := map_refs_at hj
      obtain ⟨e, he, tl, us, g0, g1, g2, g3⟩ := paired_at b2 hpi
      have hek := List.mem_of_getElem? he
      have g1h := tn hM2 g1
      have g2h := ln hM2 g2
      have q1 := hvh2.tup kp3 g1h
      have q2 := hvh2.lst kp3 g2h
      have q3 : Paired (MvAt H3) us e.1 := Paired.mapP g3 fun u m z => by
        cases m with
        | inl _ => exact z
        | inr j' =>
          obtain ⟨b, rfl, hb⟩ := (show KvAt H2 u j' from z)
          exact ⟨b, rfl, hvh2.kAt kp3 (hb.mono fun c' xs e' => tn hM2 e')⟩
      have heE : (mvK e.1, e.2) ∈ ends k := by
        rw [← pways_ends k]
        exact List.mem_map.mpr ⟨e, hek, rfl⟩
      have heI : ∀ j ∈ mvK e.1, In U j := fun j' hj' => c.inn (c.cl k hkU _ heE j' hj')
      have tk := take_snoc he
      refine ⟨pi, _, rfl, SqT.of q1, rfl, _, _, rfl, _, _, rfl, rfl, ?_⟩
      -- mark not in marks and self.first_not_had(..) is None
      refine ⟨.str e.2, rfl, .ref d, rfl, d, _, rfl, DGet.k (k := Sum.inr e.2) hM3.at_, _, rfl, ?_⟩
      rw [hM3.has]
      have kpB := kpA.hide nkd nfd |>.trans kp3
      have skip : ∀ (H4 : Hp) (z5 z6 : Option V), HavAt U C H4 p kd fd → Kept kd fd (hide d H2) H4 → NotF H4 fd d → MksAt H4 kd d mks3 (M ++ r3) → (r3 = [] → (∀ j ∈ mvK e.1, OkK S M j) → e.2 ∈ M) →
          ∃ x5 x6, [some (V.ref p), some (.ref t), some (.ref d), some (.int M.length), some (.str (txt k)), z5, z6] = [some (V.ref p), some (.ref t), some (.ref d), some (.int M.length), some (.str (txt k)), x5, x6] ∧ HavAt U C H4 p kd fd ∧ Kept kd fd (hide d H2) H4 ∧ NotF H4 fd d ∧
            ∃ mks' r, MksAt H4 kd d mks' (M ++ r) ∧ (M ++ r).Nodup ∧ (∀ m ∈ M ++ r, Der S m) ∧ (r = [] → r1 = []) ∧ (r = [] → ∀ e ∈ (pways k).take (j + 1), (∀ j ∈ mvK e.1, OkK S M j) → e.2 ∈ M) := fun H4 z5 z6 w1 w2 w3 w4 w5 => by
        refine ⟨z5, z6, rfl, w1, w2, w3, mks3, r3, w4, hn3, hs3, hr3, fun er x hx => ?_⟩
        rw [tk] at hx
        rcases List.mem_append.mp hx with w | w
        · exact hc3 er x w
        · rw [List.mem_singleton.mp w]; exact w5 er
      by_cases cM : e.2 ∈ M ++ r3
      · rw [decide_eq_true cM]
        refine iteF ?_
        exact skip H3 _ _ hv3 kp3 nf3 hM3 fun er _ => by rw [er, List.append_nil] at cM; exact cM
      rw [decide_eq_false cM]
      refine iteT ?_
      obtain ⟨⟨dx3, ho3⟩, _⟩ := id hv3
      have hl9 : us.length ≤ 9 := by
        have l1 := paired_len q3
        have l2 := pmoves_len hek
        have l3 := c.lv k hkU
        omega
      have hS3 : ResAt U kd H3 S t S := ⟨hvh.tup kpB hth, hS.ctx, fun _ z => z, fun k' hk' => kpB.grow k' ((hS.kn k' hk').hide nkd)⟩
      refine ⟨.ref p, rfl, p, dx3, _, rfl, ho3, hf_no kd fd (by decide +kernel) (by decide +kernel), .ref t, rfl, .ref d, rfl, .ref tl, rfl, p, kd, fd, t, d, tl, S, mks3, M ++ r3, us, e.1, rfl, hv3, hS3, hmu, hM3, q2, q3, heI, hl9, fun H4 v4 hv4 kp4 res => ?_⟩
      have hM4 := hM3.kept hv3 kp4
      have nf4 := nf3.kept hv3 kp4 hM3.at_
      have kp34 := kp3.trans kp4
      rcases res with ⟨ok, rfl⟩ | ⟨nok, t', S', rfl, hr'⟩
      · refine ⟨rfl, _, rfl, ?_⟩
        refine iteT ?_
        -- marks[mark] = True
        have l9 := cm.len hS.ctx hn3 hs3
        have lm : mks3.length < sizeLine := by
          have := congrArg List.length hM3.keys
          rw [List.length_map, List.length_map] at this
          exact small1000 (by omega)
        refine ⟨.ref d, rfl, .str e.2, rfl, d, _, rfl, DPut.k (k := Sum.inr e.2) hM4.at_ lm, ?_⟩
        refine ⟨_, _, rfl, hv4.updD hM4 nf4, kp34.updD nkd nfd, nf4.updD nfd, putK mks3 (Sum.inr e.2) (.bl true), r3 ++ [e.2], ?_, ?_, ?_, fun z => (by simp at z), fun z => (by simp at z)⟩
        · rw [← List.append_assoc]
          exact hM4.put cM _
        · rw [← List.append_assoc, List.nodup_append]
          exact ⟨hn3, List.nodup_cons.mpr ⟨by simp, List.nodup_nil⟩, fun a' ha b hb e' => cM (by rw [List.mem_singleton.mp hb] at e'; exact e' ▸ ha)⟩
        · rw [← List.append_assoc]
          intro m hm
          rcases List.mem_append.mp hm with w | w
          · exact hs3 m w
          · rw [List.mem_singleton.mp w]
            exact Der.step (e := (mvK e.1, e.2)) hkS heE fun j' hj' => (ok j' hj').has hs3
      · refine ⟨rfl, _, rfl, ?_⟩
        refine iteF ?_
        exact skip H4 _ _ hv4 kp34 nf4 hM4 fun er z => by
          rw [er, List.append_nil] at nok
          exact absurd z nok
    · rintro σ H3 ⟨y5, y6, rfl, hv3, kp3, nf3, mks3, r3, hM3, hn3, hs3, hr3, hc3⟩
      have el : (ps.map V.ref).length = (pways k).length := by rw [List.length_map]; exact paired_len b2
      rw [el, List.take_length] at hc3
      refine ⟨_, _, _, rfl, hv3, (kpA.hide nkd nfd).trans kp3, nf3, mks3, r3, hM3, hn3, hs3, fun er k' hk' => ?_⟩
      rw [take_snoc hk] at hk'
      rcases List.mem_append.mp hk' with w | w
      · exact hc1 (hr3 er) k' w
      · rw [List.mem_singleton.mp w]; exact hc3 er
  · rintro σ H1 ⟨x4, x5, x6, rfl, hv1, kp1, nf1, mks1, r1, hM1, hn1, hs1, hc1⟩
    rw [List.length_map, List.length_map, List.take_length] at hc1
    have l1 : mks1.length = M.length + r1.length := by
      have := congrArg List.length hM1.keys
      rw [List.length_map, List.length_map, List.length_append] at this
      exact this
    refine ⟨.ref d, rfl, d, mks1, rfl, hM1.at_, .int M.length, rfl, _, _, rfl, rfl, ?_⟩
    have ed : decide ((M.length : Int) < (mks1.length : Int)) = decide (0 < r1.length) := by
      rw [l1]
      exact decide_eq_decide.mpr (by omega)
    show Q (.bl (decide ((M.length : Int) < (mks1.length : Int)))) H1
    rw [ed]
    refine q H1 mks1 r1 hv1 kp1 nf1 hM1 hn1 hs1 fun er => closed_all hsd fun k hk e he hj => ?_
    rw [← pways_ends k] at he
    obtain ⟨e', he', rfl⟩ := List.mem_map.mp he
    exact hc1 er k hk e' he' hj
end
end KF
/-! had, by turns. -/
namespace KF
open PySem PySem.Spec PyProof.Rows L2

theorem Kept.hideN {kd fd d : Addr} {H H1 : Hp} (k : Kept kd fd H H1) (hd : H d = none) (h1 : d ≠ kd) (h2 : d ≠ fd) : Kept kd fd H (KF.hide d H1) := by
  refine ⟨fun b o a1 a2 e => ?_, fun j hj => (k.grow j hj).hide h1, fun b hb => ?_, fun fvs e => ?_⟩
  · rw [hide_ne (ne_of_none e hd)]
    exact k.same b o a1 a2 e
  · by_cases e : b = d
    · rw [e]; exact hd
    · rw [hide_ne e] at hb; exact k.dom b hb
  · obtain ⟨fvs', e', x⟩ := k.fnd fvs e
    exact ⟨fvs', by rw [hide_ne h2.symm]; exact e', x⟩
theorem NotF.fresh {U : List Kd} {C : Addr} {H : Hp} {p kd fd d : Addr} {o : HO} (hv : HavAt U C H p kd fd) (hd : H d = none) : NotF (upd H d o) fd d := by
  obtain ⟨_, _, ⟨fvs, hf, _, hx⟩⟩ := hv
  intro gvs x eg ev
  rw [upd_ne (ne_of_none hf hd), hf] at eg
  cases eg
  obtain ⟨S, d', mks', M', h1, h2, h3, h4, h5, h6⟩ := hx x _ ev
  cases h3
  rw [hd] at h5; cases h5
theorem keysOf_inj {S T : List Kd} (hS : ∀ k ∈ S, Wf k) (hT : ∀ k ∈ T, Wf k) (h : keysOf S = keysOf T) : S = T := by
  refine txts_inj hS hT ?_
  have : ∀ l m : List Str, l.map (Sum.inr (α := Int)) = m.map Sum.inr → l = m := by
    intro l
    induction l with
    | nil => intro m h; cases m with
      | nil => rfl
      | cons _ _ => cases h
    | cons x l ih => intro m h; cases m with
      | nil => cases h
      | cons y m =>
        rw [List.map_cons, List.map_cons] at h
        injection h with h1 h2
        rw [Sum.inr.inj h1, ih m h2]
  exact this _ _ (by rw [← keys_txts, ← keys_txts]; exact h)
theorem line_18 : 2 ^ 18 < sizeLine := by rw [sizeLine_eq]; decide
/-- how many sets can be found -/
theorem fnd_len {U : List Kd} (c : Clo U) {fvs : List (List Key × V)} (hn : (fvs.map (·.1)).Nodup) (h : ∀ x v, valV fvs x = some v → ∃ S, x = keysOf S ∧ CtxU U S) : fvs.length < sizeLine := by
  have : ∃ Ss : List (List Kd), fvs.map (·.1) = Ss.map keysOf ∧ ∀ S ∈ Ss, CtxU U S := by
    have hx : ∀ x ∈ fvs.map (·.1), ∃ S, x = keysOf S ∧ CtxU U S := fun x hx => by
      have := valV_keys.mpr hx
      obtain ⟨v, ev⟩ := Option.isSome_iff_exists.mp this
      exact h x v ev
    clear hn h
    generalize fvs.map (·.1) = l at hx
    induction l with
    | nil => exact ⟨[], rfl, fun _ h => (by cases h)⟩
    | cons x l ih =>
      obtain ⟨S, e, hS⟩ := hx x List.mem_cons_self
      obtain ⟨Ss, e2, h2⟩ := ih fun y hy => hx y (List.mem_cons_of_mem _ hy)
      exact ⟨S :: Ss, by rw [e, e2]; rfl, fun T hT => (List.mem_cons.mp hT).elim (fun z => z ▸ hS) (h2 T)⟩
  obtain ⟨Ss, e, hSs⟩ := this
  rw [e] at hn
  have hp := List.pairwise_map.mp hn
  have hg : (Ss.map fun S => U.map fun k => decide (k ∈ S)).Nodup := by
    refine List.pairwise_map.mpr (List.Pairwise.imp_of_mem (fun {a b} ha hb hab hg => hab ?_) hp)
    have hk := List.map_inj_left.mp hg
    have : a = b := Ctx.uniq (hSs a ha).asc (hSs b hb).asc fun k => by
      constructor
      · intro z
        have := hk k ((hSs a ha).sub k z)
        rw [decide_eq_true z] at this
        exact of_decide_eq_true this.symm
      · intro z
        have := hk k ((hSs b hb).sub k z)
        rw [decide_eq_true z] at this
        exact of_decide_eq_true this
    rw [this]
  have h1 := nodup_len _ (bits U.length) hg fun x hx => by
    obtain ⟨S, _, rfl⟩ := List.mem_map.mp hx
    have := bits_mem (U.map fun k => decide (k ∈ S))
    rwa [List.length_map] at this
  have h2 : fvs.length = Ss.length := by
    have := congrArg List.length e
    rwa [List.length_map, List.length_map] at this
  rw [List.length_map, bits_len] at h1
  have h3 : 2 ^ U.length ≤ 2 ^ 18 := Nat.pow_le_pow_right (by decide) c.sz
  rw [h2]
  exact Nat.lt_of_le_of_lt (Nat.le_trans h1 h3) line_18
theorem HavAt.putF {U : List Kd} {C : Addr} {H0 H : Hp} {p kd fd d : Addr} {S : List Kd} {mks : List (Key × V)} {M : List Str} (hv : HavAt U C H p kd fd) (s : Kept kd fd H0 H) (h0 : H0 d = none) (hS : CtxU U S) (hM : MksAt H kd d mks M) (hh : IsHad S M) (hn : M.Nodup) {fvs : List (List Key × V)} (hf : H fd = some (.dT fvs)) :
    HavAt U C (L2.upd H fd (.dT (putK fvs (keysOf S) (.ref d)))) p kd fd ∧ Kept kd fd H0 (L2.upd H fd (.dT (putK fvs (keysOf S) (.ref d)))) ∧ MksAt (L2.upd H fd (.dT (putK fvs (keysOf S) (.ref d)))) kd d mks M := by
  have nfd := hM.nfd hv
  have nkf := hv.kd_fd
  obtain ⟨⟨dx, ho⟩, ⟨kvs, T, hk, ok⟩, ⟨fvs', hf', hnd, hx⟩⟩ := hv
  rw [hf] at hf'
  cases hf'
  have hdk : ∀ b m, b ≠ kd → H b = some (.dK m) → L2.upd H fd (.dT (putK fvs (keysOf S) (.ref d))) b = some (.dK m) := fun b m _ e => by rw [upd_ne (ne_of e hf (by intro z; cases z))]; exact e
  refine ⟨⟨⟨dx, by rw [upd_ne (ne_of ho hf (by intro z; cases z))]; exact ho⟩, ⟨kvs, T, by rw [upd_ne nkf]; exact hk, ok.mono fun b xs e => by rw [upd_ne (ne_of e hf (by intro z; cases z))]; exact e⟩, ⟨_, upd_same, ?_, fun x v ev => ?_⟩⟩, ⟨fun b o a1 a2 e => ?_, fun j hj => ?_, fun b hb => ?_, fun gvs e => ?_⟩, ⟨hdk _ _ hM.ne hM.at_, hM.ne, hM.keys⟩⟩
  · rw [putK_keys]
    split
    · exact hnd
    · rename_i hnone
      rw [List.nodup_append]
      exact ⟨hnd, List.nodup_cons.mpr ⟨by simp, List.nodup_nil⟩, fun a ha b hb e => hnone (by rw [List.mem_singleton.mp hb] at e; exact valV_keys.mpr (e ▸ ha))⟩
  · rw [valV_put] at ev
    split at ev
    · rename_i ex
      cases ev
      exact ⟨S, d, mks, M, ex, hS, rfl, hM.ne, hdk _ _ hM.ne hM.at_, hM.keys, hh, hn⟩
    · exact (hx x v ev).mono hdk
  · rw [upd_ne a2]
    exact s.same b o a1 a2 e
  · obtain ⟨kvs', e, z⟩ := s.grow j hj
    exact ⟨kvs', by rw [upd_ne nkf]; exact e, z⟩
  · by_cases e : b = fd
    · rw [e, upd_same] at hb; cases hb
    · rw [upd_ne e] at hb; exact s.dom b hb
  · obtain ⟨fvs1, e1, h1⟩ := s.fnd gvs e
    rw [hf] at e1
    cases e1
    refine ⟨_, upd_same, fun x b ev => ?_⟩
    rw [valV_put] at ev
    split at ev
    · cases ev
      exact .inr h0
    · exact h1 x b ev

/-- a method: its def, its parameters, its place in the class -/
structure Mth (K : PySem.W.Frag) (C : Addr) (m qual : Str) (ps : List Str) (st : Stmt) (f : Addr) (fd : FuncData) : Prop where
  F : Fun K m qual st f fd
  b : Binds K fd ps []
  m : Meth K C m f
/-- a def of a module -/
structure Fnc (K : PySem.W.Frag) (mg : Str → Option Value) (x : Str) (ps : List Str) (st : Stmt) (f : Addr) (fd : FuncData) : Prop where
  F : Fun K x x st f fd
  b : Binds K fd ps []
  g : mg x = some (.ref f)

section
variable {P : Program} {w : World} {K : PySem.W.Frag} {mg : Str → Option Value} {base : Heap} {o1 C f fM : Addr} {fd fdM : FuncData} {U : List Kd} {Ms : List Str}
theorem ok_had {n lv : Nat} (c : Clo U) (cm : MkU U Ms) (F : Fun K "had" "Having.had" sHad f fd) (G : Glo K mg o1) (T : HCls K mg C)
    (GM : FnOk P w K mg base CX0 lv fM fdM ["self", "texts", "marks"] (spHadMore U C n)) (bM : Binds K fdM ["self", "texts", "marks"] []) (mM : Meth K C "had_more" fM) :
    FnOk P w K mg base CX0 (lv + 1) f fd ["self", "texts"] (spHad U C (n + 1)) := by
  refine F.ok scHad (fun vs H Q E h => ?_) (fun cdv A outer s H vs Q E hr h => ?_)
  · obtain ⟨p, kd, fd, t, S, rfl, _⟩ := h
    rfl
  obtain ⟨p, kd, fd, t, S, rfl, hv, hS, hmu, q⟩ := h
  have hu := hu_of hr
  refine ⟨_, pss_cons (ps_if (pt_cmp (pc_dnotin hu (pv 1) (pe_fld (pv 0) rfl)))
      (pss_cons (ps_set (i := 2) scHad.nd rfl (.inl rfl) pe_dnewK) (pss_cons (ps_set (i := 3) scHad.nd rfl (.inl rfl) pe_bl)
        (pss_cons (ps_while PassesOwn.never (pt_val (pv 3)) (pss_one (ps_set (i := 3) scHad.nd rfl (.inl rfl) (pe_meth (pv 0) T.cl mM GM hr bM .nil pass0 (pa_cons (pv 1) (pa_cons (pv 2) pa_nil))))))
        (pss_one (ps_dput hu (pe_fld (pv 0) rfl) (pv 1) (pv 2) rfl))))) pss_nil)
    (pss_one (ps_ret (pe_dget hu (pe_fld (pv 0) rfl) (pv 1) (fun _ _ => rfl)))), ?_⟩
  obtain ⟨⟨dx, ho⟩, hkk, ⟨fvs, hf, hfn, hfx⟩⟩ := id hv
  have htk : ∀ {H : Hp}, TxAt H t S → H t = some (.tup ((keysOf S).map kV)) := fun h => by rw [kVs]; exact h
  -- texts not in self.found
  refine ⟨.ref t, rfl, .ref p, rfl, p, C, dx, _, _, rfl, ho, T.cl, T.nF, hf_found kd fd, fd, _, rfl, DGet.t (k := keysOf S) hf (htk hS.tx), _, rfl, ?_⟩
  refine ite2 (fun e => ?_) (fun e => ?_)
  · intro d hd
    have s1 := same_new hd (.dK [])
    have hv1 := hv.mono s1
    have nkd : d ≠ kd := by
      obtain ⟨kvs, _, hk, _⟩ := hkk
      exact (ne_of_none hk hd).symm
    have nfd : d ≠ fd := (ne_of_none hf hd).symm
    refine while_by (fun σ H' => ∃ (b : Bool) (mks : List (Key × V)) (M : List Str), σ = [some (.ref p), some (.ref t), some (.ref d), some (.bl b)] ∧ HavAt U C H' p kd fd ∧ Kept kd fd H H' ∧ MksAt H' kd d mks M ∧ NotF H' fd d ∧ M.Nodup ∧ (∀ m ∈ M, Der S m) ∧ (b = false → IsHad S M))
      (fun σ H' => (match H' d with | some (.dK mks) => 2 * (10 - mks.length) | _ => 0) + (match σ[3]? with | some (some (.bl true)) => 1 | _ => 0))
      ⟨true, [], [], rfl, hv1, Kept.of s1, ⟨upd_same, nkd, rfl⟩, NotF.fresh hv hd, List.nodup_nil, fun m hm => (by cases hm), fun z => (by cases z)⟩ ?_ (fun σ H Q Q' h ⟨x, e, c, e', z⟩ => ⟨x, e, c, e', h _ _ z⟩)
    rintro σ H1 ⟨b, mks, M, rfl, hv2, kp, hM, nf, hn, hs, hb⟩
    refine ⟨.bl b, rfl, b, rfl, ?_⟩
    cases b with
    | true =>
      refine iteT ?_
      obtain ⟨⟨dx2, ho2⟩, _⟩ := id hv2
      have hS2 := hS.kept hv kp
      refine ⟨.ref p, rfl, p, dx2, _, rfl, ho2, hf_no kd fd (by decide +kernel) (by decide +kernel), .ref t, rfl, .ref d, rfl, p, kd, fd, t, d, S, mks, M, rfl, hv2, hS2, by omega, hM, nf, hn, hs, fun H2 mks2 r hv3 kp3 nf3 hM3 hn3 hs3 hr3 => ?_⟩
      have l9 := cm.len hS.ctx hn3 hs3
      have lm : mks.length = M.length := by
        have := congrArg List.length hM.keys
        rwa [List.length_map, List.length_map] at this
      have lm2 : mks2.length = M.length + r.length := by
        have := congrArg List.length hM3.keys
        rwa [List.length_map, List.length_map, List.length_append] at this
      rw [List.length_append] at l9
      refine ⟨⟨decide (0 < r.length), mks2, M ++ r, rfl, hv3, (kp.hideN hd nkd nfd).trans kp3, hM3, nf3, hn3, hs3, fun z => ?_⟩, ?_⟩
      · have : r = [] := List.length_eq_zero_iff.mp (by have := of_decide_eq_false z; omega)
        rw [this, List.append_nil]
        exact hr3 this
      · show (match H2 d with | some (.dK mks) => 2 * (10 - mks.length) | _ => 0) + (match (some (some (V.bl (decide (0 < r.length)))) : Option (Option V)) with | some (some (.bl true)) => 1 | _ => 0) < (match H1 d with | some (.dK mks) => 2 * (10 - mks.length) | _ => 0) + 1
        rw [hM3.at_, hM.at_]
        by_cases hr0 : 0 < r.length
        · rw [decide_eq_true hr0]
          show 2 * (10 - mks2.length) + 1 < 2 * (10 - mks.length) + 1
          omega
        · rw [decide_eq_false hr0]
          show 2 * (10 - mks2.length) + 0 < 2 * (10 - mks.length) + 1
          omega
    | false =>
      refine iteF ?_
      -- self.found[texts] = marks
      have hS2 := hS.kept hv kp
      obtain ⟨⟨dx2, ho2⟩, _, ⟨fvs2, hf2, hfn2, hfx2⟩⟩ := id hv2
      obtain ⟨hv3, kp3, hM3⟩ := hv2.putF kp hd hS.ctx hM (hb rfl) hn hf2
      have ln := fnd_len c hfn2 fun x v ev => by
        obtain ⟨S', _, _, _, h1, h2, _⟩ := hfx2 x v ev
        exact ⟨S', h1, h2⟩
      refine ⟨.ref d, rfl, .ref p, rfl, p, C, dx2, _, _, rfl, ho2, T.cl, T.nF, hf_found kd fd, .ref t, rfl, fd, _, rfl, DPut.t (k := keysOf S) hf2 (htk hS2.tx) ln, ?_⟩
      have ho3 := (hv3.ob)
      obtain ⟨dx3, ho3⟩ := ho3
      have hS3 := hS.kept hv kp3
      refine ⟨.ref p, rfl, p, C, dx3, _, _, rfl, ho3, T.cl, T.nF, hf_found kd fd, .ref t, rfl, fd, .ref d, rfl, ?_, q _ d mks M hv3 kp3 hM3 (hb rfl) hn⟩
      have := DGet.t (k := keysOf S) upd_same (htk hS3.tx)
      rwa [valV_put, if_pos rfl] at this
  · have : (valV fvs (keysOf S)).isSome = true := by
      cases z : (valV fvs (keysOf S)).isSome with
      | true => rfl
      | false => rw [z] at e; exact absurd rfl e
    obtain ⟨v, ev⟩ := Option.isSome_iff_exists.mp this
    obtain ⟨S', d', mks', M', h1, h2, rfl, h4, h5, h6, h7, h8⟩ := hfx _ _ ev
    have eS := keysOf_inj (hS.ctx.wf c) (h2.wf c) h1
    subst eS
    refine ⟨.ref p, rfl, p, C, dx, _, _, rfl, ho, T.cl, T.nF, hf_found kd fd, .ref t, rfl, fd, .ref d', rfl, ?_, q H d' mks' M' hv (Kept.refl _ _ _) ⟨h5, h4, h6⟩ h7 h8⟩
    rw [← ev]
    exact DGet.t (k := keysOf S) hf (htk hS.tx)
end
section
variable {P : Program} {w : World} {K : PySem.W.Frag} {mg : Str → Option Value} {base : Heap} {o1 C fM fE fW fH fL fF fN : Addr} {fdM fdE fdW fdH fdL fdF fdN : FuncData} {U : List Kd} {Ms : List Str}
/-- the four together -/
theorem all_had (c : Clo U) (cm : MkU U Ms) (G : Glo K mg o1) (T : HCls K mg C)
    (GM : FnOk P w K mg base CX0 9 fM fdM ["self", "texts", "some"] (spMore U C)) (bM : Binds K fdM ["self", "texts", "some"] []) (mM : Meth K C "with_more" fM)
    (GE : FnOk P w K mg base CX0 8 fE fdE ["kind"] (spEnds 8)) (bE : Binds K fdE ["kind"] []) (kE : PySem.W.keepIn K (.ref fE) = true) (gE : mg "ends_of" = some (.ref fE))
    (GW : FnOk P w K mg base CX0 9 fW fdW ["kind"] (spWays 9)) (bW : Binds K fdW ["kind"] []) (kW : PySem.W.keepIn K (.ref fW) = true) (gW : mg "ways_of" = some (.ref fW))
    (H : Mth K C "had" "Having.had" ["self", "texts"] sHad fH fdH) (L : Mth K C "lack_of" "Having.lack_of" ["self", "texts", "marks", "kind"] sLack fL fdL)
    (F : Mth K C "first_not_had" "Having.first_not_had" ["self", "texts", "marks", "moves"] sFirst fF fdF) (N : Mth K C "had_more" "Having.had_more" ["self", "texts", "marks"] sHadMore fN fdN) :
    ∀ n, FnOk P w K mg base CX0 (4 * n + 10) fH fdH ["self", "texts"] (spHad U C n)
  | 0 => H.F.ok scHad (fun vs H Q E h => by
      obtain ⟨p, kd, fd, t, S, rfl, _⟩ := h
      rfl) (fun cdv A outer s H vs Q E hr h => by
      obtain ⟨p, kd, fd, t, S, rfl, hv, hS, hmu, q⟩ := h
      exact absurd hmu (Nat.not_lt_zero _))
  | n + 1 => by
    have ih := all_had c cm G T GM bM mM GE bE kE gE GW bW kW gW H L F N n
    have a1 := ok_lack c (by omega) L.F G T GM bM mM GE bE kE gE ih H.b H.m
    have a2 := ok_first c F.F G T a1 L.b L.m
    have a3 := ok_hadMore c cm (by omega) N.F G T GW bW kW gW a2 F.b F.m
    have a4 := ok_had c cm H.F G T a3 N.b N.m
    exact a4
end
end KF
/-! tree. -/
namespace KF
open PySem PySem.Spec PyProof.Rows L2

theorem HavAt.agree {U : List Kd} {C : Addr} {H H' : Hp} {p kd fd A : Addr} {avs : List (List Key × V)} (hv : HavAt U C H p kd fd) (e : H A = some (.dT avs)) (nf : A ≠ fd) (h : ∀ b, b ≠ A → H' b = H b) : HavAt U C H' p kd fd := by
  obtain ⟨⟨dx, ho⟩, ⟨kvs, T, hk, ok⟩, ⟨fvs, hf, hn, hx⟩⟩ := hv
  refine ⟨⟨dx, by rw [h _ (ne_of ho e (by intro z; cases z))]; exact ho⟩, ⟨kvs, T, by rw [h _ (ne_of hk e (by intro z; cases z))]; exact hk, ok.mono fun b xs e2 => by rw [h _ (ne_of e2 e (by intro z; cases z))]; exact e2⟩, ⟨fvs, by rw [h _ nf.symm]; exact hf, hn, fun y v ev => (hx y v ev).mono fun b mks _ e2 => by rw [h _ (ne_of e2 e (by intro z; cases z))]; exact e2⟩⟩
theorem Kept.updN {kd fd b : Addr} {H H' : Hp} {o : HO} (k : Kept kd fd H H') (hb : H b = none) (h1 : b ≠ kd) (h2 : b ≠ fd) : Kept kd fd H (L2.upd H' b o) :=
  ⟨fun c u a1 a2 e2 => by rw [upd_ne (ne_of_none e2 hb)]; exact k.same c u a1 a2 e2, fun j hj => by
    obtain ⟨kvs, e3, x⟩ := k.grow j hj
    exact ⟨kvs, by rw [upd_ne h1.symm]; exact e3, x⟩, fun c hc => by
    by_cases ec : c = b
    · rw [ec]; exact hb
    · rw [upd_ne ec] at hc; exact k.dom c hc, fun fvs ef => by
    obtain ⟨fvs', e4, x⟩ := k.fnd fvs ef
    exact ⟨fvs', by rw [upd_ne h2.symm]; exact e4, x⟩⟩
theorem Kn.updN {kd b : Addr} {H : Hp} {o : HO} {k : Kd} (h1 : b ≠ kd) (x : Kn H kd k) : Kn (L2.upd H b o) kd k := by
  obtain ⟨kvs, e3, x⟩ := x
  exact ⟨kvs, by rw [upd_ne h1.symm]; exact e3, x⟩
/-- what stands above -/
structure AbvAt (U : List Kd) (H : Hp) (kd A : Addr) (S : List Kd) (avs : List (List Key × V)) (n : Nat) : Prop where
  at_ : H A = some (.dT avs)
  len : avs.length ≤ n
  keys : ∃ Ss : List (List Kd), avs.map (·.1) = Ss.map keysOf ∧ ∀ S' ∈ Ss, CtxU U S' ∧ (∀ k ∈ S, k ∈ S') ∧ S' ≠ [] ∧ ∀ k ∈ S', Kn H kd k
theorem AbvAt.kept {U : List Kd} {H H' : Hp} {kd fd A : Addr} {S : List Kd} {avs : List (List Key × V)} {n : Nat} (x : AbvAt U H kd A S avs n) (s : Kept kd fd H H') (h1 : A ≠ kd) (h2 : A ≠ fd) : AbvAt U H' kd A S avs n := by
  obtain ⟨a, b, Ss, e, h⟩ := x
  exact ⟨s.same _ _ h1 h2 a, b, Ss, e, fun S' hS' => let ⟨z1, z2, z3, z4⟩ := h S' hS'; ⟨z1, z2, z3, fun k hk => s.grow k (z4 k hk)⟩⟩
theorem AbvAt.put {U : List Kd} {H : Hp} {kd A : Addr} {S S' : List Kd} {avs : List (List Key × V)} {n : Nat} (x : AbvAt U H kd A S avs n) (h1 : A ≠ kd) (v : V) (c1 : CtxU U S') (c2 : ∀ k ∈ S, k ∈ S') (c3 : S' ≠ []) (c4 : ∀ k ∈ S', Kn H kd k) : AbvAt U (L2.upd H A (.dT (putK avs (keysOf S') v))) kd A S (putK avs (keysOf S') v) (n + 1) := by
  obtain ⟨a, b, Ss, e, h⟩ := x
  have hl : (putK avs (keysOf S') v).length = ((putK avs (keysOf S') v).map (·.1)).length := by rw [List.length_map]
  by_cases z : (valV avs (keysOf S')).isSome = true
  · refine ⟨upd_same, ?_, Ss, ?_, fun T hT => let ⟨z1, z2, z3, z4⟩ := h T hT; ⟨z1, z2, z3, fun k hk => (z4 k hk).updN h1⟩⟩
    · rw [hl, putK_keys, if_pos z, List.length_map]; omega
    · rw [putK_keys, if_pos z]; exact e
  · refine ⟨upd_same, ?_, Ss ++ [S'], ?_, fun T hT => ?_⟩
    · rw [hl, putK_keys, if_neg z, List.length_append, List.length_map, List.length_singleton]; omega
    · rw [putK_keys, if_neg z, e, List.map_append]; rfl
    · rcases List.mem_append.mp hT with w | w
      · exact let ⟨z1, z2, z3, z4⟩ := h T w; ⟨z1, z2, z3, fun k hk => (z4 k hk).updN h1⟩
      · rw [List.mem_singleton.mp w]; exact ⟨c1, c2, c3, fun k hk => (c4 k hk).updN h1⟩

def spTree (U : List Kd) (C : Addr) (n : Nat) : Sp := fun vs H Q _ => ∃ (p kd fd t : Addr) (S : List Kd), vs = [.ref p, .ref t] ∧ HavAt U C H p kd fd ∧ ResAt U kd H S t S ∧ mu U S < n ∧
  ∀ (H' : Hp) (a : Addr), HavAt U C H' p kd fd → Kept kd fd H H' → Q (.ref a) H'
section
variable {P : Program} {w : World} {K : PySem.W.Frag} {mg : Str → Option Value} {base : Heap} {o1 C f fW fF fH : Addr} {fd fdW fdF fdH : FuncData} {U : List Kd} {Ms : List Str}
theorem ok_tree {n lv : Nat} (c : Clo U) (cm : MkU U Ms) (h9 : 90 ≤ lv) (F : Mth K C "tree" "Having.tree" ["self", "texts"] sTree f fd) (G : Glo K mg o1) (T : HCls K mg C)
    (GW : FnOk P w K mg base CX0 9 fW fdW ["kind"] (spWays 9)) (bW : Binds K fdW ["kind"] []) (kW : PySem.W.keepIn K (.ref fW) = true) (gW : mg "ways_of" = some (.ref fW))
    (GF : FnOk P w K mg base CX0 88 fF fdF ["self", "texts", "marks", "moves"] (spFirst U C 18)) (bF : Binds K fdF ["self", "texts", "marks", "moves"] []) (mF : Meth K C "first_not_had" fF)
    (GH : FnOk P w K mg base CX0 86 fH fdH ["self", "texts"] (spHad U C 19)) (bH : Binds K fdH ["self", "texts"] []) (mH : Meth K C "had" fH)
    (GT : FnOk P w K mg base CX0 lv f fd ["self", "texts"] (spTree U C n)) :
    FnOk P w K mg base CX0 (lv + 1) f fd ["self", "texts"] (spTree U C (n + 1)) := by
  refine F.F.ok scTree (fun vs H Q E h => ?_) (fun cdv A0 outer s H vs Q E hr h => ?_)
  · obtain ⟨p, kd, fd, t, S, rfl, _⟩ := h
    rfl
  obtain ⟨p, kd, fd, t, S, rfl, hv, hS, hmu, q⟩ := h
  have hu := hu_of hr
  have hu64 := hr.units
  refine ⟨_, pss_cons (ps_set (i := 2) scTree.nd rfl (.inl rfl) (pe_meth (pv 0) T.cl mH GH (hr.mono (by omega)) bH .nil pass0 (pa_cons (pv 1) pa_nil)))
    (pss_cons (ps_set (i := 3) scTree.nd rfl (.inl rfl) pe_dnewT)
    (pss_cons (ps_for PassesOwn.never rfl (pi_tup (pv 1)) (pg_name (i := 4) scTree.nd rfl (.inl rfl))
      (pss_one (ps_for PassesOwn.never rfl (pi_list (pe_call GW (hr.mono (by omega)) rfl gW kW bW .nil pass0 (pa_cons (pe_dget hu (pe_fld (pv 0) rfl) (pv 4) (fun _ _ => rfl)) pa_nil))) (pg_tup rfl (pgs_cons (pg_name (i := 5) scTree.nd rfl (.inl rfl)) (pgs_cons (pg_name (i := 6) scTree.nd rfl (.inl rfl)) pgs_nil)))
        (pss_one (ps_if (pt_cmp (pc_dnotin hu (pv 6) (pv 2)))
          (pss_one (ps_dput hu (pv 3) (pe_meth (pv 0) T.cl mF GF (hr.mono (by omega)) bF .nil pass0 (pa_cons (pv 1) (pa_cons (pv 2) (pa_cons (pv 5) pa_nil)))) pe_bl rfl)) pss_nil)))))
    (pss_one (ps_ret (pe_tup (pa_cons (pe_callB (call_sortedD rfl) rfl G.sorted bo_sorted (pa_cons (pv 2) pa_nil))
      (pa_cons (pe_lc (own := [("there", 7)]) (g := gName 7) (tt := tTest (tOp (rNeD K) (tVar 7) (tVar 1))) (te := tMeth C "tree" (spTree U C n) [] E0 (tVar 0) (tCons (tVar 7) tNil)) rfl scTree.nd (pi_list (pe_callB (cr_sortedDT rfl hu64) rfl G.sorted bo_sorted (pa_cons (pv 3) pa_nil)))
        (blkOk_by (N := nTree) (sc := defScope sTree) (by decide +kernel)) (fun _ _ _ _ _ => pg_name (i := 7) scTree.nd rfl (.inl rfl))
        (fun _ _ _ _ _ => pts_one (pt_cmpR (op_neD hr.units) (pv 7) (pv 1) (nomark _)))
        (fun _ _ _ _ _ => pe_meth (pv 0) T.cl F.m GT hr F.b .nil pass0 (pa_cons (pv 7) pa_nil))) pa_nil))))))), ?_⟩
  obtain ⟨⟨dx, ho⟩, _⟩ := id hv
  have hmu18 : mu U S ≤ 18 := Nat.le_trans (mu_bd U S) c.sz
  -- marks = self.had(texts)
  refine ⟨.ref p, rfl, p, dx, _, rfl, ho, hf_no kd fd (by decide +kernel) (by decide +kernel), .ref t, rfl, p, kd, fd, t, S, rfl, hv, hS, by omega, fun H1 d mks M hv1 kp1 hM hhad hnd => ?_⟩
  -- above = {}
  intro A hA
  have nAk : A ≠ kd := by
    obtain ⟨_, ⟨kvs, _, hk, _⟩, _⟩ := id hv1
    exact (ne_of_none hk hA).symm
  have nAf : A ≠ fd := by
    obtain ⟨_, _, ⟨fvs, hf, _⟩⟩ := id hv1
    exact (ne_of_none hf hA).symm
  have hS1 := hS.kept hv kp1
  have s1 := same_new hA (.dT [])
  have lv8 : ∀ k ∈ S, (pways k).length ≤ 8 := fun k hk => pways_small (hS.ctx.good c k hk)
  have lS := hS.ctx.len c
  -- for text in texts
  have ht2 : upd H1 A (.dT []) t = some (.tup ((txts S).map V.str)) := s1 _ _ hS1.tx
  refine ⟨.ref t, rfl, t, rfl, ⟨_, SqT.of ht2⟩, for_tup (K := K) (a := t) (xs := (txts S).map V.str) (fun i σ H' => ∃ x4 x5 x6 x7, σ = [some (.ref p), some (.ref t), some (.ref d), some (.ref A), x4, x5, x6, x7] ∧ HavAt U C H' p kd fd ∧ Kept kd fd H1 H' ∧ ∃ avs, AbvAt U H' kd A S avs (8 * i))
    ⟨none, none, none, none, rfl, hv1.mono s1, Kept.of s1, [], ⟨upd_same, Nat.zero_le _, [], rfl, fun _ z => (by cases z)⟩⟩ (fun i σ H' _ ⟨_, _, _, _, _, _, kp, _⟩ => SqT.of (hv1.tup kp hS1.tx)) ?_ ?_⟩
  · rintro i x σ H2 hi ⟨x4, x5, x6, x7, rfl, hv2, kp2, avs2, ab2⟩
    obtain ⟨k, hk, rfl⟩ : ∃ k, S[i]? = some k ∧ x = .str (txt k) := by
      rw [List.getElem?_map, List.getElem?_map] at hi
      cases e : S[i]? with
      | none => rw [e] at hi; cases hi
      | some k => rw [e] at hi; exact ⟨k, rfl, (Option.some.inj hi).symm⟩
    have hkS := List.mem_of_getElem? hk
    have hwk := hS.ctx.wf c k hkS
    obtain ⟨kvs, a, hkd, hget, hka, hkU⟩ := hv2.get c hwk (kp2.grow k (hS1.kn k hkS))
    obtain ⟨⟨dx2, ho2⟩, _⟩ := id hv2
    refine ⟨.ref p, rfl, p, C, dx2, _, _, rfl, ho2, T.cl, T.nK, hf_kinds kd fd, .str (txt k), rfl, kd, .ref a, rfl, by rw [← hget]; exact DGet.k (k := Sum.inr (txt k)) hkd, k, a, rfl, hka, Nat.le_trans (c.lv k hkU) (by decide), ⟨hwk, c.lv k hkU⟩, fun H3 l s3 ⟨ps, fl, a3, b3⟩ => ?_⟩
    have hv3 := hv2.mono s3
    have kp3 := kp2.trans (Kept.of s3)
    have ab3 := ab2.kept (Kept.of s3 (fd := fd)) nAk nAf
    have hvh : HavAt U C (hide A H3) p kd fd := hv3.agree ab3.at_ nAf fun b hb => hide_ne hb
    have tn : ∀ {b : Addr} {xs : List V}, H3 b = some (.tup xs) → hide A H3 b = some (.tup xs) := fun e => by
      rw [hide_ne (ne_of e ab3.at_ (by intro z; cases z))]; exact e
    have ln : ∀ {b : Addr} {xs : List V}, H3 b = some (.lst xs) → hide A H3 b = some (.lst xs) := fun e => by
      rw [hide_ne (ne_of e ab3.at_ (by intro z; cases z))]; exact e
    have hl3 := ln a3
    refine ⟨l, rfl, ⟨_, SqL.of a3⟩, for_list (K := K) (a := l) (xs := ps.map V.ref) (fun j σ H' => ∃ x5 x6 x7, σ = [some (.ref p), some (.ref t), some (.ref d), some (.ref A), some (.str (txt k)), x5, x6, x7] ∧ HavAt U C H' p kd fd ∧ Kept kd fd (hide A H3) H' ∧ ∃ avs, AbvAt U H' kd A S avs (8 * i + j))
      ⟨_, _, _, rfl, hv3, Kept.of (hide_same A H3), avs2, ab3⟩ (fun j σ H' _ ⟨_, _, _, _, _, kp, _⟩ => SqL.of (hvh.lst kp hl3)) ?_ ?_⟩
    · rintro j v σ H4 hj ⟨y5, y6, y7, rfl, hv4, kp4, avs4, ab4⟩
      obtain ⟨pi, hpi, rfl⟩ := map_refs_at hj
      obtain ⟨e, he, tl, us, g0, g1, g2, g3⟩ := paired_at b3 hpi
      have hek := List.mem_of_getElem? he
      have q1 := hvh.tup kp4 (tn g1)
      have q2 := hvh.lst kp4 (ln g2)
      have q3 : Paired (MvAt H4) us e.1 := Paired.mapP g3 fun u m z => by
        cases m with
        | inl _ => exact z
        | inr j' =>
          obtain ⟨b, rfl, hb⟩ := (show KvAt H3 u j' from z)
          exact ⟨b, rfl, hvh.kAt kp4 (hb.mono fun c' xs e' => tn e')⟩
      have heE : (mvK e.1, e.2) ∈ ends k := by
        rw [← pways_ends k]
        exact List.mem_map.mpr ⟨e, hek, rfl⟩
      have heI : ∀ j ∈ mvK e.1, In U j := fun j' hj' => c.inn (c.cl k hkU _ heE j' hj')
      have kpB := (kp3.hideN hA nAk nAf).trans kp4
      have hM4 := hM.kept hv1 kpB
      have hS4 := hS1.kept hv1 kpB
      refine ⟨pi, _, rfl, SqT.of q1, rfl, _, _, rfl, _, _, rfl, rfl, ?_⟩
      refine ⟨.str e.2, rfl, .ref d, rfl, d, _, rfl, DGet.k (k := Sum.inr e.2) hM4.at_, _, rfl, ?_⟩
      rw [hM4.has]
      by_cases cM : e.2 ∈ M
      · rw [decide_eq_true cM]
        refine iteF ?_
        obtain ⟨z1, z2, z3⟩ := ab4
        exact ⟨_, _, _, rfl, hv4, kp4, avs4, ⟨z1, by omega, z3⟩⟩
      rw [decide_eq_false cM]
      refine iteT ?_
      obtain ⟨⟨dx4, ho4⟩, _⟩ := id hv4
      have hl9 : us.length ≤ 9 := by
        have l1 := paired_len q3
        have l2 := pmoves_len hek
        have l3 := c.lv k hkU
        omega
      refine ⟨.ref A, rfl, .ref p, rfl, p, dx4, _, rfl, ho4, hf_no kd fd (by decide +kernel) (by decide +kernel), .ref t, rfl, .ref d, rfl, .ref tl, rfl, p, kd, fd, t, d, tl, S, mks, M, us, e.1, rfl, hv4, hS4, hmu18, hM4, q2, q3, heI, hl9, fun H5 v5 hv5 kp5 res => ?_⟩
      rcases res with ⟨ok, rfl⟩ | ⟨nok, t', S', rfl, hr'⟩
      · exact absurd ((hhad _).2 (Der.step (e := (mvK e.1, e.2)) hkS heE fun j' hj' => (ok j' hj').has fun m hm => (hhad m).1 hm)) cM
      have ab5 := ab4.kept kp5 nAk nAf
      have hlk := lv8 k hkS
      have hjk : j < (pways k).length := (List.getElem?_eq_some_iff.mp he).1
      have hik : i < S.length := (List.getElem?_eq_some_iff.mp hk).1
      refine ⟨A, _, rfl, DPut.t (k := keysOf S') ab5.at_ (by rw [kVs]; exact hr'.tx) (by have := ab5.len; exact small1000 (by omega)), ?_⟩
      refine ⟨_, _, _, rfl, hv5.agree ab5.at_ nAf fun b hb => upd_ne hb, (kp4.trans kp5).updD nAk nAf, _, ab5.put nAk _ hr'.ctx hr'.sub (fun z => ?_) hr'.kn⟩
      have := hr'.sub k hkS
      rw [z] at this
      cases this
    · rintro σ H4 ⟨y5, y6, y7, rfl, hv4, kp4, avs4, ab4⟩
      have el : (ps.map V.ref).length = (pways k).length := by rw [List.length_map]; exact paired_len b3
      have hlk := lv8 k hkS
      obtain ⟨z1, z2, z3⟩ := ab4
      rw [el] at z2
      exact ⟨_, _, _, _, rfl, hv4, (kp3.hideN hA nAk nAf).trans kp4, avs4, ⟨z1, by omega, z3⟩⟩
  · rintro σ H2 ⟨x4, x5, x6, x7, rfl, hv2, kp2, avs2, ab2⟩
    have hM2 := hM.kept hv1 kp2
    -- sorted(marks)
    refine ⟨.ref d, rfl, d, mks, M, rfl, .of hM2.at_, hM2.keys, Nat.lt_of_le_of_lt (cm.len hS.ctx hnd fun m hm => (hhad m).1 hm) (by decide), fun ys s2 _ _ hn => ?_⟩
    have u1 := same_new hn (.lst (ys.map V.str))
    have hv3 := hv2.mono u1
    have ab3 := ab2.kept (Kept.of u1 (fd := fd)) nAk nAf
    have kp3 := kp2.trans (Kept.of u1)
    obtain ⟨z1, z2, Ss, z3, z4⟩ := ab3
    -- sorted(above)
    refine ⟨.ref A, rfl, A, avs2, Ss.map txts, rfl, z1, by rw [z3, List.map_map]; exact List.map_congr_left fun S' _ => keys_txts S', fun t' ht' => ?_, fun L s3 pm hL hn3 => ?_⟩
    · obtain ⟨S', hS', rfl⟩ := List.mem_map.mp ht'
      intro z
      exact (z4 S' hS').2.2.1 (List.map_eq_nil_iff.mp z)
    have u2 := same_new hn3 (.lst (L.map fun q => V.ref q.1))
    have hv4 := hv3.mono u2
    have kp4 := kp3.trans (Kept.of u2)
    have hLS : ∀ q ∈ L, ∃ S', q.2 = txts S' ∧ CtxU U S' ∧ (∀ k ∈ S, k ∈ S') ∧ ∀ k ∈ S', Kn (upd (upd H2 s2 (.lst (ys.map V.str))) s3 (.lst (L.map fun q => V.ref q.1))) kd k := fun x hx => by
      have : x.2 ∈ Ss.map txts := pm.mem_iff.mp (List.mem_map.mpr ⟨x, hx, rfl⟩)
      obtain ⟨S', hS', e⟩ := List.mem_map.mp this
      obtain ⟨y1, y2, _, y4⟩ := z4 S' hS'
      exact ⟨S', e.symm, y1, y2, fun k hk => (y4 k hk).same u2⟩
    have llen : L.length ≤ 8 * 18 := by
      have e1 := pm.length_eq
      rw [List.length_map, List.length_map] at e1
      have e2 := congrArg List.length z3
      rw [List.length_map, List.length_map] at e2
      rw [List.length_map, List.length_map] at z2
      omega
    generalize hH4 : upd (upd H2 s2 (.lst (ys.map V.str))) s3 (.lst (L.map fun q => V.ref q.1)) = H4 at hv4 kp4 hLS ⊢
    have hLt : ∀ q ∈ L, H4 q.1 = some (.tup (q.2.map V.str)) := fun x hx => by rw [← hH4]; exact u2 _ _ (hL x hx)
    have hs3 : H4 s3 = some (.lst (L.map fun q => V.ref q.1)) := by rw [← hH4]; exact upd_same
    have hS4 := hS1.kept hv1 kp4
    refine ⟨s3, rfl, ⟨_, SqL.of hs3⟩, fun D hD => ?_⟩
    have u3 := same_new hD (.lst [])
    refine lc_list (K := K) (a := s3) (xs := L.map fun q => V.ref q.1) (fun i H' => HavAt U C H' p kd fd ∧ Kept kd fd H4 H' ∧ ∃ acc, H' D = some (.lst acc) ∧ acc.length ≤ i)
      ⟨hv4.mono u3, Kept.of u3, [], upd_same, Nat.le_refl _⟩ (fun i H' _ h => SqL.of (hv4.lst h.2.1 hs3)) (fun i v H5 hv' h => ?_) fun H5 h => ?_
    · obtain ⟨hv5, kp5, acc, hd, ha⟩ := h
      obtain ⟨x, hx, rfl⟩ : ∃ x, L[i]? = some x ∧ v = .ref x.1 := by
        rw [List.getElem?_map] at hv'
        cases e : L[i]? with
        | none => rw [e] at hv'; cases hv'
        | some k => rw [e] at hv'; exact ⟨k, rfl, (Option.some.inj hv').symm⟩
      have hxL := List.mem_of_getElem? hx
      have hil : i < L.length := (List.getElem?_eq_some_iff.mp hx).1
      obtain ⟨S', e1, c1, c2, c4⟩ := hLS x hxL
      have tx5 : TxAt H5 x.1 S' := by
        have := hv4.tup kp5 (hLt x hxL)
        rw [e1] at this
        exact this
      have hS5 := hS4.kept hv4 kp5
      refine ⟨rfl, .ref x.1, rfl, .ref t, rfl, _, _, dp_txts tx5, dp_txts hS5.tx, tD_shaped (c1.okT c), tD_shaped (hS.ctx.okT c), _, rfl, ?_⟩
      rw [tD_eqv]
      by_cases cS : S' = S
      · have e1 : decide (txts S' = txts S) = true := decide_eq_true (by rw [cS])
        rw [e1]
        refine iteF ⟨hv5, kp5, acc, hd, by omega⟩
      · have e1 : decide (txts S' = txts S) = false := decide_eq_false fun z => cS (txts_inj (c1.wf c) (hS.ctx.wf c) z)
        rw [e1]
        refine iteT ?_
        obtain ⟨⟨dx5, ho5⟩, _⟩ := id hv5
        have lt5 := hS.ctx.mu_lt c1 c2 cS
        refine ⟨.ref p, rfl, p, dx5, _, rfl, ho5, hf_no kd fd (by decide +kernel) (by decide +kernel), .ref x.1, rfl, p, kd, fd, x.1, S', rfl, hv5, ⟨tx5, c1, fun _ z => z, fun k hk => kp5.grow k (c4 k hk)⟩, by omega, fun H6 a6 hv6 kp6 => ?_⟩
        have hd6 := hv5.lst kp6 hd
        exact ⟨acc, hd6, small1000 (by omega), hv6.updL hd6, (kp5.trans kp6).updL hD hd6, _, upd_same, by rw [List.length_append, List.length_singleton]; omega⟩
    · obtain ⟨hv5, kp5, acc, hd, ha⟩ := h
      refine ⟨ln2, fun T hT => ?_⟩
      have u6 := same_new hT (.tup [.ref s2, .ref D])
      exact q _ T (hv5.mono u6) ((kp1.trans (kp4.trans kp5)).trans (Kept.of u6))
end
end KF
/-! A new Having, tree by turns, barring. -/
namespace KF
open PySem PySem.Spec PyProof.Rows L2

/-- all marks of a kind are of Ms -/
def Over (Ms : List Str) : Kd → Prop
  | .one => True
  | .mk m => m ∈ Ms
  | .to a b => Over Ms a ∧ Over Ms b
  | .both a b => Over Ms a ∧ Over Ms b
theorem Over.ends {Ms : List Str} : ∀ {k : Kd}, Over Ms k → ∀ e ∈ KF.ends k, e.2 ∈ Ms
  | .one, _, e, h => (by cases h)
  | .mk m, o, e, h => by rw [List.mem_singleton.mp h]; exact o
  | .to a b, o, e, h => by
    obtain ⟨e', h', rfl⟩ := List.mem_map.mp h
    exact Over.ends o.2 e' h'
  | .both a b, o, e, h => by
    rcases List.mem_append.mp h with h | h
    · exact Over.ends o.1 e h
    · exact Over.ends o.2 e h
theorem Over.subs {Ms : List Str} : ∀ {k j : Kd}, Over Ms k → j ∈ KF.subs k → Over Ms j
  | .one, j, o, h => by rw [List.mem_singleton.mp h]; exact o
  | .mk m, j, o, h => by rw [List.mem_singleton.mp h]; exact o
  | .to a b, j, o, h => by
    rcases List.mem_cons.mp h with e | h
    · rw [e]; exact o
    · exact (List.mem_append.mp h).elim (fun z => Over.subs o.1 z) fun z => Over.subs o.2 z
  | .both a b, j, o, h => by
    rcases List.mem_cons.mp h with e | h
    · rw [e]; exact o
    · exact (List.mem_append.mp h).elim (fun z => Over.subs o.1 z) fun z => Over.subs o.2 z
theorem mkU_of {Ms : List Str} {ks : List Kd} (h : Ms.length ≤ 9) (ho : ∀ k ∈ ks, Over Ms k) : MkU (ks.flatMap subs) Ms := ⟨h, fun k hk e he => by
  obtain ⟨j, hj, hkj⟩ := List.mem_flatMap.mp hk
  exact Over.ends (Over.subs (ho j hj) hkj) e he⟩

def spInit (C : Addr) : Sp := fun vs H Q _ => ∃ x dx, vs = [.ref x] ∧ H x = some (.ins C dx []) ∧
  ∀ (kd fd : Addr) (H' : Hp), Same (hide x H) (hide x H') → H' x = some (.ins C dx (hf kd fd)) → H' kd = some (.dK []) → H' fd = some (.dT []) → H kd = none → H fd = none → Q .non H'
/-- one of a row -/
def RwAt (H : Hp) (pi : Addr) (k : Kd) : Prop := ∃ (nm : V) (a : Addr), H pi = some (.tup [nm, .ref a]) ∧ KAt H k a
theorem RwAt.same {H H' : Hp} (s : Same H H') {pi : Addr} {k : Kd} (h : RwAt H pi k) : RwAt H' pi k := let ⟨nm, a, e, z⟩ := h; ⟨nm, a, s _ _ e, z.same s⟩
def spBarring : Sp := fun vs H Q _ => ∃ (r a : Addr) (ps : List Addr) (ks : List Kd) (k : Kd) (Ms : List Str), vs = [.ref r, .ref a] ∧ H r = some (.lst (ps.map V.ref)) ∧ Paired (RwAt H) ps ks ∧ KAt H k a ∧ (∀ j ∈ k :: ks, Wf j) ∧ (∀ j ∈ k :: ks, leaves j ≤ 8) ∧ ((k :: ks).map leaves).sum ≤ 9 ∧ Ms.length ≤ 9 ∧ (∀ j ∈ k :: ks, Over Ms j) ∧
  ∀ (H' : Hp) (v : V), Same H H' → ((v = .non ∧ Has ks k) ∨ ((∃ a', v = .ref a') ∧ ¬ Has ks k)) → Q v H'

section
variable {P : Program} {w : World} {K : PySem.W.Frag} {mg : Str → Option Value} {base : Heap} {o1 C f fW fF fH fI fM fL fT : Addr} {fd fdW fdF fdH fdI fdM fdL fdT : FuncData} {U : List Kd} {Ms : List Str}
theorem ok_init (F : Fun K "__init__" "Having.__init__" sInit f fd) (T : HCls K mg C) : FnOk P w K mg base CX0 1 f fd ["self"] (spInit C) := by
  refine F.ok scInit (fun vs H Q E h => ?_) (fun cdv A0 outer s H vs Q E hr h => ?_)
  · obtain ⟨x, dx, rfl, _⟩ := h
    rfl
  obtain ⟨x, dx, rfl, hx, q⟩ := h
  refine ⟨_, pss_cons (ps_fld (pv 0) pe_dnewK rfl) (pss_one (ps_fld (pv 0) pe_dnewT rfl)), ?_⟩
  intro kd hkd
  have s1 := same_new hkd (.dK [])
  refine ⟨.ref x, rfl, x, C, dx, [], rfl, s1 _ _ hx, T.cl, T.nK, by decide, ?_⟩
  intro fd' hfd
  have nxk : kd ≠ x := (ne_of_none hx hkd).symm
  have x2 : (upd (upd H kd (.dK [])) x (.ins C dx (putF "kinds" (.ref kd) []))) x = some (.ins C dx (putF "kinds" (.ref kd) [])) := upd_same
  have nxf : fd' ≠ x := (ne_of_none x2 hfd).symm
  have hfd1 : (upd H kd (.dK [])) fd' = none := by rw [← hfd, upd_ne nxf]
  have hfd0 : H fd' = none := s1.free hfd1
  have nkf : kd ≠ fd' := ne_of_none (H := upd H kd (.dK [])) upd_same hfd1
  have s2 := same_new hfd (.dT [])
  refine ⟨.ref x, rfl, x, C, dx, _, rfl, s2 _ _ x2, T.cl, T.nF, (show (1 : Nat) < 1000 by decide), ?_⟩
  refine q kd fd' _ (fun b o e => ?_) upd_same (by rw [upd_ne nxk, upd_ne nkf, upd_ne nxk]; exact upd_same) (by rw [upd_ne nxf]; exact upd_same) hkd hfd0
  obtain ⟨nb, e⟩ := hide_some e
  rw [hide_ne nb, upd_ne nb, upd_ne (ne_of_none e hfd0), upd_ne nb, upd_ne (ne_of_none e hkd)]
  exact e
theorem all_tree (c : Clo U) (cm : MkU U Ms) (F : Mth K C "tree" "Having.tree" ["self", "texts"] sTree f fd) (G : Glo K mg o1) (T : HCls K mg C)
    (GW : FnOk P w K mg base CX0 9 fW fdW ["kind"] (spWays 9)) (bW : Binds K fdW ["kind"] []) (kW : PySem.W.keepIn K (.ref fW) = true) (gW : mg "ways_of" = some (.ref fW))
    (GF : FnOk P w K mg base CX0 88 fF fdF ["self", "texts", "marks", "moves"] (spFirst U C 18)) (bF : Binds K fdF ["self", "texts", "marks", "moves"] []) (mF : Meth K C "first_not_had" fF)
    (GH : FnOk P w K mg base CX0 86 fH fdH ["self", "texts"] (spHad U C 19)) (bH : Binds K fdH ["self", "texts"] []) (mH : Meth K C "had" fH) :
    ∀ n, FnOk P w K mg base CX0 (90 + n) f fd ["self", "texts"] (spTree U C n)
  | 0 => F.F.ok scTree (fun vs H Q E h => by
      obtain ⟨p, kd, fd, t, S, rfl, _⟩ := h
      rfl) (fun cdv A outer s H vs Q E hr h => by
      obtain ⟨p, kd, fd, t, S, rfl, hv, hS, hmu, q⟩ := h
      exact absurd hmu (Nat.not_lt_zero _))
  | n + 1 => ok_tree c cm (Nat.le_add_right 90 n) F G T GW bW kW gW GF bF mF GH bH mH (all_tree c cm F G T GW bW kW gW GF bF mF GH bH mH n)
theorem ok_barring (F : Fun K "barring" "barring" sBarring f fd) (T : HCls K mg C) (MK : Mk K C fI)
    (GI : FnOk P w K mg base CX0 1 fI fdI ["self"] (spInit C)) (bI : Binds K fdI ["self"] [])
    (GM : ∀ (U : List Kd) (Ms : List Str), Clo U → MkU U Ms → FnOk P w K mg base CX0 9 fM fdM ["self", "texts", "some"] (spMore U C)) (bM : Binds K fdM ["self", "texts", "some"] []) (mM : Meth K C "with_more" fM)
    (GH : ∀ (U : List Kd) (Ms : List Str), Clo U → MkU U Ms → FnOk P w K mg base CX0 86 fH fdH ["self", "texts"] (spHad U C 19)) (bH : Binds K fdH ["self", "texts"] []) (mH : Meth K C "had" fH)
    (GL : ∀ (U : List Kd) (Ms : List Str), Clo U → MkU U Ms → FnOk P w K mg base CX0 83 fL fdL ["self", "texts", "marks", "kind"] (spLack U C 18)) (bL : Binds K fdL ["self", "texts", "marks", "kind"] []) (mL : Meth K C "lack_of" fL)
    (GT : ∀ (U : List Kd) (Ms : List Str), Clo U → MkU U Ms → FnOk P w K mg base CX0 109 fT fdT ["self", "texts"] (spTree U C 19)) (bT : Binds K fdT ["self", "texts"] []) (mT : Meth K C "tree" fT) :
    FnOk P w K mg base CX0 110 f fd ["row", "kind"] spBarring := by
  refine F.ok scBarring (fun vs H Q E h => ?_) (fun cdv A0 outer s H vs Q E hr h => ?_)
  · obtain ⟨r, a, ps, ks, k, Ms, rfl, _⟩ := h
    rfl
  obtain ⟨r, a, ps, ks, k, Ms, rfl, hr0, hps, hk, hw, h8, hl, hms, hov, q⟩ := h
  have c := clo_of hw h8 hl
  have cm := mkU_of hms hov
  have hkU : k ∈ (k :: ks).flatMap subs := List.mem_flatMap.mpr ⟨k, List.mem_cons_self, subs_self k⟩
  have hksU : ∀ j ∈ ks, j ∈ (k :: ks).flatMap subs := fun j hj => List.mem_flatMap.mpr ⟨j, List.mem_cons_of_mem _ hj, subs_self j⟩
  generalize hU : (k :: ks).flatMap subs = U at c cm hkU hksU
  have lks : ks.length ≤ 18 := by
    have e := paired_len hps
    have h1 : ∀ l : List Kd, l.length ≤ (l.map leaves).sum := by
      intro l
      induction l with
      | nil => exact Nat.le_refl _
      | cons x l ih =>
        have := leaves_pos x
        rw [List.map_cons, List.sum_cons, List.length_cons]
        omega
    have := h1 (k :: ks)
    rw [List.length_cons] at this
    omega
  refine ⟨_, pss_cons (ps_set (i := 2) scBarring.nd rfl (.inl rfl) (pe_make0 MK GI (hr.mono (by decide)) rfl T.mgC bI .nil pass0))
    (pss_cons (ps_set (i := 3) scBarring.nd rfl (.inl rfl) (pe_meth (pv 2) T.cl mM (GM U Ms c cm) (hr.mono (by decide)) bM .nil pass0 (pa_cons (pe_tup pa_nil)
      (pa_cons (pe_lc (own := [("name", 5), ("given", 6)]) (g := gTup K 2 (gCons (gName 5) (gCons (gName 6) gNil))) (tt := tYes) (te := tVar 6) rfl scBarring.nd (pi_list (pv 0)) (blkOk_by (N := nBarring) (sc := defScope sBarring) (by decide +kernel))
        (fun _ _ _ _ _ => pg_tup rfl (pgs_cons (pg_name (i := 5) scBarring.nd rfl (.inl rfl)) (pgs_cons (pg_name (i := 6) scBarring.nd rfl (.inl rfl)) pgs_nil))) (fun _ _ _ _ _ => pts_nil) (fun _ _ _ _ _ => pv 6)) pa_nil))))
    (pss_cons (ps_set (i := 4) scBarring.nd rfl (.inl rfl) (pe_meth (pv 2) T.cl mL (GL U Ms c cm) (hr.mono (by decide)) bL .nil pass0 (pa_cons (pv 3) (pa_cons (pe_meth (pv 2) T.cl mH (GH U Ms c cm) (hr.mono (by decide)) bH .nil pass0 (pa_cons (pv 3) pa_nil)) (pa_cons (pv 1) pa_nil)))))
    (pss_cons (ps_if (pt_cmpR op_isN1 (pv 4) pe_non (nomark _)) (pss_one (ps_ret pe_non)) pss_nil)
    (pss_one (ps_ret (pe_meth (pv 2) T.cl mT (GT U Ms c cm) hr bT .nil pass0 (pa_cons (pv 4) pa_nil))))))), ?_⟩
  -- having = Having()
  intro x dx hx hdx ne
  have s1 := same_new hdx (.own x)
  have hx1 : (upd H dx (.own x)) x = none := by rw [upd_ne ne.symm]; exact hx
  have s2 := same_new hx1 (.ins C dx [])
  refine ⟨x, dx, rfl, upd_same, fun kd fd H1 s3 ho hkd hfd nkd nfd => ⟨rfl, ?_⟩⟩
  have sH : Same H H1 := fun b o e => by
    have nb : b ≠ x := ne_of_none e hx
    have := s3 b o (by rw [hide_ne nb]; exact s2 _ _ (s1 _ _ e))
    exact (hide_some this).2
  have hkd0 : H kd = none := s1.free (s2.free nkd)
  have hfd0 : H fd = none := s1.free (s2.free nfd)
  have hv1 : HavAt U C H1 x kd fd := ⟨⟨dx, ho⟩, ⟨[], [], hkd, ⟨KeysAre.nil, fun _ z => (by cases z), fun _ z => (by cases z)⟩⟩, ⟨[], hfd, List.nodup_nil, fun y v ev => (by cases (show (none : Option V) = some v from ev))⟩⟩
  -- texts = having.with_more((), [..])
  refine ⟨.ref x, rfl, x, dx, _, rfl, ho, hf_no kd fd (by decide +kernel) (by decide +kernel), Nat.zero_le _, fun e0 he0 => ?_⟩
  have s4 := same_new he0 (.tup [])
  have sA := sH.trans s4
  refine ⟨.ref r, rfl, r, rfl, ⟨_, SqL.of (sA _ _ hr0)⟩, fun D hD => ?_⟩
  have s5 := same_new hD (.lst [])
  refine lc_list (K := K) (a := r) (xs := ps.map V.ref) (fun i H' => Same (upd H1 e0 (.tup [])) (hide D H') ∧ ∃ us, H' D = some (.lst us) ∧ Paired (KvAt (hide D H')) us (ks.take i))
    ⟨same_hide hD s5, [], upd_same, by rw [List.take_zero]; exact .nil⟩ (fun i H' _ h => SqL.of (hide_same D H' _ _ (h.1 _ _ (sA _ _ hr0)))) (fun i v H2 hv' h => ?_) fun H2 h => ?_
  · obtain ⟨sm, us, hd, hus⟩ := h
    obtain ⟨pi, hpi, rfl⟩ := map_refs_at hv'
    obtain ⟨j, hj, nm, b, e1, e2⟩ := paired_at hps hpi
    have hjk : i < ks.length := (List.getElem?_eq_some_iff.mp hj).1
    have lu := paired_len hus
    rw [List.length_take] at lu
    refine ⟨pi, _, rfl, SqT.of (hide_same D H2 _ _ (sm _ _ (sA _ _ e1))), rfl, _, _, rfl, _, _, rfl, rfl, rfl, ?_⟩
    refine ⟨_, rfl, us, hd, small1000 (by omega), ?_⟩
    rw [hide_upd]
    refine ⟨sm, _, upd_same, ?_⟩
    rw [take_snoc hj]
    exact Paired.snoc hus ⟨b, rfl, e2.same (sA.trans sm)⟩
  obtain ⟨sm, us, hd, hus⟩ := h
  have el : (ps.map V.ref).length = ks.length := by rw [List.length_map]; exact paired_len hps
  rw [el, List.take_length] at hus
  have hus2 : Paired (KvAt H2) us ks := Paired.mapP hus fun v j z => let ⟨b, e, y⟩ := z; ⟨b, e, y.same (hide_same D H2)⟩
  have sB : Same (upd H1 e0 (.tup [])) H2 := sm.trans (hide_same D H2)
  have hv2 := hv1.mono (s4.trans sB)
  refine ⟨x, kd, fd, e0, D, [], us, ks, rfl, hv2, sB _ _ upd_same, ⟨List.Pairwise.nil, fun _ z => (by cases z)⟩, (fun _ z => by cases z), hd, hus2, hksU, fun H3 t S hv3 kp3 tx3 c3 ss kn3 => ?_⟩
  have sC : Same H H2 := sA.trans sB
  have toS : ∀ {H' : Hp}, Kept kd fd H2 H' → Same H H' := fun kp b o e => kp.same b o (ne_of_none e hkd0) (ne_of_none e hfd0) (sC b o e)
  have hS3 : ResAt U kd H3 S t S := ⟨tx3, c3, fun _ z => z, kn3⟩
  have m18 : mu U S ≤ 18 := Nat.le_trans (mu_bd U S) c.sz
  have hss : SameSet S ks := fun j => by
    have := ss j
    rwa [List.nil_append] at this
  -- there = having.lack_of(texts, having.had(texts), kind)
  obtain ⟨⟨dx3, ho3⟩, _⟩ := id hv3
  refine ⟨.ref x, rfl, x, dx3, _, rfl, ho3, hf_no kd fd (by decide +kernel) (by decide +kernel), .ref t, rfl, .ref x, rfl, x, dx3, _, rfl, ho3, hf_no kd fd (by decide +kernel) (by decide +kernel), .ref t, rfl, x, kd, fd, t, S, rfl, hv3, hS3, by omega, fun H4 d mks M hv4 kp4 hM had nd => ?_⟩
  have kp24 := kp3.trans kp4
  have s24 := toS kp24
  have hS4 := hS3.kept hv3 kp4
  refine ⟨.ref a, rfl, x, kd, fd, t, d, a, S, mks, M, k, rfl, hv4, hS4, m18, hM, hk.same s24, c.inn hkU, fun H5 v hv5 kp5 res => ?_⟩
  have kp25 := kp24.trans kp5
  have hiff : OkK S M k ↔ Has ks k := had.okK_iff.trans (Has.same hss)
  rcases res with ⟨ok, rfl⟩ | ⟨nok, t', S', rfl, hr'⟩
  · refine ⟨_, rfl, rfl, _, rfl, ?_⟩
    refine iteT ?_
    exact q H5 .non (toS kp25) (.inl ⟨rfl, hiff.1 ok⟩)
  · refine ⟨_, rfl, rfl, _, rfl, ?_⟩
    refine iteF ?_
    obtain ⟨⟨dx5, ho5⟩, _⟩ := id hv5
    have hS5 := hr'
    refine ⟨.ref x, rfl, x, dx5, _, rfl, ho5, hf_no kd fd (by decide +kernel) (by decide +kernel), .ref t', rfl, x, kd, fd, t', S', rfl, hv5, ⟨hr'.tx, hr'.ctx, fun _ z => z, hr'.kn⟩, Nat.lt_succ_of_le (Nat.le_trans (mu_bd U S') c.sz), fun H6 a6 hv6 kp6 => ?_⟩
    exact q H6 _ (toS (kp25.trans kp6)) (.inr ⟨⟨a6, rfl⟩, fun z => nok (hiff.2 z)⟩)
end
end KF
/-! Plain facts for the law's search. -/
namespace KF
open PySem PySem.Spec PyProof.Rows L2

/-- all that a kind may take -/
def takes : Kd → List Kd
  | .one => []
  | .mk _ => []
  | .to a b => a :: (takes a ++ takes b)
  | .both a b => takes a ++ takes b
theorem takes_len : ∀ k : Kd, (takes k).length + 1 ≤ leaves k
  | .one => Nat.le_refl _
  | .mk _ => Nat.le_refl _
  | .to a b => by
    have h1 := takes_len a
    have h2 := takes_len b
    simp only [takes, leaves, List.length_cons, List.length_append]
    omega
  | .both a b => by
    have h1 := takes_len a
    have h2 := takes_len b
    simp only [takes, leaves, List.length_append]
    omega
theorem ends_takes : ∀ {k : Kd} {e : List Kd × Str}, e ∈ ends k → ∀ t ∈ e.1, t ∈ takes k
  | .one, e, h, _, _ => (by cases h)
  | .mk m, e, h, t, ht => by
    rw [List.mem_singleton.mp h] at ht
    cases ht
  | .to a b, e, h, t, ht => by
    obtain ⟨f, hf, rfl⟩ := List.mem_map.mp h
    rcases List.mem_cons.mp ht with e | ht
    · rw [e]; exact List.mem_cons_self
    · exact List.mem_cons_of_mem _ (List.mem_append_right _ (ends_takes hf t ht))
  | .both a b, e, h, t, ht => by
    rcases List.mem_append.mp h with h | h
    · exact List.mem_append_left _ (ends_takes h t ht)
    · exact List.mem_append_right _ (ends_takes h t ht)
theorem takes_trans : ∀ {k t : Kd}, t ∈ takes k → ∀ x ∈ takes t, x ∈ takes k
  | .one, t, h, _, _ => (by cases h)
  | .mk m, t, h, _, _ => (by cases h)
  | .to a b, t, h, x, hx => by
    rcases List.mem_cons.mp h with e | h
    · subst e; exact List.mem_cons_of_mem _ (List.mem_append_left _ hx)
    · rcases List.mem_append.mp h with h | h
      · exact List.mem_cons_of_mem _ (List.mem_append_left _ (takes_trans h x hx))
      · exact List.mem_cons_of_mem _ (List.mem_append_right _ (takes_trans h x hx))
  | .both a b, t, h, x, hx => by
    rcases List.mem_append.mp h with h | h
    · exact List.mem_append_left _ (takes_trans h x hx)
    · exact List.mem_append_right _ (takes_trans h x hx)
theorem takes_subs : ∀ {k t : Kd}, t ∈ takes k → t ∈ subs k
  | .one, t, h => (by cases h)
  | .mk m, t, h => (by cases h)
  | .to a b, t, h => by
    rcases List.mem_cons.mp h with e | h
    · rw [e]; exact List.mem_cons_of_mem _ (List.mem_append_left _ (subs_self a))
    · rcases List.mem_append.mp h with h | h
      · exact List.mem_cons_of_mem _ (List.mem_append_left _ (takes_subs h))
      · exact List.mem_cons_of_mem _ (List.mem_append_right _ (takes_subs h))
  | .both a b, t, h => by
    rcases List.mem_append.mp h with h | h
    · exact List.mem_cons_of_mem _ (List.mem_append_left _ (takes_subs h))
    · exact List.mem_cons_of_mem _ (List.mem_append_right _ (takes_subs h))
theorem Wf.sub : ∀ {k j : Kd}, Wf k → j ∈ subs k → Wf j
  | .one, j, o, h => by rw [List.mem_singleton.mp h]; exact o
  | .mk m, j, o, h => by rw [List.mem_singleton.mp h]; exact o
  | .to a b, j, o, h => by
    rcases List.mem_cons.mp h with e | h
    · rw [e]; exact o
    · exact (List.mem_append.mp h).elim (fun z => Wf.sub o.1 z) fun z => Wf.sub o.2 z
  | .both a b, j, o, h => by
    rcases List.mem_cons.mp h with e | h
    · rw [e]; exact o
    · exact (List.mem_append.mp h).elim (fun z => Wf.sub o.1 z) fun z => Wf.sub o.2 z
/-- a kind whose takes lie in Tk, whose marks lie in Ms -/
structure InT (Tk : List Kd) (Ms : List Str) (k : Kd) : Prop where
  wf : Wf k
  lv : leaves k ≤ 8
  tk : ∀ t ∈ takes k, t ∈ Tk
  ov : Over Ms k
structure LClo (Tk : List Kd) (Ms : List Str) : Prop where
  inn : ∀ t ∈ Tk, InT Tk Ms t
  sz : Tk.length ≤ 8
  ms : Ms.length ≤ 4
  wm : ∀ m ∈ Ms, WfM m
theorem InT.good {Tk : List Kd} {Ms : List Str} {k : Kd} (h : InT Tk Ms k) : Good k := ⟨h.wf, h.lv⟩
theorem lclo_of {ks : List Kd} {Ms : List Str} (hne : ks ≠ []) (hw : ∀ k ∈ ks, Wf k) (h8 : ∀ k ∈ ks, leaves k ≤ 8) (hl : (ks.map leaves).sum ≤ 9) (ho : ∀ k ∈ ks, Over Ms k) (hms : Ms.length ≤ 4) (wm : ∀ m ∈ Ms, WfM m) :
    LClo (ks.flatMap takes) Ms ∧ ∀ k ∈ ks, InT (ks.flatMap takes) Ms k := by
  have up : ∀ k ∈ ks, ∀ t ∈ takes k, t ∈ ks.flatMap takes := fun k hk t ht => List.mem_flatMap.mpr ⟨k, hk, ht⟩
  refine ⟨⟨fun t ht => ?_, ?_, hms, wm⟩, fun k hk => ⟨hw k hk, h8 k hk, up k hk, ho k hk⟩⟩
  · obtain ⟨k, hk, htk⟩ := List.mem_flatMap.mp ht
    exact ⟨Wf.sub (hw k hk) (takes_subs htk), Nat.le_trans (leaves_subs (takes_subs htk)) (h8 k hk), fun x hx => up k hk x (takes_trans htk x hx), Over.subs (ho k hk) (takes_subs htk)⟩
  · have : ∀ l : List Kd, (l.flatMap takes).length + l.length ≤ (l.map leaves).sum := by
      intro l
      induction l with
      | nil => exact Nat.le_refl _
      | cons x l ih =>
        have := takes_len x
        rw [List.flatMap_cons, List.length_append, List.map_cons, List.sum_cons, List.length_cons]
        omega
    have h1 := this ks
    have h2 : 0 < ks.length := List.length_pos_iff.mpr hne
    omega
/-- in order, no two alike -/
structure Can (l : List Kd) : Prop where
  nd : l.Nodup
  asc : l.Pairwise fun k j => klt j k = false
theorem Can.uniq : ∀ {l m : List Kd}, Can l → Can m → SameSet l m → l = m
  | [], [], _, _, _ => rfl
  | [], x :: m, _, _, h => absurd ((h x).2 List.mem_cons_self) (by simp)
  | x :: l, [], _, _, h => absurd ((h x).1 List.mem_cons_self) (by simp)
  | x :: l, y :: m, a, b, h => by
    obtain ⟨a1, a2⟩ := List.nodup_cons.mp a.nd
    obtain ⟨b1, b2⟩ := List.nodup_cons.mp b.nd
    obtain ⟨a3, a4⟩ := List.pairwise_cons.mp a.asc
    obtain ⟨b3, b4⟩ := List.pairwise_cons.mp b.asc
    have e : x = y := by
      rcases List.mem_cons.mp ((h x).1 List.mem_cons_self) with e | hx
      · exact e
      · rcases List.mem_cons.mp ((h y).2 List.mem_cons_self) with e | hy
        · exact e.symm
        · exact klt_total x y (b3 x hx) (a3 y hy)
    subst e
    have q : SameSet l m := fun k => by
      constructor
      · intro hk
        rcases List.mem_cons.mp ((h k).1 (List.mem_cons_of_mem _ hk)) with e | z
        · exact absurd (e ▸ hk) a1
        · exact z
      · intro hk
        rcases List.mem_cons.mp ((h k).2 (List.mem_cons_of_mem _ hk)) with e | z
        · exact absurd (e ▸ hk) b1
        · exact z
    rw [Can.uniq ⟨a2, a4⟩ ⟨b2, b4⟩ q]
theorem nu_same {U : List Kd} {M : List Str} {S T : List Kd} {asked : List (List Kd × Str)} (h : SameSet S T) : nu U M S asked = nu U M T asked := by
  classical
  unfold nu left
  rw [mu_same h]
  congr 3
  funext m
  refine decide_eq_decide.mpr (not_congr ?_)
  constructor
  · rintro ⟨r, hr, h1, h2⟩; exact ⟨r, hr, h1.trans h, h2⟩
  · rintro ⟨r, hr, h1, h2⟩; exact ⟨r, hr, h1.trans h.symm, h2⟩
theorem room_same {S T L : List Kd} {m : Str} {asked : List (List Kd × Str)} {b : Bool} (h : SameSet T S) (h2 : SameSet L S) (q : RoomSays T m (asked ++ [(L, m)]) b) : RoomSays S m (asked ++ [(S, m)]) b := by
  refine ⟨fun e => (der_same h).1 (q.1 e), fun n d hi => q.2 n ((DerN.same h).2 d) fun r hr => ?_⟩
  rcases List.mem_append.mp hr with hr | hr
  · exact hi r (List.mem_append_left _ hr)
  · rw [List.mem_singleton.mp hr]
    intro d2
    exact hi (S, m) (List.mem_append_right _ List.mem_cons_self) ((DerN.same h2).1 d2)
theorem ends_tk_len {k : Kd} (h : Good k) {e : List Kd × Str} (he : e ∈ ends k) : e.1.length ≤ 7 := by
  rw [← pways_ends k] at he
  obtain ⟨f, hf, rfl⟩ := List.mem_map.mp he
  have h1 := pmoves_len hf
  have h2 : ∀ l : List (Int ⊕ Kd), (mvK l).length ≤ l.length := by
    intro l
    induction l with
    | nil => exact Nat.le_refl _
    | cons x l ih => cases x with
      | inl _ => exact Nat.le_succ_of_le ih
      | inr _ => exact Nat.succ_le_succ ih
  have h3 := h2 f.1
  have h4 := h.2
  show (mvK f.1).length ≤ 7
  omega
end KF
/-! The law's own search. -/
namespace KF
open PySem PySem.Spec PyProof.Rows L2

theorem kv_refs {H : Hp} : ∀ {us : List V} {S : List Kd}, Paired (KvAt H) us S → (∀ k ∈ S, Good k) → ∃ ks : List (Addr × Kd), us = refs ks ∧ ks.map (·.2) = S ∧ AllK H ks
  | _, _, .nil, _ => ⟨[], rfl, rfl, fun _ h => (by cases h)⟩
  | _, _, .cons (a := u) (b := k) h t, g => by
    obtain ⟨ks, e1, e2, e3⟩ := kv_refs t fun j hj => g j (List.mem_cons_of_mem _ hj)
    obtain ⟨a, rfl, ha⟩ := h
    refine ⟨(a, k) :: ks, by rw [e1]; rfl, by rw [List.map_cons, e2], fun q hq => ?_⟩
    rcases List.mem_cons.mp hq with e | hq
    · rw [e]; exact ⟨ha, (g k List.mem_cons_self).2⟩
    · exact e3 q hq
/-- the kinds S stand as a list at t -/
def ThAt (H : Hp) (t : Addr) (S : List Kd) : Prop := ∃ us, H t = some (.lst us) ∧ Paired (KvAt H) us S
theorem ThAt.same {H H' : Hp} (s : Same H H') {t : Addr} {S : List Kd} (h : ThAt H t S) : ThAt H' t S := let ⟨us, e, x⟩ := h; ⟨us, s _ _ e, Paired.mapP x fun _ _ z => z.same s⟩
theorem ThAt.dp {K : PySem.W.Frag} {H : Hp} {t : Addr} {S : List Kd} (h : ThAt H t S) (g : ∀ k ∈ S, Good k) : Dp K H (.ref t) (.list (S.map dat)) := by
  obtain ⟨us, e, x⟩ := h
  obtain ⟨ks, rfl, rfl, e3⟩ := kv_refs x g
  have := dps (K := K) e3
  rw [List.map_map]
  exact .lst (SqL.of e) this
/-- a room -/
def RmAt (H : Hp) (v : V) (r : List Kd × Str) : Prop := ∃ R L, v = .ref R ∧ H R = some (.tup [.ref L, .str r.2]) ∧ ThAt H L r.1
theorem RmAt.same {H H' : Hp} (s : Same H H') {v : V} {r : List Kd × Str} (h : RmAt H v r) : RmAt H' v r := let ⟨R, L, e, e1, x⟩ := h; ⟨R, L, e, s _ _ e1, x.same s⟩
theorem RmAt.dp {K : PySem.W.Frag} {H : Hp} {v : V} {r : List Kd × Str} (h : RmAt H v r) (g : ∀ k ∈ r.1, Good k) : Dp K H v (roomD r) := by
  obtain ⟨R, L, rfl, e1, x⟩ := h
  exact .tup (SqT.of e1) (.cons (x.dp g) (.cons (.str _) .nil))
def AskAt (H : Hp) (q : Addr) (asked : List (List Kd × Str)) : Prop := ∃ vs, H q = some (.lst vs) ∧ Paired (RmAt H) vs asked
theorem AskAt.same {H H' : Hp} (s : Same H H') {q : Addr} {asked : List (List Kd × Str)} (h : AskAt H q asked) : AskAt H' q asked := let ⟨us, e, x⟩ := h; ⟨us, s _ _ e, Paired.mapP x fun _ _ z => z.same s⟩
/-- what holds of the rooms that are asked -/
def RmsOk (asked : List (List Kd × Str)) : Prop := ∀ r ∈ asked, Can r.1 ∧ WfM r.2 ∧ ∀ k ∈ r.1, Good k
theorem AskAt.dp {K : PySem.W.Frag} {H : Hp} {q : Addr} {asked : List (List Kd × Str)} (h : AskAt H q asked) (ok : RmsOk asked) : Dp K H (.ref q) (.list (asked.map roomD)) := by
  obtain ⟨vs, e, x⟩ := h
  refine .lst (SqL.of e) ?_
  clear e
  induction x with
  | nil => exact .nil
  | cons h t ih => exact .cons (h.dp (ok _ List.mem_cons_self).2.2) (ih fun r hr => ok r (List.mem_cons_of_mem _ hr))

def spLHas (Tk : List Kd) (Ms : List Str) (n : Nat) : Sp := fun vs H Q _ => ∃ (t a q : Addr) (S : List Kd) (k : Kd) (asked : List (List Kd × Str)), vs = [.ref t, .ref a, .ref q] ∧ ThAt H t S ∧ (∀ j ∈ S, InT Tk Ms j) ∧ KAt H k a ∧ InT Tk Ms k ∧ AskAt H q asked ∧ RmsOk asked ∧
  nu Tk Ms S asked ≤ n ∧ S.length + 7 * mu Tk S ≤ 63 ∧ asked.length + nu Tk Ms S asked ≤ 60 ∧ ∀ (H' : Hp) (b : Bool), Same H H' → KindSays S k asked b → Q (.bl b) H'
def spLHad (Tk : List Kd) (Ms : List Str) (n : Nat) : Sp := fun vs H Q _ => ∃ (t q : Addr) (m : Str) (S : List Kd) (asked : List (List Kd × Str)), vs = [.ref t, .str m, .ref q] ∧ ThAt H t S ∧ (∀ j ∈ S, InT Tk Ms j) ∧ AskAt H q asked ∧ RmsOk asked ∧
  nu Tk Ms S asked < n ∧ S.length + 7 * mu Tk S ≤ 63 ∧ asked.length + nu Tk Ms S asked ≤ 60 ∧ ∀ (H' : Hp) (b : Bool), Same H H' → RoomSays S m asked b → Q (.bl b) H'

section
variable {P : Program} {w : World} {K : PySem.W.Frag} {mg : Str → Option Value} {base : Heap} {o1 fA fD fE fW : Addr} {fdA fdD fdE fdW : FuncData} {Tk : List Kd} {Ms : List Str}
theorem ok_lhas {n lv : Nat} (c : LClo Tk Ms) (h9 : 9 ≤ lv) (F : Fnc K mg "_law_has" ["_law_there", "_law_kind_here", "_law_asked"] sHas fA fdA) (G : Glo K mg o1)
    (GE : FnOk P w K mg base CX0 8 fE fdE ["_law_kind_here"] (spEnds 8)) (bE : Binds K fdE ["_law_kind_here"] []) (kE : PySem.W.keepIn K (.ref fE) = true) (gE : mg "_law_ends" = some (.ref fE))
    (D : Fnc K mg "_law_had" ["_law_there", "_law_mark", "_law_asked"] sLHad fD fdD) (GD : FnOk P w K mg base CX0 lv fD fdD ["_law_there", "_law_mark", "_law_asked"] (spLHad Tk Ms n)) :
    FnOk P w K mg base CX0 (lv + 1) fA fdA ["_law_there", "_law_kind_here", "_law_asked"] (spLHas Tk Ms n) := by
  refine F.F.ok scHas (fun vs H Q E h => ?_) (fun cdv A outer s H vs Q E hr h => ?_)
  · obtain ⟨t, a, q, S, k, asked, rfl, _⟩ := h
    rfl
  obtain ⟨t, a, q, S, k, asked, rfl, ht, hS, hk, hI, hq, hok, hnu, hlen, hal, Qp⟩ := h
  have hu := hu_of hr
  have hu64 := hr.units
  have hu65 : (A.deeper (envOfC "_law_has" (defScope sHas) s.heap.objs.size fA cdv)).units + 65 < cLine := by have := hr.un; omega
  refine ⟨_, pss_cons (ps_for PassesOwn.never rfl (pi_list (pe_call GE (hr.mono (by omega)) rfl gE kE bE .nil pass0 (pa_cons (pv 1) pa_nil))) (pg_tup rfl (pgs_cons (pg_name (i := 3) scHas.nd rfl (.inl rfl)) (pgs_cons (pg_name (i := 4) scHas.nd rfl (.inl rfl)) pgs_nil)))
      (pss_cons (ps_set (i := 5) scHas.nd rfl (.inl rfl) (pe_op op_cat (pv 0) (pe_lc (own := [("_law_one", 7)]) (g := gName 7) (tt := tTest (tOp (rNotInD K) (tVar 7) (tVar 0))) (te := tVar 7) rfl scHas.nd (pi_list (pv 3)) (blkOk_by (N := nHas) (sc := defScope sHas) (by decide +kernel))
          (fun _ _ _ _ _ => pg_name (i := 7) scHas.nd rfl (.inl rfl)) (fun _ _ _ _ _ => pts_one (pt_cmpR (op_notInD hu65) (pv 7) (pv 0) rfl)) (fun _ _ _ _ _ => pv 7))))
      (pss_cons (ps_set (i := 6) scHas.nd rfl (.inl rfl) (pe_tup (pa_cons (pe_callB (r := rSortedK P w) (cr_sortedK rfl hu64) rfl G.sorted bo_sorted (pa_cons (pe_callTy (r := rSetOfK K P w) (cr_setOfK rfl hu64) rfl G.set (by decide +kernel) (pa_cons (pv 5) pa_nil)) pa_nil)) (pa_cons (pv 4) pa_nil))))
      (pss_one (ps_if (PW.pt (pw_or (pt_cmpR (op_inD hu65) (pv 6) (pv 2) rfl) (pw_or1 (pt_not (pt_val (pe_call GD hr rfl D.g D.F.kp D.b .nil pass0 (pa_cons (pv 5) (pa_cons (pv 4) (pa_cons (pe_op op_cat (pv 2) (pe_lst (pa_cons (pv 6) pa_nil))) pa_nil)))))))))
        (pss_one (ps_ret pe_bl)) pss_nil)))))
    (pss_one (ps_ret pe_bl)), ?_⟩
  have gS : ∀ j ∈ S, Good j := fun j hj => (hS j hj).good
  -- for taken, mark in _law_ends(kind)
  refine ⟨.ref a, rfl, k, a, rfl, hk, hI.lv, hI.good, fun H1 l s1 ⟨ps, fl, a1, b1⟩ => ?_⟩
  refine ⟨l, rfl, ⟨_, SqL.of a1⟩, for_list (K := K) (a := l) (xs := ps.map V.ref) (fun i σ H' => ∃ x3 x4 x5 x6 x7, σ = [some (.ref t), some (.ref a), some (.ref q), x3, x4, x5, x6, x7] ∧ Same H1 H' ∧ ∀ e ∈ (ends k).take i, Der (S ++ e.1) e.2)
    ⟨none, none, none, none, none, rfl, fun _ _ e => e, fun e he => (by simp at he)⟩ (fun i σ H' _ ⟨_, _, _, _, _, _, sm, _⟩ => SqL.of (sm _ _ a1)) ?_ ?_⟩
  · rintro i v σ H2 hi ⟨x3, x4, x5, x6, x7, rfl, sm, hd⟩
    obtain ⟨pi, hpi, rfl⟩ := map_refs_at hi
    obtain ⟨e, he, hpe⟩ := paired_at b1 hpi
    obtain ⟨tl, us, g0, g1, g2, g3⟩ := PairG.same kv_mono sm hpe
    have hek := List.mem_of_getElem? he
    have heT : ∀ j ∈ e.1, j ∈ Tk := fun j hj => hI.tk j (ends_takes hek j hj)
    have heL : e.1.length ≤ 7 := ends_tk_len hI.good hek
    have heM : e.2 ∈ Ms := Over.ends hI.ov e hek
    have s2 : Same H H2 := s1.trans sm
    have ht2 := ht.same s2
    have hq2 := hq.same s2
    have eu := paired_len g3
    refine ⟨pi, _, rfl, SqT.of g1, rfl, _, _, rfl, _, _, rfl, rfl, ?_⟩
    -- more = there + [one for one in taken if one not in there]
    obtain ⟨ths, ht2a, ht2b⟩ := id ht2
    refine ⟨.ref t, rfl, .ref tl, rfl, tl, rfl, ⟨_, SqL.of g2⟩, fun D hD => ?_⟩
    refine lc_list (K := K) (a := tl) (xs := us) (fun i H' => Same H2 (hide D H') ∧ ∃ vs, H' D = some (.lst vs) ∧ Paired (KvAt (hide D H')) vs ((e.1.take i).filter fun j => decide (j ∉ S)))
      ⟨same_hide hD (same_new hD _), [], upd_same, by rw [List.take_zero]; exact .nil⟩ (fun i H' _ h => SqL.of (hide_same D H' _ _ (h.1 _ _ g2))) (fun i v H3 hv h => ?_) fun H3 h => ?_
    · obtain ⟨sm3, vs, hd3, hvs⟩ := h
      obtain ⟨j, hj, b, rfl, hb⟩ := paired_at g3 hv
      have hje := List.mem_of_getElem? hj
      have gj := (c.inn j (heT j hje)).good
      have sA : Same H2 H3 := sm3.trans (hide_same D H3)
      have lv := paired_len hvs
      have lv2 := List.length_filter_le (fun j => decide (j ∉ S)) (e.1.take i)
      rw [List.length_take] at lv2
      refine ⟨rfl, .ref b, rfl, .ref t, rfl, dat j, _, (hb.same sA).dp, (ht2.same sA).dp gS, dat_shaped gj, dats_shaped gS, _, rfl, ?_⟩
      rw [dats_any, take_snoc hj, List.filter_append]
      by_cases cj : j ∈ S
      · have e0 : (!decide (j ∈ S)) = false := by rw [decide_eq_true cj]; rfl
        have e1 : [j].filter (fun j => decide (j ∉ S)) = [] := by simp [cj]
        rw [e0, e1, List.append_nil]
        exact iteF ⟨sm3, vs, hd3, hvs⟩
      · have e0 : (!decide (j ∈ S)) = true := by rw [decide_eq_false cj]; rfl
        have e1 : [j].filter (fun j => decide (j ∉ S)) = [j] := by simp [cj]
        rw [e0, e1]
        refine iteT ?_
        refine ⟨.ref b, rfl, vs, hd3, small1000 (by omega), ?_⟩
        rw [hide_upd]
        exact ⟨sm3, _, upd_same, Paired.snoc hvs ⟨b, rfl, hb.same sm3⟩⟩
    obtain ⟨sm3, vs, hd3, hvs⟩ := h
    rw [eu, List.take_length] at hvs
    have s3 : Same H2 H3 := sm3.trans (hide_same D H3)
    have hvs3 : Paired (KvAt H3) vs (e.1.filter fun j => decide (j ∉ S)) := Paired.mapP hvs fun _ _ z => z.same (hide_same D H3)
    have hth3 : Paired (KvAt H3) ths S := Paired.mapP ht2b fun _ _ z => z.same s3
    generalize hte : (e.1.filter fun j => decide (j ∉ S)) = te at hvs3
    have teT : ∀ j ∈ te, j ∈ Tk ∧ j ∉ S ∧ j ∈ e.1 := fun j hj => by
      rw [← hte] at hj
      obtain ⟨z1, z2⟩ := List.mem_filter.mp hj
      exact ⟨heT j z1, of_decide_eq_true z2, z1⟩
    have teL : te.length ≤ 7 := by
      rw [← hte]
      exact Nat.le_trans (List.length_filter_le _ _) heL
    have hss : SameSet (S ++ te) (S ++ e.1) := fun j => by
      rw [List.mem_append, List.mem_append]
      constructor
      · rintro (z | z)
        · exact .inl z
        · exact .inr (teT j z).2.2
      · rintro (z | z)
        · exact .inl z
        · by_cases cj : j ∈ S
          · exact .inl cj
          · refine .inr ?_
            rw [← hte]
            exact List.mem_filter.mpr ⟨z, decide_eq_true cj⟩
    have lth := paired_len hth3
    have lvs := paired_len hvs3
    -- the length of more
    have hlen2 : (S ++ te).length + 7 * mu Tk (S ++ te) ≤ 63 := by
      rw [List.length_append]
      cases te with
      | nil => rw [List.append_nil]; exact hlen
      | cons j r =>
        have := mu_lt (U := Tk) (S := S) (T := S ++ j :: r) (fun x hx => List.mem_append_left _ hx) (teT j List.mem_cons_self).1 (List.mem_append_right _ List.mem_cons_self) (teT j List.mem_cons_self).2.1
        omega
    refine ⟨t, D, ths, vs, rfl, rfl, s3 _ _ ht2a, hd3, line_big (by rw [lth, lvs]; rw [List.length_append] at hlen2; omega), fun t4 ht4 => ?_⟩
    have s4 := same_new ht4 (.lst (ths ++ vs))
    have hmore : ThAt (upd H3 t4 (.lst (ths ++ vs))) t4 (S ++ te) := ⟨_, upd_same, paired_app (Paired.mapP hth3 fun _ _ z => z.same s4) (Paired.mapP hvs3 fun _ _ z => z.same s4)⟩
    have hI4 : ∀ j ∈ S ++ te, InT Tk Ms j := fun j hj => (List.mem_append.mp hj).elim (hS j) fun z => c.inn j (teT j z).1
    have g4 : ∀ j ∈ S ++ te, Good j := fun j hj => (hI4 j hj).good
    have sB : Same H2 (upd H3 t4 (.lst (ths ++ vs))) := s3.trans s4
    generalize upd H3 t4 (.lst (ths ++ vs)) = H4 at hmore sB
    -- room = (sorted(set(more)), mark)
    obtain ⟨ms4, hm4a, hm4b⟩ := id hmore
    obtain ⟨ks, rfl, eks, aks⟩ := kv_refs hm4b g4
    have lks : ks.length = (S ++ te).length := by rw [← eks, List.length_map]
    refine ⟨.ref t4, rfl, t4, ks, rfl, SqL.of hm4a, aks, by omega, fun sa L hsa hL1 hL2 => ?_⟩
    have s5 := same_new hsa (SetKO P w sa L)
    have aL : AllK H4 L := fun x hx => aks x (hL1 x hx)
    have aL5 : AllK (upd H4 sa (SetKO P w sa L)) L := fun x hx => ⟨(aL x hx).1.same s5, (aL x hx).2⟩
    refine ⟨sa, L, rfl, upd_same, aL5, fun L' p pm nd pw hp => ?_⟩
    have s6 := same_new hp (.lst (refs L'))
    have can : Can (L'.map (·.2)) := ⟨nd, pw⟩
    have ssL : SameSet (L'.map (·.2)) (S ++ e.1) := fun j => by
      refine Iff.trans ?_ (hss j)
      rw [← eks]
      constructor
      · intro z
        obtain ⟨x, hx, rfl⟩ := List.mem_map.mp z
        exact List.mem_map.mpr ⟨x, hL1 x (pm.mem_iff.mp hx), rfl⟩
      · intro z
        obtain ⟨x, hx, rfl⟩ := List.mem_map.mp z
        exact (pm.map (·.2)).mem_iff.mpr (hL2 x hx)
    have gL : ∀ j ∈ L'.map (·.2), Good j := fun j hj => g4 j ((hss j).2 ((ssL j).1 hj))
    refine ⟨.str e.2, rfl, ln2, fun R hR => ?_⟩
    have s7 := same_new hR (.tup [.ref p, .str e.2])
    have hLp : ThAt (upd (upd H4 sa (SetKO P w sa L)) p (.lst (refs L'))) p (L'.map (·.2)) := by
      have hl' : ∀ x ∈ L', KAt (upd (upd H4 sa (SetKO P w sa L)) p (.lst (refs L'))) x.2 x.1 := fun x hx => (aL5 x (pm.mem_iff.mp hx)).1.same s6
      refine ⟨_, upd_same, ?_⟩
      clear pm nd pw can ssL gL hp s6 s7 hR
      generalize upd (upd H4 sa (SetKO P w sa L)) p (.lst (refs L')) = H6 at hl'
      induction L' with
      | nil => exact .nil
      | cons x r ih => exact .cons ⟨x.1, rfl, hl' x List.mem_cons_self⟩ (ih fun y hy => hl' y (List.mem_cons_of_mem _ hy))
    have hrm : RmAt (upd (upd (upd H4 sa (SetKO P w sa L)) p (.lst (refs L'))) R (.tup [.ref p, .str e.2])) (.ref R) (L'.map (·.2), e.2) := ⟨R, p, rfl, upd_same, hLp.same s7⟩
    have sC : Same H4 (upd (upd (upd H4 sa (SetKO P w sa L)) p (.lst (refs L'))) R (.tup [.ref p, .str e.2])) := s5.trans (s6.trans s7)
    generalize upd (upd (upd H4 sa (SetKO P w sa L)) p (.lst (refs L'))) R (.tup [.ref p, .str e.2]) = H7 at hrm sC
    have sD : Same H H7 := s2.trans (sB.trans sC)
    generalize hLs : L'.map (·.2) = Ls at can ssL gL hrm
    have wm := c.wm _ heM
    have hq7 := hq.same sD
    -- room in asked or not _law_had(..)
    refine ⟨.ref R, rfl, .ref q, rfl, roomD (Ls, e.2), _, hrm.dp gL, hq7.dp hok, roomD_shaped wm gL, roomDs_shaped fun r hr => (hok r hr).2, _, rfl, ?_⟩
    rw [roomDs_any]
    by_cases cr : (Ls, e.2) ∈ asked
    · rw [decide_eq_true cr]
      refine iteT ?_
      refine iteT ?_
      refine Qp H7 false sD ⟨fun z => (by cases z), fun n' hall hi => ?_⟩
      exact absurd ⟨(Ls, e.2), cr, ssL, rfl⟩ (end_new (hall e hek) hi)
    · rw [decide_eq_false cr]
      refine iteF ?_
      have hn : ¬ ∃ r ∈ asked, SameSet r.1 Ls ∧ r.2 = e.2 := by
        rintro ⟨r, hr, z1, z2⟩
        have := Can.uniq (hok r hr).1 can z1
        obtain ⟨ra, rb⟩ := r
        simp only at this z2
        subst this z2
        exact cr hr
      have lt := nu_lt (U := Tk) (M := Ms) (S := S) (t := e.1) ssL heT heM hn
      have ssT : SameSet Ls (S ++ te) := ssL.trans hss.symm
      rw [nu_same ssT] at lt
      obtain ⟨vq, hq7a, hq7b⟩ := id hq7
      have lq := paired_len hq7b
      refine ⟨.ref t4, rfl, .str e.2, rfl, .ref q, rfl, .ref R, rfl, ln1, fun o ho => ?_⟩
      have s8 := same_new ho (.lst [.ref R])
      refine ⟨q, o, vq, _, rfl, rfl, s8 _ _ hq7a, upd_same, line_big (by simp only [List.length_cons, List.length_nil]; omega), fun q2 hq2 => ?_⟩
      have s9 := same_new hq2 (.lst (vq ++ [.ref R]))
      have sE := s8.trans s9
      have hask : AskAt (upd (upd H7 o (.lst [.ref R])) q2 (.lst (vq ++ [.ref R]))) q2 (asked ++ [(Ls, e.2)]) := ⟨_, upd_same, Paired.snoc (Paired.mapP hq7b fun _ _ z => z.same sE) (hrm.same sE)⟩
      refine ⟨t4, q2, e.2, S ++ te, asked ++ [(Ls, e.2)], rfl, hmore.same (sC.trans sE), hI4, hask, fun r hr => ?_, by omega, hlen2, by rw [List.length_append, List.length_singleton]; omega, fun H9 b s10 says => ?_⟩
      · rcases List.mem_append.mp hr with z | z
        · exact hok r z
        · rw [List.mem_singleton.mp z]; exact ⟨can, wm, gL⟩
      have says2 := room_same hss ssL says
      have sF : Same H H9 := sD.trans (sE.trans s10)
      refine ⟨b, rfl, ?_⟩
      cases b with
      | true =>
        refine iteF ?_
        refine ⟨_, _, _, _, _, rfl, sm.trans (sB.trans (sC.trans (sE.trans s10))), fun e' he' => ?_⟩
        rw [take_snoc he] at he'
        rcases List.mem_append.mp he' with z | z
        · exact hd e' z
        · rw [List.mem_singleton.mp z]; exact says2.1 rfl
      | false =>
        refine iteT ?_
        refine Qp H9 false sF ⟨fun z => (by cases z), fun n' hall hi => ?_⟩
        exact end_low (hall e hek) hi says2
  · rintro σ H2 ⟨x3, x4, x5, x6, x7, rfl, sm, hd⟩
    have el : (ps.map V.ref).length = (ends k).length := by rw [List.length_map]; exact paired_len b1
    rw [el, List.take_length] at hd
    exact Qp H2 true (s1.trans sm) ⟨fun _ => hd, fun _ _ _ => rfl⟩
end
end KF
/-! The law's own search: had, and the two together. -/
namespace KF
open PySem PySem.Spec PyProof.Rows L2

section
variable {P : Program} {w : World} {K : PySem.W.Frag} {mg : Str → Option Value} {base : Heap} {o1 fA fD fE fW : Addr} {fdA fdD fdE fdW : FuncData} {Tk : List Kd} {Ms : List Str}
theorem ok_lhad {n lv : Nat} (c : LClo Tk Ms) (h9 : 9 ≤ lv) (D : Fnc K mg "_law_had" ["_law_there", "_law_mark", "_law_asked"] sLHad fD fdD) (G : Glo K mg o1)
    (GW : FnOk P w K mg base CX0 8 fW fdW ["_law_kind_here"] (spEnds 8)) (bW : Binds K fdW ["_law_kind_here"] []) (kW : PySem.W.keepIn K (.ref fW) = true) (gW : mg "_law_ways" = some (.ref fW))
    (F : Fnc K mg "_law_has" ["_law_there", "_law_kind_here", "_law_asked"] sHas fA fdA) (GA : FnOk P w K mg base CX0 lv fA fdA ["_law_there", "_law_kind_here", "_law_asked"] (spLHas Tk Ms n)) :
    FnOk P w K mg base CX0 (lv + 1) fD fdD ["_law_there", "_law_mark", "_law_asked"] (spLHad Tk Ms (n + 1)) := by
  refine D.F.ok scLHad (fun vs H Q E h => ?_) (fun cdv A outer s H vs Q E hr h => ?_)
  · obtain ⟨t, q, m, S, asked, rfl, _⟩ := h
    rfl
  obtain ⟨t, q, m, S, asked, rfl, ht, hS, hq, hok, hnu, hlen, hal, Qp⟩ := h
  have hu64 := hr.units
  refine ⟨_, pss_cons (ps_for PassesOwn.never rfl (pi_list (pv 0)) (pg_name (i := 3) scLHad.nd rfl (.inl rfl))
      (pss_one (ps_for PassesOwn.never rfl (pi_list (pe_call GW (hr.mono (by omega)) rfl gW kW bW .nil pass0 (pa_cons (pv 3) pa_nil))) (pg_tup rfl (pgs_cons (pg_name (i := 4) scLHad.nd rfl (.inl rfl)) (pgs_cons (pg_name (i := 5) scLHad.nd rfl (.inl rfl)) pgs_nil)))
        (pss_one (ps_if (PW.pt (pw_and (pt_cmpR op_eq (pv 5) (pv 1) (nomark _)) (pw_and1 (pt_cmpR (op_eqD hr.units)
            (pe_lc (own := [("_law_one", 6)]) (g := gName 6) (tt := tNot (tB (tCall (spLHas Tk Ms n) [] E0 (tCons (tVar 0) (tCons (tVar 6) (tCons (tVar 2) tNil)))))) (te := tVar 6) rfl scLHad.nd (pi_list (pv 4)) (blkOk_by (N := nLHad) (sc := defScope sLHad) (by decide +kernel))
              (fun _ _ _ _ _ => pg_name (i := 6) scLHad.nd rfl (.inl rfl)) (fun _ _ _ _ _ => pts_one (pt_not (pt_val (pe_call GA hr rfl F.g F.F.kp F.b .nil pass0 (pa_cons (pv 0) (pa_cons (pv 6) (pa_cons (pv 2) pa_nil))))))) (fun _ _ _ _ _ => pv 6))
            (pe_lst pa_nil) (nomark _)))))
          (pss_one (ps_ret pe_bl)) pss_nil)))))
    (pss_one (ps_ret pe_bl)), ?_⟩
  have gS : ∀ j ∈ S, Good j := fun j hj => (hS j hj).good
  obtain ⟨us, hta, htb⟩ := id ht
  have eu := paired_len htb
  -- for kind in there
  refine ⟨.ref t, rfl, t, rfl, ⟨_, SqL.of hta⟩, for_list (K := K) (a := t) (xs := us) (fun i σ H' => ∃ x3 x4 x5 x6, σ = [some (.ref t), some (.str m), some (.ref q), x3, x4, x5, x6] ∧ Same H H' ∧ ∀ k ∈ S.take i, ∀ e ∈ ends k, e.2 = m → ∃ j ∈ e.1, KindSays S j asked false)
    ⟨none, none, none, none, rfl, fun _ _ e => e, fun k hk => (by simp at hk)⟩ (fun i σ H' _ ⟨_, _, _, _, _, sm, _⟩ => SqL.of (sm _ _ hta)) ?_ ?_⟩
  · rintro i v σ H1 hi ⟨x3, x4, x5, x6, rfl, s1, hz⟩
    obtain ⟨k, hk, a, rfl, ha⟩ := paired_at htb hi
    have hkS := List.mem_of_getElem? hk
    have hkI := hS k hkS
    refine ⟨.ref a, rfl, k, a, rfl, ha.same s1, hkI.lv, hkI.good, fun H2 l s2 ⟨ps, fl, a1, b1⟩ => ?_⟩
    have sA := s1.trans s2
    refine ⟨l, rfl, ⟨_, SqL.of a1⟩, for_list (K := K) (a := l) (xs := ps.map V.ref) (fun j σ H' => ∃ x4 x5 x6, σ = [some (.ref t), some (.str m), some (.ref q), some (.ref a), x4, x5, x6] ∧ Same H2 H' ∧ ∀ e ∈ (ends k).take j, e.2 = m → ∃ j ∈ e.1, KindSays S j asked false)
      ⟨_, _, _, rfl, fun _ _ e => e, fun e he => (by simp at he)⟩ (fun i σ H' _ ⟨_, _, _, _, sm, _⟩ => SqL.of (sm _ _ a1)) ?_ ?_⟩
    · rintro j v σ H3 hj ⟨y4, y5, y6, rfl, s3, hz3⟩
      obtain ⟨pi, hpi, rfl⟩ := map_refs_at hj
      obtain ⟨e, he, hpe⟩ := paired_at b1 hpi
      obtain ⟨tl, ws, g0, g1, g2, g3⟩ := PairG.same kv_mono s3 hpe
      have hek := List.mem_of_getElem? he
      have sB := sA.trans s3
      have heL : e.1.length ≤ 7 := ends_tk_len hkI.good hek
      have heI : ∀ x ∈ e.1, InT Tk Ms x := fun x hx => c.inn x (hkI.tk x (ends_takes hek x hx))
      have ew := paired_len g3
      refine ⟨pi, _, rfl, SqT.of g1, rfl, _, _, rfl, _, _, rfl, rfl, ?_⟩
      -- goal == mark
      refine ⟨.str e.2, rfl, .str m, rfl, rfl, _, rfl, ?_⟩
      have next : ∀ (H4 : Hp) (z4 z5 z6 : Option V), Same H3 H4 → (e.2 = m → ∃ j ∈ e.1, KindSays S j asked false) →
          ∃ x4 x5 x6, [some (V.ref t), some (.str m), some (.ref q), some (.ref a), z4, z5, z6] = [some (V.ref t), some (.str m), some (.ref q), some (.ref a), x4, x5, x6] ∧ Same H2 H4 ∧ ∀ e ∈ (ends k).take (j + 1), e.2 = m → ∃ j ∈ e.1, KindSays S j asked false := fun H4 z4 z5 z6 w1 w2 => by
        refine ⟨z4, z5, z6, rfl, s3.trans w1, fun x hx => ?_⟩
        rw [take_snoc he] at hx
        rcases List.mem_append.mp hx with w | w
        · exact hz3 x w
        · rw [List.mem_singleton.mp w]; exact w2
      by_cases cm : e.2 = m
      · rw [decide_eq_true (by rw [cm])]
        refine iteT ?_
        -- [one for one in moves if not _law_has(there, one, asked)] == []
        refine ⟨.ref tl, rfl, tl, rfl, ⟨_, SqL.of g2⟩, fun Dd hD => ?_⟩
        refine lc_list (K := K) (a := tl) (xs := ws) (fun i H' => Same H3 (hide Dd H') ∧ ∃ vs js, H' Dd = some (.lst vs) ∧ Paired (KvAt (hide Dd H')) vs js ∧ (∀ x ∈ js, Good x) ∧ vs.length ≤ i ∧ (js = [] → ∀ x ∈ e.1.take i, Has S x) ∧ (js ≠ [] → ∃ x ∈ e.1, KindSays S x asked false))
          ⟨same_hide hD (same_new hD _), [], [], upd_same, .nil, fun _ z => (by cases z), Nat.le_refl _, fun _ x hx => (by simp at hx), fun z => absurd rfl z⟩ (fun i H' _ h => SqL.of (hide_same Dd H' _ _ (h.1 _ _ g2))) (fun i v H4 hv h => ?_) fun H4 h => ?_
        · obtain ⟨sm, vs, js, hd, hvs, gj, lv', hn, hne⟩ := h
          obtain ⟨x, hx, b, rfl, hb⟩ := paired_at g3 hv
          have hxe := List.mem_of_getElem? hx
          have hxI := heI x hxe
          have sC : Same H3 H4 := sm.trans (hide_same Dd H4)
          have sD : Same H H4 := sB.trans sC
          have lti : i < e.1.length := (List.getElem?_eq_some_iff.mp hx).1
          refine ⟨rfl, .ref t, rfl, .ref b, rfl, .ref q, rfl, t, b, q, S, x, asked, rfl, ht.same sD, hS, hb.same sC, hxI, hq.same sD, hok, by omega, hlen, hal, fun H5 bb s5 says => ?_⟩
          have hd5 := s5 _ _ hd
          have sm5 : Same H3 (hide Dd H5) := sm.trans (hide_mono s5)
          have hvs5 : Paired (KvAt (hide Dd H5)) vs js := Paired.mapP hvs fun _ _ z => z.same (hide_mono s5)
          refine ⟨bb, rfl, ?_⟩
          cases bb with
          | true =>
            refine iteF ⟨sm5, vs, js, hd5, hvs5, gj, Nat.le_succ_of_le lv', fun ej y hy => ?_, hne⟩
            rw [take_snoc hx] at hy
            rcases List.mem_append.mp hy with z | z
            · exact hn ej y z
            · rw [List.mem_singleton.mp z]; exact says.1 rfl
          | false =>
            refine iteT ?_
            refine ⟨.ref b, rfl, vs, hd5, small1000 (by omega), ?_⟩
            rw [hide_upd]
            refine ⟨sm5, _, js ++ [x], upd_same, Paired.snoc hvs5 ⟨b, rfl, hb.same sm5⟩, fun y hy => ?_, by rw [List.length_append, List.length_singleton]; omega, fun z => (by simp at z), fun _ => ⟨x, hxe, says⟩⟩
            rcases List.mem_append.mp hy with z | z
            · exact gj y z
            · rw [List.mem_singleton.mp z]; exact hxI.good
        obtain ⟨sm, vs, js, hd, hvs, gj, lv', hn, hne⟩ := h
        rw [ew, List.take_length] at hn
        have sC : Same H3 H4 := sm.trans (hide_same Dd H4)
        refine ⟨Nat.zero_le _, fun z hz0 => ?_⟩
        have s6 := same_new hz0 (.lst [])
        have hDd : ThAt (upd H4 z (.lst [])) Dd js := ⟨vs, s6 _ _ hd, Paired.mapP hvs fun _ _ y => (y.same (hide_same Dd H4)).same s6⟩
        refine ⟨_, _, hDd.dp gj, .lst (SqL.of upd_same) .nil, dats_shaped gj, rfl, _, rfl, ?_⟩
        have eqe : PyData.eqv (.list (js.map dat)) (.list []) = decide (js = []) := dats_eqv js []
        rw [eqe]
        by_cases ej : js = []
        · rw [decide_eq_true ej]
          refine iteT ?_
          refine Qp _ true (sB.trans (sC.trans s6)) ⟨fun _ => ?_, fun _ _ _ => rfl⟩
          rw [← cm]
          exact Der.step hkS hek (hn ej)
        · rw [decide_eq_false ej]
          refine iteF ?_
          exact next _ _ _ _ (sC.trans s6) fun _ => hne ej
      · rw [decide_eq_false (fun z => cm (by injection z))]
        refine iteF ?_
        refine iteF ?_
        exact next _ _ _ _ (fun _ _ e => e) fun z => absurd z cm
    · rintro σ H3 ⟨y4, y5, y6, rfl, s3, hz3⟩
      have el : (ps.map V.ref).length = (ends k).length := by rw [List.length_map]; exact paired_len b1
      rw [el, List.take_length] at hz3
      refine ⟨_, _, _, _, rfl, sA.trans s3, fun k' hk' => ?_⟩
      rw [take_snoc hk] at hk'
      rcases List.mem_append.mp hk' with w | w
      · exact hz k' w
      · rw [List.mem_singleton.mp w]; exact hz3
  · rintro σ H1 ⟨x3, x4, x5, x6, rfl, s1, hz⟩
    rw [eu, List.take_length] at hz
    refine Qp H1 false s1 ⟨fun z => (by cases z), fun n' d hi => ?_⟩
    obtain ⟨k, hk, e, he, em, hall⟩ := d
    obtain ⟨j, hj, says⟩ := hz k hk e he em
    exact says.2 n' (hall j hj) hi
theorem all_lhad (c : LClo Tk Ms) (G : Glo K mg o1) (D : Fnc K mg "_law_had" ["_law_there", "_law_mark", "_law_asked"] sLHad fD fdD) (F : Fnc K mg "_law_has" ["_law_there", "_law_kind_here", "_law_asked"] sHas fA fdA)
    (GE : FnOk P w K mg base CX0 8 fE fdE ["_law_kind_here"] (spEnds 8)) (bE : Binds K fdE ["_law_kind_here"] []) (kE : PySem.W.keepIn K (.ref fE) = true) (gE : mg "_law_ends" = some (.ref fE))
    (GW : FnOk P w K mg base CX0 8 fW fdW ["_law_kind_here"] (spEnds 8)) (bW : Binds K fdW ["_law_kind_here"] []) (kW : PySem.W.keepIn K (.ref fW) = true) (gW : mg "_law_ways" = some (.ref fW)) :
    ∀ n, FnOk P w K mg base CX0 (2 * n + 10) fD fdD ["_law_there", "_law_mark", "_law_asked"] (spLHad Tk Ms n)
  | 0 => D.F.ok scLHad (fun vs H Q E h => by
      obtain ⟨t, q, m, S, asked, rfl, _⟩ := h
      rfl) (fun cdv A outer s H vs Q E hr h => by
      obtain ⟨t, q, m, S, asked, rfl, _, _, _, _, hnu, _⟩ := h
      exact absurd hnu (Nat.not_lt_zero _))
  | n + 1 => by
    have ih := all_lhad c G D F GE bE kE gE GW bW kW gW n
    have a1 := ok_lhas c (by omega) F G GE bE kE gE D ih
    have a2 := ok_lhad c (by omega) D G GW bW kW gW F a1
    exact a2
end
end KF
/-! The law's pool of numbers. -/
namespace KF
open PySem PySem.Spec PyProof.Rows L2

/-- all else stays -/
def SameP (a : Addr) (H H' : Hp) : Prop := ∀ b o, b ≠ a → H b = some o → H' b = some o
theorem SameP.refl (a : Addr) (H : Hp) : SameP a H H := fun _ _ _ e => e
theorem SameP.of {a : Addr} {H H' : Hp} (s : Same H H') : SameP a H H' := fun b o _ e => s b o e
theorem SameP.trans {a : Addr} {H H1 H2 : Hp} (x : SameP a H H1) (y : SameP a H1 H2) : SameP a H H2 := fun b o n e => y b o n (x b o n e)
theorem SameP.updN {a b : Addr} {H H' : Hp} {o : HO} (x : SameP a H H') (h : H b = none) : SameP a H (L2.upd H' b o) := fun c u n e => by
  rw [upd_ne (ne_of_none e h)]
  exact x c u n e
theorem SameP.updA {a : Addr} {H H' : Hp} {o : HO} (x : SameP a H H') : SameP a H (L2.upd H' a o) := fun c u n e => by
  rw [upd_ne n]
  exact x c u n e
/-- the pool: a great number, a small one -/
def PoolAt (H : Hp) (a : Addr) : Prop := ∃ c d : Int, H a = some (.lst [.int c, .int d]) ∧ 0 ≤ c ∧ 0 ≤ d ∧ d < 2147483647
theorem PoolAt.same {H H' : Hp} {a : Addr} (s : Same H H') (h : PoolAt H a) : PoolAt H' a := let ⟨c, d, e, x⟩ := h; ⟨c, d, s _ _ e, x⟩
theorem PoolAt.updN {H : Hp} {a b : Addr} {o : HO} (h : PoolAt H a) (n : a ≠ b) : PoolAt (L2.upd H b o) a := let ⟨c, d, e, x⟩ := h; ⟨c, d, by rw [upd_ne n]; exact e, x⟩
theorem PoolAt.ne {H : Hp} {a b : Addr} (h : PoolAt H a) (hb : H b = none) : a ≠ b := let ⟨c, d, e, _⟩ := h; ne_of_none e hb
theorem PoolAt.neT {H : Hp} {a b : Addr} {xs : List V} (h : PoolAt H a) (hb : H b = some (.tup xs)) : b ≠ a := let ⟨c, d, e, _⟩ := h; ne_of hb e (by intro z; cases z)
theorem KAt.sameP {H H' : Hp} {a : Addr} (hp : PoolAt H a) (s : SameP a H H') {k : Kd} {b : Addr} (h : KAt H k b) : KAt H' k b := h.mono fun c xs e => s c _ (hp.neT e) e

def spPool (K : PySem.W.Frag) : Sp := fun vs H Q _ => ∃ (sA : Addr) (ns : List Int) (k : Int), vs = [.ref sA, .int k] ∧ SqL K H sA (ns.map V.int) ∧ 0 ≤ k ∧ k ≤ 63 ∧ ∀ (H' : Hp) (a : Addr), Same H H' → H a = none → PoolAt H' a → Q (.ref a) H'
def spTake : Sp := fun vs H Q _ => ∃ (a : Addr) (n : Int), vs = [.ref a, .int n] ∧ PoolAt H a ∧ 0 < n ∧ n < 1073741824 ∧ ∀ (H' : Hp) (r : Int), SameP a H H' → PoolAt H' a → 0 ≤ r → r < n → Q (.int r) H'
theorem numb (c : Int) {z : Int} (h0 : 0 ≤ z) (h1 : z ≤ 104729 * 63 * 63) : (c % 2147483629 + z + 11).natAbs < 2 ^ 64 := by omega
theorem modM (x : Int) : 0 ≤ x % 2147483647 ∧ x % 2147483647 < 2147483647 := by omega
section
variable {P : Program} {w : World} {K : PySem.W.Frag} {mg : Str → Option Value} {base : Heap} {o1 f : Addr} {fd : FuncData}
theorem ok_pool (F : Fnc K mg "_law_pool" ["_law_script", "_law_k"] sPool f fd) (G : Glo K mg o1) : FnOk P w K mg base CX0 1 f fd ["_law_script", "_law_k"] (spPool K) := by
  refine F.F.ok scPool (fun vs H Q E h => ?_) (fun cdv A outer s H vs Q E hr h => ?_)
  · obtain ⟨sA, ns, k, rfl, _⟩ := h
    rfl
  obtain ⟨sA, ns, k, rfl, hS, hk0, hk1, q⟩ := h
  refine ⟨_, pss_cons (ps_set (i := 2) scPool.nd rfl (.inl rfl) pe_int)
    (pss_cons (ps_if (pt_cmpR op_lt (pv 1) (pe_callB call_len_seq rfl G.len bo_len (pa_cons (pv 0) pa_nil)) (nomark _)) (pss_one (ps_set (i := 2) scPool.nd rfl (.inl rfl) (pe_ix ix_list (pv 0) (pv 1) (fun _ _ => rfl)))) pss_nil)
    (pss_cons (ps_set (i := 3) scPool.nd rfl (.inl rfl) (pe_op op_mod (pe_op op_pow (pe_op op_add (pe_op op_add (pe_op op_mod (pv 2) pe_int) (pe_op op_mul (pe_op op_mul pe_int (pv 1)) (pv 1))) pe_int) pe_int) pe_int))
    (pss_cons (ps_if (pt_cmpR op_lt (pv 2) (pe_op op_pow pe_int pe_int) (nomark _)) (pss_one (ps_set (i := 2) scPool.nd rfl (.inl rfl) pe_int)) pss_nil)
    (pss_one (ps_ret (pe_lst (pa_cons (pv 2) (pa_cons (pv 3) pa_nil)))))))), ?_⟩
  refine ⟨.int k, rfl, .ref sA, rfl, sA, _, rfl, .inl hS, _, _, rfl, rfl, _, rfl, ?_⟩
  have hp1 : 0 ≤ 104729 * k * k ∧ 104729 * k * k ≤ 104729 * 63 * 63 := by
    have h0 : 0 ≤ 104729 * k := by omega
    have h1 : 104729 * k ≤ 104729 * 63 := by omega
    exact ⟨Int.mul_nonneg h0 hk0, Int.mul_le_mul h1 hk1 hk0 (by decide)⟩
  refine ite2 (fun e => ?_) (fun e => ?_)
  rotate_left
  all_goals first
    | (have hlt : k < ((ns.map V.int).length : Int) := of_decide_eq_true e
       rw [List.length_map] at hlt
       obtain ⟨j, rfl⟩ := Int.eq_ofNat_of_zero_le hk0
       have hj : j < ns.length := by omega
       refine ⟨.ref sA, rfl, .int j, rfl, sA, _, j, .int ns[j], rfl, rfl, hS, atI_nat (j := j) (by rw [List.getElem?_map, List.getElem?_eq_getElem hj]; rfl), ?_⟩)
    | skip
  all_goals
    refine ⟨.int _, rfl, _, _, rfl, rfl, (by show (0 : Int) < 2147483629; decide), .int _, rfl, _, _, rfl, rfl, .inl ⟨by decide, by decide⟩, .int _, rfl, _, _, rfl, rfl, .inr ⟨by omega, by omega⟩, _, _, rfl, rfl, _, _, rfl, rfl, _, _, rfl, rfl, ⟨by decide, by decide, numb _ hp1.1 hp1.2⟩, _, _, rfl, rfl, (by show (0 : Int) < 2147483647; decide), ?_⟩
  all_goals
    refine ⟨.int _, rfl, _, _, rfl, rfl, ⟨by decide, by decide, by decide⟩, _, _, rfl, rfl, _, rfl, ?_⟩
    refine ite2 (fun e2 => ?_) (fun e2 => ?_)
  all_goals first
    | exact ⟨.int 0, rfl, .int _, rfl, ln2, fun p hp => q _ p (same_new hp _) hp ⟨0, _, upd_same, by decide, (modM _).1, (modM _).2⟩⟩
    | exact ⟨.int _, rfl, .int _, rfl, ln2, fun p hp => q _ p (same_new hp _) hp ⟨_, _, upd_same, by
        have e3 := of_decide_eq_false (Bool.eq_false_iff.mpr e2)
        have e4 : (10 : Int) ^ (Int.toNat 18) = 1000000000000000000 := by decide
        rw [e4] at e3
        omega, (modM _).1, (modM _).2⟩⟩
theorem ok_take (F : Fnc K mg "_law_take" ["_law_pool_here", "_law_many"] sTake f fd) : FnOk P w K mg base CX0 1 f fd ["_law_pool_here", "_law_many"] spTake := by
  refine F.F.ok scTake (fun vs H Q E h => ?_) (fun cdv A outer s H vs Q E hr h => ?_)
  · obtain ⟨a, n, rfl, _⟩ := h
    rfl
  obtain ⟨a, n, rfl, ⟨c, d, ha, hc, hd0, hd1⟩, hn0, hn1, q⟩ := h
  refine ⟨_, pss_cons (ps_if (pt_cmpR op_gt (pe_ix ix_list (pv 0) pe_int (fun _ _ => rfl)) pe_int (nomark _)) (pss_cons (ps_set (i := 2) scTake.nd rfl (.inl rfl) (pe_op op_mod (pe_ix ix_list (pv 0) pe_int (fun _ _ => rfl)) (pv 1)))
      (pss_cons (ps_asg (pe_op op_fdiv (pe_ix ix_list (pv 0) pe_int (fun _ _ => rfl)) (pv 1)) (pg_sub (pv 0) pe_int set_list)) (pss_one (ps_ret (pv 2))))) pss_nil)
    (pss_cons (ps_asg (pe_op op_mod (pe_op op_add (pe_op op_mul (pe_ix ix_list (pv 0) pe_int (fun _ _ => rfl)) pe_int) pe_int) pe_int) (pg_sub (pv 0) pe_int set_list))
    (pss_one (ps_ret (pe_op op_mod (pe_op op_fdiv (pe_op op_mod (pe_op op_mul (pe_ix ix_list (pv 0) pe_int (fun _ _ => rfl)) (pe_ix ix_list (pv 0) pe_int (fun _ _ => rfl))) pe_int) pe_int) (pv 1))))), ?_⟩
  have mn : ∀ x : Int, 0 ≤ x % n ∧ x % n < n := fun x => ⟨Int.emod_nonneg _ (by omega), Int.emod_lt_of_pos _ hn0⟩
  refine ⟨.ref a, rfl, a, _, 0, .int c, rfl, rfl, SqL.of ha, rfl, _, _, rfl, rfl, _, rfl, ?_⟩
  refine ite2 (fun e => ?_) (fun e => ?_)
  · refine ⟨.ref a, rfl, a, _, 0, .int c, rfl, rfl, SqL.of ha, rfl, .int n, rfl, _, _, rfl, rfl, hn0, ?_⟩
    refine ⟨.ref a, rfl, a, _, 0, .int c, rfl, rfl, SqL.of ha, rfl, .int n, rfl, _, _, rfl, rfl, ⟨hn0, hn1⟩, .ref a, rfl, a, _, 0, 0, rfl, rfl, ha, rfl, ?_⟩
    refine ⟨.int (c % n), rfl, q _ _ (SameP.refl a H).updA ⟨c / n, d, upd_same, Int.ediv_nonneg hc (by omega), hd0, hd1⟩ (mn c).1 (mn c).2⟩
  · refine ⟨.ref a, rfl, a, _, 1, .int d, rfl, rfl, SqL.of ha, rfl, _, _, rfl, rfl, .inl ⟨by omega, by omega⟩, _, _, rfl, rfl, _, _, rfl, rfl, (by show (0 : Int) < 2147483647; decide), .ref a, rfl, a, _, 1, 1, rfl, rfl, ha, rfl, ?_⟩
    obtain ⟨m0, m1⟩ := modM (d * 48271 + 11)
    obtain ⟨d2, hd2⟩ : ∃ d2 : Int, d2 = (d * 48271 + 11) % 2147483647 := ⟨_, rfl⟩
    have h2 : (L2.upd H a (.lst [.int c, .int ((d * 48271 + 11) % 2147483647)])) a = some (.lst [.int c, .int d2]) := by rw [hd2]; exact upd_same
    rw [← hd2] at m0 m1
    have P2 : PoolAt (L2.upd H a (.lst [.int c, .int ((d * 48271 + 11) % 2147483647)])) a := ⟨c, d2, h2, hc, m0, m1⟩
    have S2 : SameP a H (L2.upd H a (.lst [.int c, .int ((d * 48271 + 11) % 2147483647)])) := (SameP.refl a H).updA
    refine ⟨.ref a, rfl, a, _, 1, .int d2, rfl, rfl, SqL.of h2, rfl, .ref a, rfl, a, _, 1, .int d2, rfl, rfl, SqL.of h2, rfl, _, _, rfl, rfl, .inl ⟨by omega, by omega⟩, _, _, rfl, rfl, (by show (0 : Int) < 2147483629; decide), _, _, rfl, rfl, ⟨by decide, by decide⟩, .int n, rfl, _, _, rfl, rfl, hn0, ?_⟩
    exact q _ _ S2 P2 (mn _).1 (mn _).2
end
end KF
/-! The law's marks. -/
namespace KF
open PySem PySem.Spec PyProof.Rows L2
open TL (joinL tl_join join_eq tl len_tl)

abbrev sAbc : Str := "abcdefghijklmnopqrstuvwxyz"
theorem abc_len : sAbc.cps.toList.length = 26 := by decide +kernel
theorem abc_ok : ∀ c ∈ sAbc.cps.toList, 97 ≤ c ∧ c ≤ 122 := by decide +kernel
def Let (y : Str) : Prop := ∃ c : Nat, y = ⟨#[c]⟩ ∧ 97 ≤ c ∧ c ≤ 122
theorem joinL_let : ∀ ys : List Str, (∀ y ∈ ys, Let y) → (joinL [] (ys.map tl)).length = ys.length ∧ ∀ c ∈ joinL [] (ys.map tl), 97 ≤ c ∧ c ≤ 122
  | [], _ => ⟨rfl, fun _ h => (by cases h)⟩
  | [y], h => by
    obtain ⟨c, rfl, h1, h2⟩ := h y List.mem_cons_self
    exact ⟨rfl, fun d hd => by rw [List.mem_singleton.mp (show d ∈ [c] from hd)]; exact ⟨h1, h2⟩⟩
  | y :: z :: r, h => by
    obtain ⟨c, rfl, h1, h2⟩ := h y List.mem_cons_self
    obtain ⟨g1, g2⟩ := joinL_let (z :: r) fun x hx => h x (List.mem_cons_of_mem _ hx)
    refine ⟨?_, fun d hd => ?_⟩
    · show (c :: joinL [] ((z :: r).map tl)).length = (z :: r).length + 1
      rw [List.length_cons, g1]
    · rcases List.mem_cons.mp (show d ∈ c :: joinL [] ((z :: r).map tl) from hd) with e | hd
      · rw [e]; exact ⟨h1, h2⟩
      · exact g2 d hd
theorem mark_ok {ys : List Str} (h : ∀ y ∈ ys, Let y) (h0 : 1 ≤ ys.length) (h6 : ys.length ≤ 6) : Wf (.mk (Txt.join "" ys)) := by
  have e : (Txt.join "" ys).cps.toList = joinL [] (ys.map tl) := by
    rw [join_eq]
    exact tl_join "" ys
  obtain ⟨g1, g2⟩ := joinL_let ys h
  rw [← e] at g1 g2
  refine ⟨⟨fun z => ?_, g2⟩, ?_⟩
  · rw [z] at g1
    simp at g1
    omega
  · rw [len_tl]
    show (Txt.join "" ys).cps.toList.length ≤ 6
    omega
theorem let_len {y : Str} (h : Let y) : y.length = 1 := by
  obtain ⟨c, rfl, _⟩ := h
  rfl
theorem let_sum : ∀ ys : List Str, (∀ y ∈ ys, Let y) → (ys.map (·.length)).sum = ys.length
  | [], _ => rfl
  | y :: r, h => by
    rw [List.map_cons, List.sum_cons, let_len (h y List.mem_cons_self), let_sum r fun x hx => h x (List.mem_cons_of_mem _ hx), List.length_cons]
    omega
theorem bo_range : bootBuiltins "range" = some (.type "range") := by decide +kernel
theorem bo_int : bootBuiltins "int" = some (.type "int") := by decide +kernel

def spMarks : Sp := fun vs H Q _ => ∃ a : Addr, vs = [.ref a] ∧ PoolAt H a ∧ ∀ (H' : Hp) (l : Addr) (ms : List Str), SameP a H H' → PoolAt H' a → H l = none → H' l = some (.lst (ms.map V.str)) → 1 ≤ ms.length → ms.length ≤ 4 → (∀ m ∈ ms, Wf (.mk m)) → Q (.ref l) H'
section
variable {P : Program} {w : World} {K : PySem.W.Frag} {mg : Str → Option Value} {base : Heap} {o1 f fT : Addr} {fd fdT : FuncData}
theorem ok_marks (F : Fnc K mg "_law_marks" ["_law_pool_here"] sMarks f fd) (G : Glo K mg o1) (T : Fnc K mg "_law_take" ["_law_pool_here", "_law_many"] sTake fT fdT) (GT : FnOk P w K mg base CX0 1 fT fdT ["_law_pool_here", "_law_many"] spTake) :
    FnOk P w K mg base CX0 2 f fd ["_law_pool_here"] spMarks := by
  refine F.F.ok scMarks (fun vs H Q E h => ?_) (fun cdv A outer s H vs Q E hr h => ?_)
  · obtain ⟨a, rfl, _⟩ := h
    rfl
  obtain ⟨a, rfl, hp, q⟩ := h
  refine ⟨_, pss_cons (ps_set (i := 1) scMarks.nd rfl (.inl rfl) (pe_op op_add pe_int (pe_call GT hr rfl T.g T.F.kp T.b .nil pass0 (pa_cons (pv 0) (pa_cons pe_int pa_nil)))))
    (pss_cons (ps_set (i := 2) scMarks.nd rfl (.inr rfl) (pe_call GT hr rfl T.g T.F.kp T.b .nil pass0 (pa_cons (pv 0) (pa_cons (pv 1) pa_nil))))
    (pss_cons (ps_set (i := 3) scMarks.nd rfl (.inr rfl) (pe_lc (own := [("_law_j", 7)]) (g := gName 7) (tt := tYes) (te := tCall spTake [] E0 (tCons (tVar 0) (tCons (tC (.int 26)) tNil))) rfl scMarks.nd (pi_range1 rfl G.range (pa_cons (pv 1) pa_nil))
        (blkOk_by (N := nMarks) (sc := defScope sMarks) (by decide +kernel)) (fun _ _ _ _ _ => pg_name (i := 7) scMarks.nd rfl (.inl rfl)) (fun _ _ _ _ _ => pts_nil) (fun _ _ _ _ _ => pe_call GT hr rfl T.g T.F.kp T.b .nil pass0 (pa_cons (pv 0) (pa_cons pe_int pa_nil)))))
    (pss_cons (ps_set (i := 4) scMarks.nd rfl (.inl rfl) (pe_lst pa_nil))
    (pss_cons (ps_for PassesOwn.never rfl (pi_range1 rfl G.range (pa_cons (pe_op op_add pe_int (pe_call GT hr rfl T.g T.F.kp T.b .nil pass0 (pa_cons (pv 0) (pa_cons pe_int pa_nil)))) pa_nil)) (pg_name (i := 5) scMarks.nd rfl (.inr rfl))
      (pss_cons (ps_setLc (i := 6) (own := [("_law_j", 7)]) (g := gName 7) (tt := tYes) rfl scMarks.nd rfl rfl (sw_true rfl rfl rfl (by decide +kernel)) (pi_range1 rfl G.range (pa_cons (pv 1) pa_nil))
          (blkOk_by (N := nMarks) (sc := defScope sMarks) (by decide +kernel)) (fun _ _ _ _ _ => pg_name (i := 7) scMarks.nd rfl (.inl rfl)) (fun _ _ _ _ _ => pts_nil)
          (fun _ _ _ _ _ => pe_op op_mod (pe_op op_add (pe_ix (r := rIxL K) ix_list (pv 3) (pv 7) (fun _ _ => rfl)) (pe_op op_mul (pe_op op_mul pe_int (pv 5)) (pe_callTy call_int1 rfl G.int bo_int (pa_cons (pe_cmpR op_eq (pv 7) (pv 2) (nomark _)) pa_nil)))) pe_int))
      (pss_one (ps_expr (pe_bm PySem.F.plainAttrs_list PySem.F.slot_list_append PySem.F.type_list_append mt_append (pv 4) (pa_cons (pe_join pe_str
          (pe_lc (own := [("_law_place", 8)]) (g := gName 8) (tt := tYes) rfl scMarks.nd (pi_list (pv 6)) (blkOk_by (N := nMarks) (sc := defScope sMarks) (by decide +kernel)) (fun _ _ _ _ _ => pg_name (i := 8) scMarks.nd rfl (.inl rfl)) (fun _ _ _ _ _ => pts_nil)
            (fun _ _ _ _ _ => pe_ix (r := rIxS) ix_str pe_str (pv 8) (fun _ _ => rfl)))) pa_nil))))))
    (pss_one (ps_ret (pv 4))))))), ?_⟩
  -- size = 1 + take(pool, 6)
  refine ⟨.ref a, rfl, a, 6, rfl, hp, by decide, by decide, fun H1 r1 s1 p1 r10 r11 => ⟨_, _, rfl, rfl, ?_⟩⟩
  -- at = take(pool, size)
  refine ⟨.ref a, rfl, .int (1 + r1), rfl, a, 1 + r1, rfl, p1, by omega, by omega, fun H2 r2 s2 p2 r20 r21 => ?_⟩
  have sA := s1.trans s2
  -- signs = [..]
  refine ⟨.int (1 + r1), rfl, 1 + r1, rfl, by omega, by omega, fun D hD => ?_⟩
  have nD := p2.ne hD
  have hD0 : H D = none := by
    cases e : H D with
    | none => rfl
    | some o => rw [sA D o nD.symm e] at hD; cases hD
  have sz6 : (1 + r1).toNat ≤ 6 ∧ 1 ≤ (1 + r1).toNat := by omega
  generalize hsz : (1 + r1).toNat = sz at sz6
  refine lc_range (lo := 0) (n := sz) (fun i H' => SameP a H2 H' ∧ PoolAt H' a ∧ ∃ zs : List Int, H' D = some (.lst (zs.map V.int)) ∧ zs.length = i ∧ ∀ z ∈ zs, 0 ≤ z ∧ z < 26)
    ⟨(SameP.refl a H2).updN hD, p2.updN nD, [], upd_same, rfl, fun _ h => (by cases h)⟩ (fun i H3 hi h => ?_) fun H3 h => ?_
  · obtain ⟨s3, p3, zs, hz, lz, bz⟩ := h
    refine ⟨rfl, .ref a, rfl, a, 26, rfl, p3, by decide, by decide, fun H4 r s4 p4 r0 r1 => ?_⟩
    have hz4 := s4 _ _ nD.symm hz
    refine ⟨_, hz4, by rw [List.length_map]; exact small1000 (by omega), (s3.trans s4).updN hD, p4.updN nD, zs ++ [r], by rw [upd_same, List.map_append]; rfl, by rw [List.length_append, lz]; rfl, fun z hz => ?_⟩
    rcases List.mem_append.mp hz with w | w
    · exact bz z w
    · rw [List.mem_singleton.mp w]; exact ⟨r0, r1⟩
  obtain ⟨s3, p3, zs, hz, lz, bz⟩ := h
  have sB := sA.trans s3
  -- found = []
  refine ⟨Nat.zero_le _, fun L hL => ?_⟩
  have nL := p3.ne hL
  have hL0 : H L = none := by
    cases e : H L with
    | none => rfl
    | some o => rw [sB L o nL.symm e] at hL; cases hL
  have s4 := same_new hL (.lst [])
  have nDL : D ≠ L := ne_of_none hz hL
  -- for k in range(1 + take(pool, 4))
  refine ⟨.ref a, rfl, a, 4, rfl, p3.same s4, by decide, by decide, fun H5 r5 s5 p5 r50 r51 => ⟨_, _, rfl, rfl, ?_⟩⟩
  have hz5 := s5 _ _ nD.symm (s4 _ _ hz)
  have hL5 := s5 _ _ nL.symm (upd_same (H := H3) (a := L) (o := .lst []))
  have sC : SameP a H H5 := (sB.trans (SameP.of s4)).trans s5
  refine ⟨1 + r5, rfl, by omega, by omega, ?_⟩
  have n4 : (1 + r5).toNat ≤ 4 ∧ 1 ≤ (1 + r5).toNat := by omega
  generalize (1 + r5).toNat = many at n4
  refine for_range (lo := 0) (n := many) (fun i σ H' => ∃ x5 x6 x7 x8, σ = [some (.ref a), some (.int (1 + r1)), some (.int r2), some (.ref D), some (.ref L), x5, x6, x7, x8] ∧ SameP a H H' ∧ PoolAt H' a ∧ H' D = some (.lst (zs.map V.int)) ∧ ∃ ms : List Str, H' L = some (.lst (ms.map V.str)) ∧ ms.length = i ∧ ∀ m ∈ ms, Wf (.mk m))
    ⟨none, none, none, none, rfl, sC, p5, hz5, [], hL5, rfl, fun _ h => (by cases h)⟩ ?_ ?_
  · rintro i σ H6 hi ⟨x5, x6, x7, x8, rfl, s6, p6, hz6, ms, hm6, lm, bm⟩
    -- places = [..]
    refine ⟨.int (1 + r1), rfl, 1 + r1, rfl, by omega, by omega, fun E hE => ?_⟩
    have nE := p6.ne hE
    have nDE : D ≠ E := ne_of_none hz6 hE
    have nLE : L ≠ E := ne_of_none hm6 hE
    rw [hsz]
    refine lc_range (lo := 0) (n := sz) (fun j H' => SameP a H6 H' ∧ PoolAt H' a ∧ ∃ ps : List Int, H' E = some (.lst (ps.map V.int)) ∧ ps.length = j ∧ ∀ z ∈ ps, 0 ≤ z ∧ z < 26)
      ⟨(SameP.refl a H6).updN hE, p6.updN nE, [], upd_same, rfl, fun _ h => (by cases h)⟩ (fun j H7 hj h => ?_) fun H7 h => ?_
    · obtain ⟨s7, p7, ps, hp7, lp, bp⟩ := h
      have hz7 := s7 _ _ nD.symm hz6
      have hjz : j < zs.length := by omega
      refine ⟨rfl, .ref D, rfl, .int (0 + j), rfl, D, _, 0 + j, .int zs[j], rfl, rfl, SqL.of hz7, by rw [Int.zero_add]; exact atI_nat (j := j) (by rw [List.getElem?_map, List.getElem?_eq_getElem hjz]; rfl), ?_⟩
      refine ⟨.int (0 + i), rfl, _, _, rfl, rfl, .inl ⟨by decide, by decide⟩, .int (0 + j), rfl, .int r2, rfl, rfl, .inr ⟨_, rfl, _, _, rfl, rfl, .inr ?_, _, _, rfl, rfl, _, _, rfl, rfl, (by show (0 : Int) < 26; decide), ?_⟩⟩
      · split <;> exact ⟨by decide, by decide⟩
      refine ⟨_, hp7, by rw [List.length_map]; exact small1000 (by omega), s7.updN hE, p7.updN nE, ps ++ [_], by rw [upd_same, List.map_append]; rfl, by rw [List.length_append, lp]; rfl, fun z hz => ?_⟩
      rcases List.mem_append.mp hz with w | w
      · exact bp z w
      · rw [List.mem_singleton.mp w]
        exact ⟨Int.emod_nonneg _ (by decide), Int.emod_lt_of_pos _ (by decide)⟩
    obtain ⟨s7, p7, ps, hp7, lp, bp⟩ := h
    have hm7 := s7 _ _ nL.symm hm6
    have hz7 := s7 _ _ nD.symm hz6
    have s07 := s6.trans s7
    -- found.append(''.join([..]))
    refine ⟨.ref L, rfl, .inl ⟨rfl, _, SqL.of hm7⟩, ⟨_, rfl⟩, .ref E, rfl, E, rfl, ⟨_, SqL.of hp7⟩, fun B hB => ?_⟩
    have nB := p7.ne hB
    refine lc_list (K := K) (a := E) (xs := ps.map V.int) (fun j H' => Same H7 (hide B H') ∧ ∃ ys : List Str, H' B = some (.lst (ys.map V.str)) ∧ ys.length = j ∧ ∀ y ∈ ys, Let y)
      ⟨same_hide hB (same_new hB _), [], upd_same, rfl, fun _ h => (by cases h)⟩ (fun j H' _ h => SqL.of (hide_same B H' _ _ (h.1 _ _ hp7))) (fun j v H8 hv h => ?_) fun H8 h => ?_
    · obtain ⟨s8, ys, hy, ly, by'⟩ := h
      obtain ⟨z, hz, rfl⟩ : ∃ z, ps[j]? = some z ∧ v = .int z := by
        rw [List.getElem?_map] at hv
        cases e : ps[j]? with
        | none => rw [e] at hv; cases hv
        | some k => rw [e] at hv; exact ⟨k, rfl, (Option.some.inj hv).symm⟩
      obtain ⟨z0, z1⟩ := bp z (List.mem_of_getElem? hz)
      have hjp : j < ps.length := (List.getElem?_eq_some_iff.mp hz).1
      obtain ⟨n, rfl⟩ := Int.eq_ofNat_of_zero_le z0
      have hn : n < sAbc.cps.toList.length := by rw [abc_len]; omega
      refine ⟨rfl, .int (n : Int), rfl, sAbc, (n : Int), sAbc.cps.toList[n], rfl, rfl, ?_, atI_nat (j := n) (List.getElem?_eq_getElem hn), ?_⟩
      · rw [len_tl]
        show sAbc.cps.toList.length ≤ sizeLine
        rw [abc_len]
        exact line_big (by decide)
      refine ⟨_, hy, by rw [List.length_map]; exact small1000 (by omega), ?_⟩
      rw [hide_upd]
      refine ⟨s8, ys ++ [⟨#[sAbc.cps.toList[n]]⟩], by rw [upd_same, List.map_append]; rfl, by rw [List.length_append, ly]; rfl, fun y hy' => ?_⟩
      rcases List.mem_append.mp hy' with w | w
      · exact by' y w
      · rw [List.mem_singleton.mp w]
        exact ⟨_, rfl, abc_ok _ (List.getElem_mem hn)⟩
    obtain ⟨s8, ys, hy, ly, by'⟩ := h
    rw [List.length_map] at ly
    have s78 : Same H7 H8 := s8.trans (hide_same B H8)
    have hm8 := s78 _ _ hm7
    refine ⟨"", B, ys, rfl, rfl, .inl (SqL.of hy), ?_, ?_⟩
    · rw [let_sum ys by']
      show ys.length + ys.length * 0 ≤ 16777216
      omega
    refine ⟨L, _, _, rfl, rfl, hm8, by rw [List.length_map]; exact small1000 (by omega), ?_⟩
    refine ⟨_, _, _, _, rfl, (s07.trans (SameP.of s78)).updN hL0, (p7.same s78).updN nL, by rw [upd_ne nDL]; exact s78 _ _ hz7, ms ++ [Txt.join "" ys], by rw [upd_same, List.map_append]; rfl, by rw [List.length_append, lm]; rfl, fun m hm => ?_⟩
    rcases List.mem_append.mp hm with w | w
    · exact bm m w
    · rw [List.mem_singleton.mp w]
      exact mark_ok by' (by omega) (by omega)
  · rintro σ H6 ⟨x5, x6, x7, x8, rfl, s6, p6, hz6, ms, hm6, lm, bm⟩
    exact ⟨.ref L, rfl, q H6 L ms s6 p6 hL0 hm6 (by omega) (by omega) bm⟩
end
end KF
/-! The law's kinds and its row. -/
namespace KF
open PySem PySem.Spec PyProof.Rows L2

/-- marks that stand as a list at l -/
structure MsAt (H : Hp) (l : Addr) (ms : List Str) : Prop where
  at_ : H l = some (.lst (ms.map V.str))
  lo : 1 ≤ ms.length
  hi : ms.length ≤ 4
  ok : ∀ m ∈ ms, Wf (.mk m)
theorem MsAt.ne {H : Hp} {l a : Addr} {ms : List Str} (h : MsAt H l ms) (p : PoolAt H a) : l ≠ a := by
  rintro rfl
  obtain ⟨c, d, e, _⟩ := p
  rw [h.at_] at e
  have e := HO.lst.inj (Option.some.inj e)
  cases ms with
  | nil => cases e
  | cons m r => cases (List.cons.inj e).1
theorem MsAt.sameP {H H' : Hp} {l a : Addr} {ms : List Str} (h : MsAt H l ms) (p : PoolAt H a) (s : SameP a H H') : MsAt H' l ms := ⟨s _ _ (h.ne p) h.at_, h.lo, h.hi, h.ok⟩
theorem MsAt.same {H H' : Hp} {l : Addr} {ms : List Str} (h : MsAt H l ms) (s : Same H H') : MsAt H' l ms := ⟨s _ _ h.at_, h.lo, h.hi, h.ok⟩

def spKind (n : Nat) : Sp := fun vs H Q _ => ∃ (a l : Addr) (L : Nat) (ms : List Str), vs = [.ref a, .int L, .ref l] ∧ PoolAt H a ∧ MsAt H l ms ∧ 1 ≤ L ∧ L ≤ n ∧ L ≤ 8 ∧
  ∀ (H' : Hp) (b : Addr) (k : Kd), SameP a H H' → PoolAt H' a → KAt H' k b → leaves k = L → Wf k → Over ms k → Q (.ref b) H'
def spRow : Sp := fun vs H Q _ => ∃ (a l : Addr) (ms : List Str), vs = [.ref a, .ref l, .int 4] ∧ PoolAt H a ∧ MsAt H l ms ∧
  ∀ (H' : Hp) (R : Addr) (ps : List Addr) (ks : List Kd), SameP a H H' → PoolAt H' a → H' R = some (.lst (ps.map V.ref)) → Paired (RwAt H') ps ks → (ks.map leaves).sum ≤ 4 → (∀ j ∈ ks, Wf j ∧ Over ms j) → Q (.ref R) H'
section
variable {P : Program} {w : World} {K : PySem.W.Frag} {mg : Str → Option Value} {base : Heap} {o1 f fT fK : Addr} {fd fdT fdK : FuncData}
theorem ok_kind {n lv : Nat} (h1 : 1 ≤ lv) (F : Fnc K mg "_law_kind" ["_law_pool_here", "_law_leaves", "_law_marks_here"] sKind f fd) (G : Glo K mg o1) (T : Fnc K mg "_law_take" ["_law_pool_here", "_law_many"] sTake fT fdT) (GT : FnOk P w K mg base CX0 1 fT fdT ["_law_pool_here", "_law_many"] spTake)
    (GK : FnOk P w K mg base CX0 lv f fd ["_law_pool_here", "_law_leaves", "_law_marks_here"] (spKind n)) : FnOk P w K mg base CX0 (lv + 1) f fd ["_law_pool_here", "_law_leaves", "_law_marks_here"] (spKind (n + 1)) := by
  refine F.F.ok scKind (fun vs H Q E h => ?_) (fun cdv A outer s H vs Q E hr h => ?_)
  · obtain ⟨a, l, L, ms, rfl, _⟩ := h
    rfl
  obtain ⟨a, l, L, ms, rfl, hp, hm, hL1, hLn, hL8, q⟩ := h
  refine ⟨_, pss_cons (ps_if (pt_cmpR op_eq (pv 1) pe_int (nomark _))
      (pss_cons (ps_if (pt_cmpR op_eq (pe_call GT (hr.mono h1) rfl T.g T.F.kp T.b .nil pass0 (pa_cons (pv 0) (pa_cons pe_int pa_nil))) pe_int (nomark _)) (pss_one (ps_ret (pe_tup (pa_cons pe_str pa_nil)))) pss_nil)
      (pss_one (ps_ret (pe_tup (pa_cons pe_str (pa_cons (pe_ix ix_list (pv 2) (pe_call GT (hr.mono h1) rfl T.g T.F.kp T.b .nil pass0 (pa_cons (pv 0) (pa_cons (pe_callB call_len_seq rfl G.len bo_len (pa_cons (pv 2) pa_nil)) pa_nil))) (fun _ _ => rfl)) pa_nil)))))) pss_nil)
    (pss_cons (ps_set (i := 3) scKind.nd rfl (.inl rfl) (pe_op op_add pe_int (pe_call GT (hr.mono h1) rfl T.g T.F.kp T.b .nil pass0 (pa_cons (pv 0) (pa_cons (pe_op op_sub (pv 1) pe_int) pa_nil)))))
    (pss_cons (ps_set (i := 4) scKind.nd rfl (.inl rfl) (pe_call GK hr rfl F.g F.F.kp F.b .nil pass0 (pa_cons (pv 0) (pa_cons (pv 3) (pa_cons (pv 2) pa_nil)))))
    (pss_cons (ps_set (i := 5) scKind.nd rfl (.inl rfl) (pe_call GK hr rfl F.g F.F.kp F.b .nil pass0 (pa_cons (pv 0) (pa_cons (pe_op op_sub (pv 1) (pv 3)) (pa_cons (pv 2) pa_nil)))))
    (pss_one (ps_ret (pe_tup (pa_cons (pe_ix ix_list (pe_lst (pa_cons pe_str (pa_cons pe_str (pa_cons pe_str (pa_cons pe_str pa_nil))))) (pe_call GT (hr.mono h1) rfl T.g T.F.kp T.b .nil pass0 (pa_cons (pv 0) (pa_cons pe_int pa_nil))) (fun _ _ => rfl)) (pa_cons (pv 4) (pa_cons (pv 5) pa_nil))))))))), ?_⟩
  -- leaves == 1
  refine ⟨.int L, rfl, rfl, _, rfl, ?_⟩
  refine ite2 (fun e => ?_) (fun e => ?_)
  · have e1 : (L : Int) = 1 := V.int.inj (of_decide_eq_true e)
    have eL : L = 1 := by omega
    subst eL
    refine ⟨.ref a, rfl, a, 6, rfl, hp, by decide, by decide, fun H1 r1 s1 p1 r10 r11 => ?_⟩
    refine ⟨rfl, _, rfl, ?_⟩
    refine ite2 (fun e2 => ?_) (fun e2 => ?_)
    · refine ⟨ln1, fun p hp' => ?_⟩
      have np := p1.ne hp'
      exact q _ p .one (s1.trans (SameP.of (same_new hp' _))) (p1.updN np) upd_same rfl True.intro True.intro
    · have hm1 := hm.sameP hp s1
      have l0 := hm.lo
      have l4 := hm.hi
      refine ⟨.ref l, rfl, .ref a, rfl, .ref l, rfl, l, _, rfl, .inl (SqL.of hm1.at_), a, _, rfl, p1, by rw [List.length_map]; omega, by rw [List.length_map]; omega, fun H2 r2 s2 p2 r20 r21 => ?_⟩
      have hm2 := hm1.sameP p1 s2
      obtain ⟨j, rfl⟩ := Int.eq_ofNat_of_zero_le r20
      rw [List.length_map] at r21
      have hj : j < ms.length := by omega
      refine ⟨l, _, j, .str ms[j], rfl, rfl, SqL.of hm2.at_, atI_nat (j := j) (by rw [List.getElem?_map, List.getElem?_eq_getElem hj]; rfl), ln2, fun p hp' => ?_⟩
      have np := p2.ne hp'
      have hj' : ms[j] ∈ ms := List.getElem_mem hj
      exact q _ p (.mk ms[j]) ((s1.trans s2).trans (SameP.of (same_new hp' _))) (p2.updN np) upd_same rfl (hm.ok _ hj') hj'
  · have e1 : ¬ (L : Int) = 1 := fun z => e (decide_eq_true (by rw [z]))
    -- first = 1 + take(pool, leaves - 1)
    refine ⟨.ref a, rfl, .int L, rfl, _, _, rfl, rfl, a, (L : Int) - 1, rfl, hp, by omega, by omega, fun H1 r1 s1 p1 r10 r11 => ⟨_, _, rfl, rfl, ?_⟩⟩
    obtain ⟨j, rfl⟩ := Int.eq_ofNat_of_zero_le r10
    have hm1 := hm.sameP hp s1
    -- one
    refine ⟨.ref a, rfl, .int (1 + j), rfl, .ref l, rfl, a, l, 1 + j, ms, by rw [Int.natCast_add]; rfl, p1, hm1, by omega, by omega, by omega, fun H2 b1 k1 s2 p2 q1 w1 f1 o1 => ?_⟩
    have hm2 := hm1.sameP p1 s2
    -- other
    refine ⟨.ref a, rfl, .int L, rfl, .int (1 + j), rfl, _, _, rfl, rfl, .ref l, rfl, a, l, L - (1 + j), ms, ?_, p2, hm2, by omega, by omega, by omega, fun H3 b2 k2 s3 p3 q2 w2 f2 o2 => ?_⟩
    · have : ((L - (1 + j) : Nat) : Int) = (L : Int) - (1 + (j : Int)) := by omega
      rw [this]
      rfl
    have q13 := q1.sameP p2 s3
    -- (.., one, other)
    refine ⟨by exact line_big (by decide), fun x hx => ?_⟩
    have nx := p3.ne hx
    have s4 := same_new hx (.lst [.str sTo, .str sTo, .str sTo, .str sBoth])
    have p4 := p3.same s4
    have hx4 : (L2.upd H3 x (.lst [.str sTo, .str sTo, .str sTo, .str sBoth])) x = some (.lst [.str sTo, .str sTo, .str sTo, .str sBoth]) := upd_same
    refine ⟨.ref a, rfl, a, 4, rfl, p4, by decide, by decide, fun H5 r5 s5 p5 r50 r51 => ?_⟩
    have hx5 := s5 _ _ nx.symm hx4
    have q15 := (q13.same s4).sameP p4 s5
    have q25 := (q2.same s4).sameP p4 s5
    have sA : SameP a H H5 := ((s1.trans s2).trans s3).trans ((SameP.of s4).trans s5)
    obtain ⟨i, rfl⟩ := Int.eq_ofNat_of_zero_le r50
    have hi : i < 4 := by omega
    have fin : ∀ (p : Addr) (z : Str) (k : Kd), H5 p = none → (z = sTo ∧ k = .to k1 k2 ∨ z = sBoth ∧ k = .both k1 k2) → Q (.ref p) (L2.upd H5 p (.tup [.str z, .ref b1, .ref b2])) := fun p z k hp' hz => by
      have np := p5.ne hp'
      have s6 := same_new hp' (.tup [.str z, .ref b1, .ref b2])
      rcases hz with ⟨rfl, rfl⟩ | ⟨rfl, rfl⟩
      · exact q _ p (.to k1 k2) (sA.trans (SameP.of s6)) (p5.updN np) ⟨b1, b2, upd_same, q15.same s6, q25.same s6⟩ (by show leaves k1 + leaves k2 = L; omega) ⟨f1, f2⟩ ⟨o1, o2⟩
      · exact q _ p (.both k1 k2) (sA.trans (SameP.of s6)) (p5.updN np) ⟨b1, b2, upd_same, q15.same s6, q25.same s6⟩ (by show leaves k1 + leaves k2 = L; omega) ⟨f1, f2⟩ ⟨o1, o2⟩
    have pick : ∃ z, ([V.str sTo, .str sTo, .str sTo, .str sBoth] : List V)[i]? = some (.str z) ∧ (z = sTo ∨ z = sBoth) := by
      rcases i with _ | _ | _ | _ | i
      · exact ⟨sTo, rfl, .inl rfl⟩
      · exact ⟨sTo, rfl, .inl rfl⟩
      · exact ⟨sTo, rfl, .inl rfl⟩
      · exact ⟨sBoth, rfl, .inr rfl⟩
      · omega
    obtain ⟨z, hz, hz2⟩ := pick
    refine ⟨x, _, i, .str z, rfl, rfl, SqL.of hx5, atI_nat (j := i) hz, .ref b1, rfl, .ref b2, rfl, ln3, fun p hp' => ?_⟩
    rcases hz2 with e | e
    · exact fin p z _ hp' (.inl ⟨e, rfl⟩)
    · exact fin p z _ hp' (.inr ⟨e, rfl⟩)
theorem all_kind (F : Fnc K mg "_law_kind" ["_law_pool_here", "_law_leaves", "_law_marks_here"] sKind f fd) (G : Glo K mg o1) (T : Fnc K mg "_law_take" ["_law_pool_here", "_law_many"] sTake fT fdT) (GT : FnOk P w K mg base CX0 1 fT fdT ["_law_pool_here", "_law_many"] spTake) :
    ∀ n, FnOk P w K mg base CX0 (n + 2) f fd ["_law_pool_here", "_law_leaves", "_law_marks_here"] (spKind n)
  | 0 => F.F.ok scKind (fun vs H Q E h => by
      obtain ⟨a, l, L, ms, rfl, _⟩ := h
      rfl) (fun cdv A outer s H vs Q E hr h => by
      obtain ⟨a, l, L, ms, rfl, _, _, h1, h2, _⟩ := h
      omega)
  | n + 1 => ok_kind (by omega) F G T GT (all_kind F G T GT n)
theorem ok_row (F : Fnc K mg "_law_row" ["_law_pool_here", "_law_marks_here", "_law_left"] sRow f fd) (G : Glo K mg o1) (T : Fnc K mg "_law_take" ["_law_pool_here", "_law_many"] sTake fT fdT) (GT : FnOk P w K mg base CX0 1 fT fdT ["_law_pool_here", "_law_many"] spTake)
    (D : Fnc K mg "_law_kind" ["_law_pool_here", "_law_leaves", "_law_marks_here"] sKind fK fdK) (GK : FnOk P w K mg base CX0 10 fK fdK ["_law_pool_here", "_law_leaves", "_law_marks_here"] (spKind 8)) :
    FnOk P w K mg base CX0 11 f fd ["_law_pool_here", "_law_marks_here", "_law_left"] spRow := by
  refine F.F.ok scRow (fun vs H Q E h => ?_) (fun cdv A outer s H vs Q E hr h => ?_)
  · obtain ⟨a, l, ms, rfl, _⟩ := h
    rfl
  obtain ⟨a, l, ms, rfl, hp, hm, q⟩ := h
  refine ⟨_, pss_cons (ps_set (i := 3) scRow.nd rfl (.inl rfl) (pe_lst pa_nil))
    (pss_cons (ps_for PassesOwn.never rfl (pi_list (pe_slice sl_list (pe_lst (pa_cons pe_str (pa_cons pe_str (pa_cons pe_str (pa_cons pe_str pa_nil))))) po_none (po_some (pe_call GT (hr.mono (by decide)) rfl T.g T.F.kp T.b .nil pass0 (pa_cons (pv 0) (pa_cons pe_int pa_nil)))))) (pg_name (i := 4) scRow.nd rfl (.inl rfl))
      (pss_cons (ps_set (i := 5) scRow.nd rfl (.inl rfl) (pe_op op_add pe_int (pe_call GT (hr.mono (by decide)) rfl T.g T.F.kp T.b .nil pass0 (pa_cons (pv 0) (pa_cons pe_int pa_nil)))))
      (pss_one (ps_if (pt_cmpR op_le (pv 5) (pv 2) (nomark _))
        (pss_cons (ps_expr (pe_bm PySem.F.plainAttrs_list PySem.F.slot_list_append PySem.F.type_list_append mt_append (pv 3) (pa_cons (pe_tup (pa_cons (pv 4) (pa_cons (pe_call GK hr rfl D.g D.F.kp D.b .nil pass0 (pa_cons (pv 0) (pa_cons (pv 5) (pa_cons (pv 1) pa_nil)))) pa_nil))) pa_nil)))
        (pss_one (ps_set (i := 2) scRow.nd rfl (.inl rfl) (pe_op op_sub (pv 2) (pv 5))))) pss_nil))))
    (pss_one (ps_ret (pv 3)))), ?_⟩
  -- row = []
  refine ⟨Nat.zero_le _, fun R hR => ?_⟩
  have nR := hp.ne hR
  have s1 := same_new hR (.lst [])
  have p1 := hp.same s1
  -- the names
  refine ⟨by exact line_big (by decide), fun x hx => ?_⟩
  have nx := p1.ne hx
  generalize hxs : ([V.str _, V.str _, V.str _, V.str _] : List V) = xs
  have lxs : xs.length = 4 := by rw [← hxs]; rfl
  have s2 := same_new hx (.lst xs)
  have p2 := p1.same s2
  have hx2 : (L2.upd (L2.upd H R (.lst [])) x (.lst xs)) x = some (.lst xs) := upd_same
  have hR2 := s2 _ _ (upd_same (H := H) (a := R) (o := .lst []))
  have sA : Same H (L2.upd (L2.upd H R (.lst [])) x (.lst xs)) := s1.trans s2
  generalize L2.upd (L2.upd H R (.lst [])) x (.lst xs) = H2 at p2 hx2 hR2 sA
  refine ⟨.ref a, rfl, a, 5, rfl, p2, by decide, by decide, fun H3 r3 s3 p3 r30 r31 => ?_⟩
  have hx3 := s3 _ _ nx.symm hx2
  have hR3 := s3 _ _ nR.symm hR2
  refine ⟨r3, rfl, x, _, rfl, SqL.of hx3, fun y hy => ?_⟩
  have ny := p3.ne hy
  have nRy : R ≠ y := ne_of_none hR3 hy
  have ly := cutV_length xs none (some r3)
  rw [lxs] at ly
  generalize cutV xs none (some r3) = ys at ly
  have s4 := same_new hy (.lst ys)
  have p4 := p3.same s4
  have hR4 := s4 _ _ hR3
  have hy4 : (L2.upd H3 y (.lst ys)) y = some (.lst ys) := upd_same
  have sB : SameP a H (L2.upd H3 y (.lst ys)) := (SameP.of sA).trans (s3.trans (SameP.of s4))
  generalize L2.upd H3 y (.lst ys) = H4 at p4 hR4 hy4 sB
  refine ⟨y, rfl, ⟨_, SqL.of hy4⟩, for_list (K := K) (a := y) (xs := ys) (fun i σ H' => ∃ (x4 x5 : Option V) (left : Int), σ = [some (.ref a), some (.ref l), some (.int left), some (.ref R), x4, x5] ∧ SameP a H H' ∧ PoolAt H' a ∧ H' y = some (.lst ys) ∧ 0 ≤ left ∧
      ∃ (ps : List Addr) (ks : List Kd), H' R = some (.lst (ps.map V.ref)) ∧ Paired (RwAt H') ps ks ∧ ps.length ≤ i ∧ ((ks.map leaves).sum : Nat) + left = 4 ∧ ∀ j ∈ ks, Wf j ∧ Over ms j)
    ⟨none, none, 4, rfl, sB, p4, hy4, by decide, [], [], hR4, .nil, Nat.le_refl _, rfl, fun _ z => (by cases z)⟩ (fun i σ H' _ ⟨_, _, _, _, _, _, h, _⟩ => SqL.of h) ?_ ?_⟩
  · rintro i v σ H5 hv ⟨x4, x5, left, rfl, s5, p5, hy5, l0, ps, ks, hR5, hps, lps, sum, hks⟩
    have hil : i < ys.length := (List.getElem?_eq_some_iff.mp hv).1
    refine ⟨.ref a, rfl, a, 4, rfl, p5, by decide, by decide, fun H6 r6 s6 p6 r60 r61 => ⟨_, _, rfl, rfl, ?_⟩⟩
    have s06 := s5.trans s6
    have hy6 := s6 _ _ ny.symm hy5
    have hR6 := s6 _ _ nR.symm hR5
    have hps6 : Paired (RwAt H6) ps ks := Paired.mapP hps fun pi j z => by
      obtain ⟨nm, b, e1, e2⟩ := z
      exact ⟨nm, b, s6 _ _ (p5.neT e1) e1, e2.sameP p5 s6⟩
    obtain ⟨j, rfl⟩ := Int.eq_ofNat_of_zero_le r60
    refine ⟨.int (1 + j), rfl, .int left, rfl, _, _, rfl, rfl, _, rfl, ?_⟩
    refine ite2 (fun e => ?_) (fun e => ?_)
    · have e1 : (1 + (j : Int)) ≤ left := of_decide_eq_true e
      have hm6 := hm.sameP hp s06
      refine ⟨.ref R, rfl, .inl ⟨rfl, _, SqL.of hR6⟩, v, rfl, .ref a, rfl, .int (1 + j), rfl, .ref l, rfl, a, l, 1 + j, ms, by rw [Int.natCast_add]; rfl, p6, hm6, by omega, by omega, by omega, fun H7 b k s7 p7 hk lk wk ok => ?_⟩
      have hy7 := s7 _ _ ny.symm hy6
      have hR7 := s7 _ _ nR.symm hR6
      have hps7 : Paired (RwAt H7) ps ks := Paired.mapP hps6 fun pi j z => by
        obtain ⟨nm, b, e1, e2⟩ := z
        exact ⟨nm, b, s7 _ _ (p6.neT e1) e1, e2.sameP p6 s7⟩
      refine ⟨ln2, fun t ht => ?_⟩
      have nt := p7.ne ht
      have s8 := same_new ht (.tup [v, .ref b])
      have hR8 := s8 _ _ hR7
      have p8 := p7.same s8
      have hy8 := s8 _ _ hy7
      have ht8 : (L2.upd H7 t (.tup [v, .ref b])) t = some (.tup [v, .ref b]) := upd_same
      have hps8 : Paired (RwAt (L2.upd H7 t (.tup [v, .ref b]))) (ps ++ [t]) (ks ++ [k]) := Paired.snoc (Paired.mapP hps7 fun _ _ z => z.same s8) ⟨v, b, ht8, hk.same s8⟩
      have s08 : SameP a H (L2.upd H7 t (.tup [v, .ref b])) := (s06.trans s7).trans (SameP.of s8)
      generalize L2.upd H7 t (.tup [v, .ref b]) = H8 at hR8 p8 hy8 ht8 hps8 s08
      refine ⟨R, _, _, rfl, rfl, hR8, by rw [List.length_map]; exact small1000 (by omega), ?_⟩
      refine ⟨.int left, rfl, .int (1 + j), rfl, _, _, rfl, rfl, ?_⟩
      have yR : y ≠ R := nRy.symm
      refine ⟨_, _, left - (1 + j), rfl, s08.updN hR, p8.updN nR, by rw [upd_ne yR]; exact hy8, by omega, ps ++ [t], ks ++ [k], by rw [upd_same, List.map_append]; rfl, Paired.mapP hps8 fun pi j z => ?_, by rw [List.length_append, List.length_singleton]; omega, ?_, fun x hx => ?_⟩
      · obtain ⟨nm, b', e1, e2⟩ := z
        exact ⟨nm, b', by rw [upd_ne (ne_of e1 hR8 (by intro z; cases z))]; exact e1, e2.mono fun c xs e => by rw [upd_ne (ne_of e hR8 (by intro z; cases z))]; exact e⟩
      · rw [List.map_append, List.sum_append]
        show (((ks.map leaves).sum + (leaves k + 0) : Nat) : Int) + (left - (1 + (j : Int))) = 4
        rw [lk]
        omega
      · rcases List.mem_append.mp hx with z | z
        · exact hks x z
        · rw [List.mem_singleton.mp z]; exact ⟨wk, ok⟩
    · exact ⟨_, _, left, rfl, s06, p6, hy6, l0, ps, ks, hR6, hps6, by omega, sum, hks⟩
  · rintro σ H5 ⟨x4, x5, left, rfl, s5, p5, hy5, l0, ps, ks, hR5, hps, lps, sum, hks⟩
    exact ⟨.ref R, rfl, q H5 R ps ks s5 p5 hR5 hps (by omega) hks⟩
end
end KF
/-! The law. -/
namespace KF
open PySem PySem.Spec PyProof.Rows L2

theorem bo_max : bootBuiltins "max" = some (.builtin "max") := by decide +kernel
theorem bo_min : bootBuiltins "min" = some (.builtin "min") := by decide +kernel
def spHasAny : Sp := fun vs H Q E => ∃ (Tk : List Kd) (Ms : List Str), LClo Tk Ms ∧ spLHas Tk Ms 44 vs H Q E
def spLaw (K : PySem.W.Frag) : Sp := fun vs H Q _ => ∃ (sA : Addr) (ns : List Int), vs = [.ref sA] ∧ SqL K H sA (ns.map V.int) ∧ ns.length ≤ 63 ∧ ∀ H', Q (.bl true) H'
theorem sum_len : ∀ l : List Kd, l.length ≤ (l.map leaves).sum
  | [] => Nat.le_refl _
  | x :: l => by
    have := leaves_pos x
    have := sum_len l
    rw [List.map_cons, List.sum_cons, List.length_cons]
    omega
theorem sum_mem : ∀ {l : List Kd} {k : Kd}, k ∈ l → leaves k ≤ (l.map leaves).sum
  | x :: l, k, h => by
    rw [List.map_cons, List.sum_cons]
    rcases List.mem_cons.mp h with e | h
    · rw [e]; omega
    · have := sum_mem h; omega
section
variable {P : Program} {w : World} {K : PySem.W.Frag} {mg : Str → Option Value} {base : Heap} {o1 f fP fT fM fK fR fA fB : Addr} {fd fdP fdT fdM fdK fdR fdA fdB : FuncData}
theorem ok_law (F : Fnc K mg "law" ["_law_script"] sLaw f fd) (G : Glo K mg o1)
    (Pn : Fnc K mg "_law_pool" ["_law_script", "_law_k"] sPool fP fdP) (GP : FnOk P w K mg base CX0 1 fP fdP ["_law_script", "_law_k"] (spPool K))
    (T : Fnc K mg "_law_take" ["_law_pool_here", "_law_many"] sTake fT fdT) (GT : FnOk P w K mg base CX0 1 fT fdT ["_law_pool_here", "_law_many"] spTake)
    (M : Fnc K mg "_law_marks" ["_law_pool_here"] sMarks fM fdM) (GM : FnOk P w K mg base CX0 2 fM fdM ["_law_pool_here"] spMarks)
    (D : Fnc K mg "_law_kind" ["_law_pool_here", "_law_leaves", "_law_marks_here"] sKind fK fdK) (GK : FnOk P w K mg base CX0 10 fK fdK ["_law_pool_here", "_law_leaves", "_law_marks_here"] (spKind 8))
    (R : Fnc K mg "_law_row" ["_law_pool_here", "_law_marks_here", "_law_left"] sRow fR fdR) (GR : FnOk P w K mg base CX0 11 fR fdR ["_law_pool_here", "_law_marks_here", "_law_left"] spRow)
    (A : Fnc K mg "_law_has" ["_law_there", "_law_kind_here", "_law_asked"] sHas fA fdA) (GA : FnOk P w K mg base CX0 99 fA fdA ["_law_there", "_law_kind_here", "_law_asked"] spHasAny)
    (B : Fnc K mg "barring" ["row", "kind"] sBarring fB fdB) (GB : FnOk P w K mg base CX0 110 fB fdB ["row", "kind"] spBarring) :
    FnOk P w K mg base CX0 111 f fd ["_law_script"] (spLaw K) := by
  refine F.F.ok scLaw (fun vs H Q E h => ?_) (fun cdv A0 outer s H vs Q E hr h => ?_)
  · obtain ⟨sA, ns, rfl, _⟩ := h
    rfl
  obtain ⟨sA, ns, rfl, hS, hlen, q⟩ := h
  refine ⟨_, pss_cons (ps_for PassesOwn.never rfl (pi_range1 rfl G.range (pa_cons (pe_callB (call_max2 rfl) rfl G.max bo_max (pa_cons pe_int (pa_cons (pe_callB (call_min2 rfl) rfl G.min bo_min (pa_cons (pe_callB call_len_seq rfl G.len bo_len (pa_cons (pv 0) pa_nil)) (pa_cons pe_int pa_nil))) pa_nil))) pa_nil)) (pg_name (i := 1) scLaw.nd rfl (.inl rfl))
      (pss_cons (ps_set (i := 2) scLaw.nd rfl (.inl rfl) (pe_call GP (hr.mono (by decide)) rfl Pn.g Pn.F.kp Pn.b .nil pass0 (pa_cons (pv 0) (pa_cons (pv 1) pa_nil))))
      (pss_cons (ps_set (i := 3) scLaw.nd rfl (.inl rfl) (pe_call GM (hr.mono (by decide)) rfl M.g M.F.kp M.b .nil pass0 (pa_cons (pv 2) pa_nil)))
      (pss_cons (ps_set (i := 4) scLaw.nd rfl (.inl rfl) (pe_call GK (hr.mono (by decide)) rfl D.g D.F.kp D.b .nil pass0 (pa_cons (pv 2) (pa_cons (pe_op op_add pe_int (pe_call GT (hr.mono (by decide)) rfl T.g T.F.kp T.b .nil pass0 (pa_cons (pv 2) (pa_cons pe_int pa_nil)))) (pa_cons (pv 3) pa_nil)))))
      (pss_cons (ps_set (i := 5) scLaw.nd rfl (.inl rfl) (pe_call GR (hr.mono (by decide)) rfl R.g R.F.kp R.b .nil pass0 (pa_cons (pv 2) (pa_cons (pv 3) (pa_cons pe_int pa_nil)))))
      (pss_cons (ps_set (i := 6) scLaw.nd rfl (.inl rfl) (pe_call GA (hr.mono (by decide)) rfl A.g A.F.kp A.b .nil pass0 (pa_cons
          (pe_lc (own := [("_law_name", 7), ("_law_given", 8)]) (g := gTup K 2 (gCons (gName 7) (gCons (gName 8) gNil))) (tt := tYes) (te := tVar 8) rfl scLaw.nd (pi_list (pv 5)) (blkOk_by (N := nLaw) (sc := defScope sLaw) (by decide +kernel))
            (fun _ _ _ _ _ => pg_tup rfl (pgs_cons (pg_name (i := 7) scLaw.nd rfl (.inl rfl)) (pgs_cons (pg_name (i := 8) scLaw.nd rfl (.inl rfl)) pgs_nil))) (fun _ _ _ _ _ => pts_nil) (fun _ _ _ _ _ => pv 8))
          (pa_cons (pv 4) (pa_cons (pe_lst pa_nil) pa_nil)))))
      (pss_one (ps_if (pt_cmpR op_ne (pe_cmpR op_isN1 (pe_call GB hr rfl B.g B.F.kp B.b .nil pass0 (pa_cons (pv 5) (pa_cons (pv 4) pa_nil))) pe_non (nomark _)) (pv 6) (nomark _)) (pss_one (ps_ret pe_bl)) pss_nil))))))))
    (pss_one (ps_ret pe_bl)), ?_⟩
  -- for k in range(max(1, min(len(script), 8)))
  refine ⟨.ref sA, rfl, sA, _, rfl, .inl hS, _, _, rfl, _, _, rfl, ?_⟩
  have hj : ∀ x : Int, 0 ≤ x → ∃ n : Nat, (if (if (8 : Int) < x then 8 else x) > 1 then (if (8 : Int) < x then 8 else x) else 1) = (n : Int) ∧ n ≤ 8 := fun x hx => by
    by_cases c : (8 : Int) < x
    · exact ⟨8, by rw [if_pos c]; rfl, Nat.le_refl _⟩
    · rw [if_neg c]
      by_cases c2 : x > 1
      · exact ⟨x.toNat, by rw [if_pos c2]; omega, by omega⟩
      · exact ⟨1, by rw [if_neg c2]; rfl, by decide⟩
  obtain ⟨n, en, n8⟩ := hj ((ns.map V.int).length : Int) (by omega)
  rw [en]
  refine ⟨n, rfl, by omega, by omega, ?_⟩
  rw [Int.toNat_natCast]
  refine for_range (lo := 0) (n := n) (fun i σ H' => ∃ x1 x2 x3 x4 x5 x6 x7 x8, σ = [some (.ref sA), x1, x2, x3, x4, x5, x6, x7, x8] ∧ Same H H') ⟨none, none, none, none, none, none, none, none, rfl, fun _ _ e => e⟩ ?_ ?_
  · rintro i σ H1 hi ⟨x1, x2, x3, x4, x5, x6, x7, x8, rfl, s1⟩
    -- the pool
    refine ⟨.ref sA, rfl, .int (0 + i), rfl, sA, ns, 0 + i, rfl, s1.seq hS, by omega, by omega, fun H2 a s2 ha p2 => ?_⟩
    -- the marks
    refine ⟨.ref a, rfl, a, rfl, p2, fun H3 l ms s3 p3 _ hl3 m1 m4 mok => ?_⟩
    have hm3 : MsAt H3 l ms := ⟨hl3, m1, m4, mok⟩
    -- the kind
    refine ⟨.ref a, rfl, .ref a, rfl, a, 5, rfl, p3, by decide, by decide, fun H4 r s4 p4 r0 r1 => ⟨_, _, rfl, rfl, ?_⟩⟩
    have hm4 := hm3.sameP p3 s4
    obtain ⟨j, rfl⟩ := Int.eq_ofNat_of_zero_le r0
    refine ⟨.ref l, rfl, a, l, 1 + j, ms, by rw [Int.natCast_add]; rfl, p4, hm4, by omega, by omega, by omega, fun H5 b k s5 p5 hk lk wk ok => ?_⟩
    have hm5 := hm4.sameP p4 s5
    -- the row
    refine ⟨.ref a, rfl, .ref l, rfl, a, l, ms, rfl, p5, hm5, fun H6 Rr ps ks s6 p6 hR6 hps6 sm hks => ?_⟩
    have hk6 := hk.sameP p5 s6
    have s26 : SameP a H2 H6 := s3.trans (s4.trans (s5.trans s6))
    have s16 : Same H1 H6 := fun c o e => s26 c o (ne_of_none e ha) (s2 c o e)
    -- what is known of the kind and the row
    have aw : ∀ x ∈ k :: ks, Wf x := fun x hx => (List.mem_cons.mp hx).elim (fun z => z ▸ wk) fun z => (hks x z).1
    have ao : ∀ x ∈ k :: ks, Over ms x := fun x hx => (List.mem_cons.mp hx).elim (fun z => z ▸ ok) fun z => (hks x z).2
    have a8 : ∀ x ∈ k :: ks, leaves x ≤ 8 := fun x hx => (List.mem_cons.mp hx).elim (fun z => by rw [z, lk]; omega) fun z => by
      have := sum_mem z
      omega
    have al : ((k :: ks).map leaves).sum ≤ 9 := by
      rw [List.map_cons, List.sum_cons, lk]
      omega
    obtain ⟨lc, inT⟩ := lclo_of (Ms := ms) (List.cons_ne_nil k ks) aw a8 al ao m4 fun m hm => (mok m hm).1
    generalize (k :: ks).flatMap takes = Tk at lc inT
    have lks := sum_len ks
    have lps := paired_len hps6
    -- [given for name, given in row]
    refine ⟨.ref Rr, rfl, Rr, rfl, ⟨_, SqL.of hR6⟩, fun Dd hD => ?_⟩
    refine lc_list (K := K) (a := Rr) (xs := ps.map V.ref) (fun i H' => Same H6 (hide Dd H') ∧ ∃ us, H' Dd = some (.lst us) ∧ Paired (KvAt (hide Dd H')) us (ks.take i))
      ⟨same_hide hD (same_new hD _), [], upd_same, by rw [List.take_zero]; exact .nil⟩ (fun i H' _ h => SqL.of (hide_same Dd H' _ _ (h.1 _ _ hR6))) (fun i v H7 hv' h => ?_) fun H7 h => ?_
    · obtain ⟨s7, us, hd, hus⟩ := h
      obtain ⟨pi, hpi, rfl⟩ := map_refs_at hv'
      obtain ⟨x, hx, nm, b', e1, e2⟩ := paired_at hps6 hpi
      have hjk : i < ks.length := (List.getElem?_eq_some_iff.mp hx).1
      have lu := paired_len hus
      rw [List.length_take] at lu
      refine ⟨pi, _, rfl, SqT.of (hide_same Dd H7 _ _ (s7 _ _ e1)), rfl, _, _, rfl, _, _, rfl, rfl, rfl, ?_⟩
      refine ⟨_, rfl, us, hd, small1000 (by omega), ?_⟩
      rw [hide_upd]
      refine ⟨s7, _, upd_same, ?_⟩
      rw [take_snoc hx]
      exact Paired.snoc hus ⟨b', rfl, e2.same s7⟩
    obtain ⟨s7, us, hd, hus⟩ := h
    have el : (ps.map V.ref).length = ks.length := by rw [List.length_map]; exact lps
    rw [el, List.take_length] at hus
    have s67 : Same H6 H7 := s7.trans (hide_same Dd H7)
    have hth : ThAt H7 Dd ks := ⟨us, hd, Paired.mapP hus fun _ _ z => z.same (hide_same Dd H7)⟩
    -- _law_has(.., kind, [])
    refine ⟨.ref b, rfl, Nat.zero_le _, fun z hz => ?_⟩
    have s8 := same_new hz (.lst [])
    have s68 := s67.trans s8
    have b1 : nu Tk ms ks [] ≤ 44 := by
      have h1 := nu_bd (U := Tk) (M := ms) (T := ks) (asked := [])
      have h2 : Tk.length * (ms.length + 1) ≤ 8 * 5 := Nat.mul_le_mul lc.sz (by omega)
      omega
    have b2 : mu Tk ks ≤ 8 := Nat.le_trans (mu_bd Tk ks) lc.sz
    refine ⟨Tk, ms, lc, Dd, b, z, ks, k, [], rfl, hth.same s8, fun x hx => inT x (List.mem_cons_of_mem _ hx), hk6.same s68, inT k List.mem_cons_self, ⟨[], upd_same, .nil⟩, (fun _ h => by cases h), b1, by omega, by rw [List.length_nil]; omega, fun H9 due s9 says => ?_⟩
    have s69 := s68.trans s9
    have hdue : due = true ↔ Has ks k := ⟨says.1, fun h => by
      obtain ⟨n', hn⟩ := h.height
      exact says.2 n' hn fun _ h => (by cases h)⟩
    -- barring(row, kind) is None
    refine ⟨.ref Rr, rfl, .ref b, rfl, Rr, b, ps, ks, k, ms, rfl, s69 _ _ hR6, Paired.mapP hps6 fun _ _ z => z.same s69, hk6.same s69, aw, a8, al, Nat.le_trans m4 (by decide), ao, fun H10 v s10 res => ?_⟩
    refine ⟨rfl, .bl due, rfl, rfl, _, rfl, ?_⟩
    have ev : decide (v = V.non) = due := by
      rw [Bool.eq_iff_iff, decide_eq_true_eq, hdue]
      rcases res with ⟨rfl, hh⟩ | ⟨⟨a', rfl⟩, hh⟩
      · exact ⟨fun _ => hh, fun _ => rfl⟩
      · exact ⟨fun z => (by cases z), fun z => absurd z hh⟩
    rw [ev, decide_eq_true rfl]
    refine iteF ?_
    exact ⟨_, _, _, _, _, _, _, _, rfl, s1.trans (s16.trans (s69.trans s10))⟩
  · rintro σ H1 ⟨x1, x2, x3, x4, x5, x6, x7, x8, rfl, s1⟩
    exact q H1
end
end KF
/-! What the top has written; the claim. -/
namespace KF
open PySem PySem.Spec PyProof.Rows L2
theorem all_mk {l : PySem.W.OpenLaw} {w : World} {K : PySem.W.Frag} {h : Heap} {mg : Str → Option Value} {fa C o1 : Addr} {dO : Option Addr} {nO : Nat} {slO : Array (Option Value)} {tO : Nat} (X : K.In h) (G : h.Ns mainGlobals mg) (hfa : mg "law" = some (.ref fa))
    {qf1 qf2 qf3 qf4 qf5 qf6 qf7 qf8 qf9 qf10 qf11 qf12 qf13 qf14 qm1 qm2 qm3 qm4 qm5 qm6 qm7 : Addr} {odf1 anf1 odf2 anf2 odf3 anf3 odf4 anf4 odf5 anf5 odf6 anf6 odf7 anf7 odf8 anf8 odf9 anf9 odf10 anf10 odf11 anf11 odf12 anf12 odf13 anf13 odf14 anf14 odm1 anm1 odm2 anm2 odm3 anm3 odm4 anm4 odm5 anm5 odm6 anm6 odm7 anm7 : Option Addr} {slf1 slf2 slf3 slf4 slf5 slf6 slf7 slf8 slf9 slf10 slf11 slf12 slf13 slf14 slm1 slm2 slm3 slm4 slm5 slm6 slm7 : Array (Option Value)} {ocf1 kVf1 dcf1 pmf1 cdf1 ctf1 ocf2 kVf2 dcf2 pmf2 cdf2 ctf2 ocf3 kVf3 dcf3 pmf3 cdf3 ctf3 ocf4 kVf4 dcf4 pmf4 cdf4 ctf4 ocf5 kVf5 dcf5 pmf5 cdf5 ctf5 ocf6 kVf6 dcf6 pmf6 cdf6 ctf6 ocf7 kVf7 dcf7 pmf7 cdf7 ctf7 ocf8 kVf8 dcf8 pmf8 cdf8 ctf8 ocf9 kVf9 dcf9 pmf9 cdf9 ctf9 ocf10 kVf10 dcf10 pmf10 cdf10 ctf10 ocf11 kVf11 dcf11 pmf11 cdf11 ctf11 ocf12 kVf12 dcf12 pmf12 cdf12 ctf12 ocf13 kVf13 dcf13 pmf13 cdf13 ctf13 ocf14 kVf14 dcf14 pmf14 cdf14 ctf14 ocm1 kVm1 dcm1 pmm1 cdm1 ctm1 ocm2 kVm2 dcm2 pmm2 cdm2 ctm2 ocm3 kVm3 dcm3 pmm3 cdm3 ctm3 ocm4 kVm4 dcm4 pmm4 cdm4 ctm4 ocm5 kVm5 dcm5 pmm5 cdm5 ctm5 ocm6 kVm6 dcm6 pmm6 cdm6 ctm6 ocm7 kVm7 dcm7 pmm7 cdm7 ctm7 : Value}
    (aO : PySem.W.nsIn K mainGlobals "ONE" = some (some (.ref o1)))
    (lO : K.lookup o1 = some ⟨.type "tuple", dO, .seq #[.str "one" tO] nO, slO⟩)
    (aC : PySem.W.nsIn K mainGlobals "Having" = some (some (.ref C)))
    (af1 : PySem.W.nsIn K mainGlobals "ends_of" = some (some (.ref qf1)))
    (lf1 : K.lookup qf1 = some ⟨ocf1, odf1, .func (PySem.W.fnOf "ends_of" "ends_of" (defArgs sEnds) (defBody sEnds) (defScope sEnds) .none kVf1 dcf1 pmf1 anf1 cdf1 ctf1), slf1⟩)
    (cf1 : PySem.W.codeIn K cdf1 "ends_of" = true)
    (kf1 : PySem.W.keepIn K (.ref qf1) = true)
    (af2 : PySem.W.nsIn K mainGlobals "ways_of" = some (some (.ref qf2)))
    (lf2 : K.lookup qf2 = some ⟨ocf2, odf2, .func (PySem.W.fnOf "ways_of" "ways_of" (defArgs sWays) (defBody sWays) (defScope sWays) .none kVf2 dcf2 pmf2 anf2 cdf2 ctf2), slf2⟩)
    (cf2 : PySem.W.codeIn K cdf2 "ways_of" = true)
    (kf2 : PySem.W.keepIn K (.ref qf2) = true)
    (af3 : PySem.W.nsIn K mainGlobals "shown_kind" = some (some (.ref qf3)))
    (lf3 : K.lookup qf3 = some ⟨ocf3, odf3, .func (PySem.W.fnOf "shown_kind" "shown_kind" (defArgs sShown) (defBody sShown) (defScope sShown) .none kVf3 dcf3 pmf3 anf3 cdf3 ctf3), slf3⟩)
    (cf3 : PySem.W.codeIn K cdf3 "shown_kind" = true)
    (kf3 : PySem.W.keepIn K (.ref qf3) = true)
    (af4 : PySem.W.nsIn K mainGlobals "barring" = some (some (.ref qf4)))
    (lf4 : K.lookup qf4 = some ⟨ocf4, odf4, .func (PySem.W.fnOf "barring" "barring" (defArgs sBarring) (defBody sBarring) (defScope sBarring) .none kVf4 dcf4 pmf4 anf4 cdf4 ctf4), slf4⟩)
    (cf4 : PySem.W.codeIn K cdf4 "barring" = true)
    (kf4 : PySem.W.keepIn K (.ref qf4) = true)
    (af5 : PySem.W.nsIn K mainGlobals "_law_pool" = some (some (.ref qf5)))
    (lf5 : K.lookup qf5 = some ⟨ocf5, odf5, .func (PySem.W.fnOf "_law_pool" "_law_pool" (defArgs sPool) (defBody sPool) (defScope sPool) .none kVf5 dcf5 pmf5 anf5 cdf5 ctf5), slf5⟩)
    (cf5 : PySem.W.codeIn K cdf5 "_law_pool" = true)
    (kf5 : PySem.W.keepIn K (.ref qf5) = true)
    (af6 : PySem.W.nsIn K mainGlobals "_law_take" = some (some (.ref qf6)))
    (lf6 : K.lookup qf6 = some ⟨ocf6, odf6, .func (PySem.W.fnOf "_law_take" "_law_take" (defArgs sTake) (defBody sTake) (defScope sTake) .none kVf6 dcf6 pmf6 anf6 cdf6 ctf6), slf6⟩)
    (cf6 : PySem.W.codeIn K cdf6 "_law_take" = true)
    (kf6 : PySem.W.keepIn K (.ref qf6) = true)
    (af7 : PySem.W.nsIn K mainGlobals "_law_marks" = some (some (.ref qf7)))
    (lf7 : K.lookup qf7 = some ⟨ocf7, odf7, .func (PySem.W.fnOf "_law_marks" "_law_marks" (defArgs sMarks) (defBody sMarks) (defScope sMarks) .none kVf7 dcf7 pmf7 anf7 cdf7 ctf7), slf7⟩)
    (cf7 : PySem.W.codeIn K cdf7 "_law_marks" = true)
    (kf7 : PySem.W.keepIn K (.ref qf7) = true)
    (af8 : PySem.W.nsIn K mainGlobals "_law_kind" = some (some (.ref qf8)))
    (lf8 : K.lookup qf8 = some ⟨ocf8, odf8, .func (PySem.W.fnOf "_law_kind" "_law_kind" (defArgs sKind) (defBody sKind) (defScope sKind) .none kVf8 dcf8 pmf8 anf8 cdf8 ctf8), slf8⟩)
    (cf8 : PySem.W.codeIn K cdf8 "_law_kind" = true)
    (kf8 : PySem.W.keepIn K (.ref qf8) = true)
    (af9 : PySem.W.nsIn K mainGlobals "_law_row" = some (some (.ref qf9)))
    (lf9 : K.lookup qf9 = some ⟨ocf9, odf9, .func (PySem.W.fnOf "_law_row" "_law_row" (defArgs sRow) (defBody sRow) (defScope sRow) .none kVf9 dcf9 pmf9 anf9 cdf9 ctf9), slf9⟩)
    (cf9 : PySem.W.codeIn K cdf9 "_law_row" = true)
    (kf9 : PySem.W.keepIn K (.ref qf9) = true)
    (af10 : PySem.W.nsIn K mainGlobals "_law_ends" = some (some (.ref qf10)))
    (lf10 : K.lookup qf10 = some ⟨ocf10, odf10, .func (PySem.W.fnOf "_law_ends" "_law_ends" (defArgs sLEnds) (defBody sLEnds) (defScope sLEnds) .none kVf10 dcf10 pmf10 anf10 cdf10 ctf10), slf10⟩)
    (cf10 : PySem.W.codeIn K cdf10 "_law_ends" = true)
    (kf10 : PySem.W.keepIn K (.ref qf10) = true)
    (af11 : PySem.W.nsIn K mainGlobals "_law_ways" = some (some (.ref qf11)))
    (lf11 : K.lookup qf11 = some ⟨ocf11, odf11, .func (PySem.W.fnOf "_law_ways" "_law_ways" (defArgs sLWays) (defBody sLWays) (defScope sLWays) .none kVf11 dcf11 pmf11 anf11 cdf11 ctf11), slf11⟩)
    (cf11 : PySem.W.codeIn K cdf11 "_law_ways" = true)
    (kf11 : PySem.W.keepIn K (.ref qf11) = true)
    (af12 : PySem.W.nsIn K mainGlobals "_law_has" = some (some (.ref qf12)))
    (lf12 : K.lookup qf12 = some ⟨ocf12, odf12, .func (PySem.W.fnOf "_law_has" "_law_has" (defArgs sHas) (defBody sHas) (defScope sHas) .none kVf12 dcf12 pmf12 anf12 cdf12 ctf12), slf12⟩)
    (cf12 : PySem.W.codeIn K cdf12 "_law_has" = true)
    (kf12 : PySem.W.keepIn K (.ref qf12) = true)
    (af13 : PySem.W.nsIn K mainGlobals "_law_had" = some (some (.ref qf13)))
    (lf13 : K.lookup qf13 = some ⟨ocf13, odf13, .func (PySem.W.fnOf "_law_had" "_law_had" (defArgs sLHad) (defBody sLHad) (defScope sLHad) .none kVf13 dcf13 pmf13 anf13 cdf13 ctf13), slf13⟩)
    (cf13 : PySem.W.codeIn K cdf13 "_law_had" = true)
    (kf13 : PySem.W.keepIn K (.ref qf13) = true)
    (af14 : PySem.W.nsIn K mainGlobals "law" = some (some (.ref qf14)))
    (lf14 : K.lookup qf14 = some ⟨ocf14, odf14, .func (PySem.W.fnOf "law" "law" (defArgs sLaw) (defBody sLaw) (defScope sLaw) .none kVf14 dcf14 pmf14 anf14 cdf14 ctf14), slf14⟩)
    (cf14 : PySem.W.codeIn K cdf14 "law" = true)
    (kf14 : PySem.W.keepIn K (.ref qf14) = true)
    (am1 : PySem.W.findIn K (.ref C) "__init__" = some (some (.ref qm1)))
    (im1 : PySem.W.isFn K (.ref qm1) = true)
    (lm1 : K.lookup qm1 = some ⟨ocm1, odm1, .func (PySem.W.fnOf "__init__" "Having.__init__" (defArgs sInit) (defBody sInit) (defScope sInit) .none kVm1 dcm1 pmm1 anm1 cdm1 ctm1), slm1⟩)
    (cm1 : PySem.W.codeIn K cdm1 "Having.__init__" = true)
    (km1 : PySem.W.keepIn K (.ref qm1) = true)
    (am2 : PySem.W.findIn K (.ref C) "with_more" = some (some (.ref qm2)))
    (im2 : PySem.W.isFn K (.ref qm2) = true)
    (lm2 : K.lookup qm2 = some ⟨ocm2, odm2, .func (PySem.W.fnOf "with_more" "Having.with_more" (defArgs sMore) (defBody sMore) (defScope sMore) .none kVm2 dcm2 pmm2 anm2 cdm2 ctm2), slm2⟩)
    (cm2 : PySem.W.codeIn K cdm2 "Having.with_more" = true)
    (km2 : PySem.W.keepIn K (.ref qm2) = true)
    (am3 : PySem.W.findIn K (.ref C) "had" = some (some (.ref qm3)))
    (im3 : PySem.W.isFn K (.ref qm3) = true)
    (lm3 : K.lookup qm3 = some ⟨ocm3, odm3, .func (PySem.W.fnOf "had" "Having.had" (defArgs sHad) (defBody sHad) (defScope sHad) .none kVm3 dcm3 pmm3 anm3 cdm3 ctm3), slm3⟩)
    (cm3 : PySem.W.codeIn K cdm3 "Having.had" = true)
    (km3 : PySem.W.keepIn K (.ref qm3) = true)
    (am4 : PySem.W.findIn K (.ref C) "had_more" = some (some (.ref qm4)))
    (im4 : PySem.W.isFn K (.ref qm4) = true)
    (lm4 : K.lookup qm4 = some ⟨ocm4, odm4, .func (PySem.W.fnOf "had_more" "Having.had_more" (defArgs sHadMore) (defBody sHadMore) (defScope sHadMore) .none kVm4 dcm4 pmm4 anm4 cdm4 ctm4), slm4⟩)
    (cm4 : PySem.W.codeIn K cdm4 "Having.had_more" = true)
    (km4 : PySem.W.keepIn K (.ref qm4) = true)
    (am5 : PySem.W.findIn K (.ref C) "first_not_had" = some (some (.ref qm5)))
    (im5 : PySem.W.isFn K (.ref qm5) = true)
    (lm5 : K.lookup qm5 = some ⟨ocm5, odm5, .func (PySem.W.fnOf "first_not_had" "Having.first_not_had" (defArgs sFirst) (defBody sFirst) (defScope sFirst) .none kVm5 dcm5 pmm5 anm5 cdm5 ctm5), slm5⟩)
    (cm5 : PySem.W.codeIn K cdm5 "Having.first_not_had" = true)
    (km5 : PySem.W.keepIn K (.ref qm5) = true)
    (am6 : PySem.W.findIn K (.ref C) "lack_of" = some (some (.ref qm6)))
    (im6 : PySem.W.isFn K (.ref qm6) = true)
    (lm6 : K.lookup qm6 = some ⟨ocm6, odm6, .func (PySem.W.fnOf "lack_of" "Having.lack_of" (defArgs sLack) (defBody sLack) (defScope sLack) .none kVm6 dcm6 pmm6 anm6 cdm6 ctm6), slm6⟩)
    (cm6 : PySem.W.codeIn K cdm6 "Having.lack_of" = true)
    (km6 : PySem.W.keepIn K (.ref qm6) = true)
    (am7 : PySem.W.findIn K (.ref C) "tree" = some (some (.ref qm7)))
    (im7 : PySem.W.isFn K (.ref qm7) = true)
    (lm7 : K.lookup qm7 = some ⟨ocm7, odm7, .func (PySem.W.fnOf "tree" "Having.tree" (defArgs sTree) (defBody sTree) (defScope sTree) .none kVm7 dcm7 pmm7 anm7 cdm7 ctm7), slm7⟩)
    (cm7 : PySem.W.codeIn K cdm7 "Having.tree" = true)
    (km7 : PySem.W.keepIn K (.ref qm7) = true)
    (pg : PySem.W.plainGet K C Str.empty = true)
    (hd : PySem.W.hasDictIn K C = true)
    (po : PySem.W.plainOver K C = true)
    (sa : PySem.W.findIn K (.ref C) "__setattr__" = some (some (.builtin "object.__setattr__")))
    (mk : PySem.W.makesIn K C = true)
    (kc : PySem.W.keepIn K (.ref C) = true)
    (nK : PySem.W.findIn K (.ref C) "kinds" = some none)
    (nF : PySem.W.findIn K (.ref C) "found" = some none)
    (z_tuple : PySem.W.nsIn K mainGlobals "tuple" = some none)
    (z_sorted : PySem.W.nsIn K mainGlobals "sorted" = some none)
    (z_len : PySem.W.nsIn K mainGlobals "len" = some none)
    (z_min : PySem.W.nsIn K mainGlobals "min" = some none)
    (z_max : PySem.W.nsIn K mainGlobals "max" = some none)
    (z_set : PySem.W.nsIn K mainGlobals "set" = some none)
    (z_isinstance : PySem.W.nsIn K mainGlobals "isinstance" = some none)
    (z_range : PySem.W.nsIn K mainGlobals "range" = some none)
    (z_int : PySem.W.nsIn K mainGlobals "int" = some none)
    : ∃ fd : FuncData, (∀ (s : Shared) (v : Value), BindsTo s fd ⟨[v], []⟩ [("_law_script", v)]) ∧ ∀ base : Heap, K.In base → base.Ns mainGlobals mg → FnOk l.prog w K mg base CX0 111 fa fd ["_law_script"] (spLaw K) := by
  have e := hfa.symm.trans (PySem.W.mg_of X G af14)
  cases e
  have G0 : Glo K mg o1 := ⟨PySem.W.mg_of X G aO, fun H => .inr ⟨_, _, _, lO, rfl, rfl, ln1, .cons ⟨_, rfl⟩ .nil⟩, PySem.W.mg_none_of X G z_tuple, PySem.W.mg_none_of X G z_sorted, PySem.W.mg_none_of X G z_len, PySem.W.mg_none_of X G z_min, PySem.W.mg_none_of X G z_max, PySem.W.mg_none_of X G z_set, PySem.W.mg_none_of X G z_isinstance, PySem.W.mg_none_of X G z_range, PySem.W.mg_none_of X G z_int⟩
  have T : HCls K mg C := ⟨⟨pg, hd, po, sa⟩, nK, nF, PySem.W.mg_of X G aC⟩
  have Ff1 := fun_mk (st := sEnds) lf1 cf1 kf1
  have bf1 := Ff1.binds (ps := ["kind"]) fun _ _ _ _ _ _ us hl => match us, hl with | [_], _ => rfl
  have Nf1 : Fnc K mg "ends_of" ["kind"] sEnds qf1 _ := ⟨Ff1, bf1, PySem.W.mg_of X G af1⟩
  have Ff2 := fun_mk (st := sWays) lf2 cf2 kf2
  have bf2 := Ff2.binds (ps := ["kind"]) fun _ _ _ _ _ _ us hl => match us, hl with | [_], _ => rfl
  have Nf2 : Fnc K mg "ways_of" ["kind"] sWays qf2 _ := ⟨Ff2, bf2, PySem.W.mg_of X G af2⟩
  have Ff3 := fun_mk (st := sShown) lf3 cf3 kf3
  have bf3 := Ff3.binds (ps := ["kind"]) fun _ _ _ _ _ _ us hl => match us, hl with | [_], _ => rfl
  have Nf3 : Fnc K mg "shown_kind" ["kind"] sShown qf3 _ := ⟨Ff3, bf3, PySem.W.mg_of X G af3⟩
  have Ff4 := fun_mk (st := sBarring) lf4 cf4 kf4
  have bf4 := Ff4.binds (ps := ["row", "kind"]) fun _ _ _ _ _ _ us hl => match us, hl with | [_, _], _ => rfl
  have Nf4 : Fnc K mg "barring" ["row", "kind"] sBarring qf4 _ := ⟨Ff4, bf4, PySem.W.mg_of X G af4⟩
  have Ff5 := fun_mk (st := sPool) lf5 cf5 kf5
  have bf5 := Ff5.binds (ps := ["_law_script", "_law_k"]) fun _ _ _ _ _ _ us hl => match us, hl with | [_, _], _ => rfl
  have Nf5 : Fnc K mg "_law_pool" ["_law_script", "_law_k"] sPool qf5 _ := ⟨Ff5, bf5, PySem.W.mg_of X G af5⟩
  have Ff6 := fun_mk (st := sTake) lf6 cf6 kf6
  have bf6 := Ff6.binds (ps := ["_law_pool_here", "_law_many"]) fun _ _ _ _ _ _ us hl => match us, hl with | [_, _], _ => rfl
  have Nf6 : Fnc K mg "_law_take" ["_law_pool_here", "_law_many"] sTake qf6 _ := ⟨Ff6, bf6, PySem.W.mg_of X G af6⟩
  have Ff7 := fun_mk (st := sMarks) lf7 cf7 kf7
  have bf7 := Ff7.binds (ps := ["_law_pool_here"]) fun _ _ _ _ _ _ us hl => match us, hl with | [_], _ => rfl
  have Nf7 : Fnc K mg "_law_marks" ["_law_pool_here"] sMarks qf7 _ := ⟨Ff7, bf7, PySem.W.mg_of X G af7⟩
  have Ff8 := fun_mk (st := sKind) lf8 cf8 kf8
  have bf8 := Ff8.binds (ps := ["_law_pool_here", "_law_leaves", "_law_marks_here"]) fun _ _ _ _ _ _ us hl => match us, hl with | [_, _, _], _ => rfl
  have Nf8 : Fnc K mg "_law_kind" ["_law_pool_here", "_law_leaves", "_law_marks_here"] sKind qf8 _ := ⟨Ff8, bf8, PySem.W.mg_of X G af8⟩
  have Ff9 := fun_mk (st := sRow) lf9 cf9 kf9
  have bf9 := Ff9.binds (ps := ["_law_pool_here", "_law_marks_here", "_law_left"]) fun _ _ _ _ _ _ us hl => match us, hl with | [_, _, _], _ => rfl
  have Nf9 : Fnc K mg "_law_row" ["_law_pool_here", "_law_marks_here", "_law_left"] sRow qf9 _ := ⟨Ff9, bf9, PySem.W.mg_of X G af9⟩
  have Ff10 := fun_mk (st := sLEnds) lf10 cf10 kf10
  have bf10 := Ff10.binds (ps := ["_law_kind_here"]) fun _ _ _ _ _ _ us hl => match us, hl with | [_], _ => rfl
  have Nf10 : Fnc K mg "_law_ends" ["_law_kind_here"] sLEnds qf10 _ := ⟨Ff10, bf10, PySem.W.mg_of X G af10⟩
  have Ff11 := fun_mk (st := sLWays) lf11 cf11 kf11
  have bf11 := Ff11.binds (ps := ["_law_kind_here"]) fun _ _ _ _ _ _ us hl => match us, hl with | [_], _ => rfl
  have Nf11 : Fnc K mg "_law_ways" ["_law_kind_here"] sLWays qf11 _ := ⟨Ff11, bf11, PySem.W.mg_of X G af11⟩
  have Ff12 := fun_mk (st := sHas) lf12 cf12 kf12
  have bf12 := Ff12.binds (ps := ["_law_there", "_law_kind_here", "_law_asked"]) fun _ _ _ _ _ _ us hl => match us, hl with | [_, _, _], _ => rfl
  have Nf12 : Fnc K mg "_law_has" ["_law_there", "_law_kind_here", "_law_asked"] sHas qf12 _ := ⟨Ff12, bf12, PySem.W.mg_of X G af12⟩
  have Ff13 := fun_mk (st := sLHad) lf13 cf13 kf13
  have bf13 := Ff13.binds (ps := ["_law_there", "_law_mark", "_law_asked"]) fun _ _ _ _ _ _ us hl => match us, hl with | [_, _, _], _ => rfl
  have Nf13 : Fnc K mg "_law_had" ["_law_there", "_law_mark", "_law_asked"] sLHad qf13 _ := ⟨Ff13, bf13, PySem.W.mg_of X G af13⟩
  have Ff14 := fun_mk (st := sLaw) lf14 cf14 kf14
  have bf14 := Ff14.binds (ps := ["_law_script"]) fun _ _ _ _ _ _ us hl => match us, hl with | [_], _ => rfl
  have Nf14 : Fnc K mg "law" ["_law_script"] sLaw fa _ := ⟨Ff14, bf14, PySem.W.mg_of X G af14⟩
  have Fm1 := fun_mk (st := sInit) lm1 cm1 km1
  have bm1 := Fm1.binds (ps := ["self"]) fun _ _ _ _ _ _ us hl => match us, hl with | [_], _ => rfl
  have Mm1 : Mth K C "__init__" "Having.__init__" ["self"] sInit qm1 _ := ⟨Fm1, bm1, ⟨am1, im1, km1⟩⟩
  have Fm2 := fun_mk (st := sMore) lm2 cm2 km2
  have bm2 := Fm2.binds (ps := ["self", "texts", "some"]) fun _ _ _ _ _ _ us hl => match us, hl with | [_, _, _], _ => rfl
  have Mm2 : Mth K C "with_more" "Having.with_more" ["self", "texts", "some"] sMore qm2 _ := ⟨Fm2, bm2, ⟨am2, im2, km2⟩⟩
  have Fm3 := fun_mk (st := sHad) lm3 cm3 km3
  have bm3 := Fm3.binds (ps := ["self", "texts"]) fun _ _ _ _ _ _ us hl => match us, hl with | [_, _], _ => rfl
  have Mm3 : Mth K C "had" "Having.had" ["self", "texts"] sHad qm3 _ := ⟨Fm3, bm3, ⟨am3, im3, km3⟩⟩
  have Fm4 := fun_mk (st := sHadMore) lm4 cm4 km4
  have bm4 := Fm4.binds (ps := ["self", "texts", "marks"]) fun _ _ _ _ _ _ us hl => match us, hl with | [_, _, _], _ => rfl
  have Mm4 : Mth K C "had_more" "Having.had_more" ["self", "texts", "marks"] sHadMore qm4 _ := ⟨Fm4, bm4, ⟨am4, im4, km4⟩⟩
  have Fm5 := fun_mk (st := sFirst) lm5 cm5 km5
  have bm5 := Fm5.binds (ps := ["self", "texts", "marks", "moves"]) fun _ _ _ _ _ _ us hl => match us, hl with | [_, _, _, _], _ => rfl
  have Mm5 : Mth K C "first_not_had" "Having.first_not_had" ["self", "texts", "marks", "moves"] sFirst qm5 _ := ⟨Fm5, bm5, ⟨am5, im5, km5⟩⟩
  have Fm6 := fun_mk (st := sLack) lm6 cm6 km6
  have bm6 := Fm6.binds (ps := ["self", "texts", "marks", "kind"]) fun _ _ _ _ _ _ us hl => match us, hl with | [_, _, _, _], _ => rfl
  have Mm6 : Mth K C "lack_of" "Having.lack_of" ["self", "texts", "marks", "kind"] sLack qm6 _ := ⟨Fm6, bm6, ⟨am6, im6, km6⟩⟩
  have Fm7 := fun_mk (st := sTree) lm7 cm7 km7
  have bm7 := Fm7.binds (ps := ["self", "texts"]) fun _ _ _ _ _ _ us hl => match us, hl with | [_, _], _ => rfl
  have Mm7 : Mth K C "tree" "Having.tree" ["self", "texts"] sTree qm7 _ := ⟨Fm7, bm7, ⟨am7, im7, km7⟩⟩
  refine ⟨PySem.W.fnOf "law" "law" (defArgs sLaw) (defBody sLaw) (defScope sLaw) .none kVf14 dcf14 pmf14 anf14 cdf14 ctf14, fun s v => .of_eq rfl, fun base _ _ => ?_⟩
  have E8 := all_ends (P := l.prog) (w := w) (base := base) Nf1.F G0 Nf1.b Nf1.g 8
  have W9 := all_ways (P := l.prog) (w := w) (base := base) Nf2.F G0 Nf2.b Nf2.g 9
  have S8 := all_shown (P := l.prog) (w := w) (base := base) Nf3.F G0 Nf3.b Nf3.g 8
  have LE8 := all_lends (P := l.prog) (w := w) (base := base) Nf10.F G0 Nf10.b Nf10.g 8
  have LW8 := all_lways (P := l.prog) (w := w) (base := base) Nf11.F G0 Nf11.b Nf11.g 8
  have GM := fun (U : List Kd) (Ms : List Str) (c : Clo U) (cm : MkU U Ms) => ok_more (P := l.prog) (w := w) (base := base) c Mm2.F G0 T S8 Nf3.b Nf3.F.kp Nf3.g
  have GH := fun (n : Nat) (U : List Kd) (Ms : List Str) (c : Clo U) (cm : MkU U Ms) => all_had c cm G0 T (GM U Ms c cm) Mm2.b Mm2.m E8 Nf1.b Nf1.F.kp Nf1.g W9 Nf2.b Nf2.F.kp Nf2.g Mm3 Mm6 Mm5 Mm4 n
  have GL := fun (U : List Kd) (Ms : List Str) (c : Clo U) (cm : MkU U Ms) => ok_lack c (by decide) Mm6.F G0 T (GM U Ms c cm) Mm2.b Mm2.m E8 Nf1.b Nf1.F.kp Nf1.g (GH 18 U Ms c cm) Mm3.b Mm3.m
  have GF := fun (U : List Kd) (Ms : List Str) (c : Clo U) (cm : MkU U Ms) => (ok_first c Mm5.F G0 T (GL U Ms c cm) Mm6.b Mm6.m).mono (show 84 ≤ 88 by decide)
  have GT := fun (U : List Kd) (Ms : List Str) (c : Clo U) (cm : MkU U Ms) => all_tree c cm Mm7 G0 T W9 Nf2.b Nf2.F.kp Nf2.g (GF U Ms c cm) Mm5.b Mm5.m (GH 19 U Ms c cm) Mm3.b Mm3.m 19
  have GI := ok_init (P := l.prog) (w := w) (mg := mg) (base := base) Mm1.F T
  have GB := ok_barring Nf4.F T ⟨mk, am1, im1, kc⟩ GI Mm1.b GM Mm2.b Mm2.m (GH 19) Mm3.b Mm3.m GL Mm6.b Mm6.m GT Mm7.b Mm7.m
  have GA0 := fun (Tk : List Kd) (Ms : List Str) (lc : LClo Tk Ms) => ok_lhas lc (by decide) Nf12 G0 LE8 Nf10.b Nf10.F.kp Nf10.g Nf13 (all_lhad lc G0 Nf13 Nf12 LE8 Nf10.b Nf10.F.kp Nf10.g LW8 Nf11.b Nf11.F.kp Nf11.g 44)
  have GA : FnOk l.prog w K mg base CX0 99 qf12 _ ["_law_there", "_law_kind_here", "_law_asked"] spHasAny := ⟨fun vs H Q E hh => by
    obtain ⟨Tk, Ms, lc, hh⟩ := hh
    exact (GA0 Tk Ms lc).len vs H Q E hh, fun A outer s H args us vs Q E hr env hb hv hh => by
    obtain ⟨Tk, Ms, lc, hh⟩ := hh
    exact (GA0 Tk Ms lc).run A outer s H args us vs Q E hr env hb hv hh⟩
  have GP := ok_pool (P := l.prog) (w := w) (base := base) Nf5 G0
  have GTk := ok_take (P := l.prog) (w := w) (base := base) Nf6
  have GMk := ok_marks Nf7 G0 Nf6 GTk
  have GK := all_kind Nf8 G0 Nf6 GTk 8
  have GR := ok_row Nf9 G0 Nf6 GTk Nf8 GK
  exact ok_law Nf14 G0 Nf5 GP Nf6 GTk Nf7 GMk Nf8 GK Nf9 GR Nf12 GA Nf4 GB
end KF
open PySem PySem.W PyProof.Rows
set_option maxRecDepth 100000 in
set_option maxHeartbeats 0 in
theorem PySem.Challenge.cw_kindfill_k40_whole_one_of_both_holds : PySem.Challenge.rw_kindfill_k40_whole_one_of_both.Holds := by
  w_on; o_law; k_head; (case hw => w_witness2)
  k_fill
  refine L2.walk_of (l := PySem.Challenge.rw_kindfill_k40_whole_one_of_both) (n := 63) (k := 111) (x := "_law_script") (CX := fun _ => L2.CX0) (sp := fun w => KF.spLaw _) rfl (by decide) rfl ⟨rfl, by decide, by decide⟩ (fun w h Y => PySem.W.kIn_of Y) ?F (fun _ _ a ns hl _ hS => ⟨a, ns, rfl, hS, hl, fun _ => rfl⟩) (fun _ _ _ _ _ h => h)
  case F =>
    intro w mg fa h KX G hmg
    refine' KF.all_mk KX G hmg ?aO ?lO ?aC ?af1 ?lf1 ?cf1 ?kf1 ?af2 ?lf2 ?cf2 ?kf2 ?af3 ?lf3 ?cf3 ?kf3 ?af4 ?lf4 ?cf4 ?kf4 ?af5 ?lf5 ?cf5 ?kf5 ?af6 ?lf6 ?cf6 ?kf6 ?af7 ?lf7 ?cf7 ?kf7 ?af8 ?lf8 ?cf8 ?kf8 ?af9 ?lf9 ?cf9 ?kf9 ?af10 ?lf10 ?cf10 ?kf10 ?af11 ?lf11 ?cf11 ?kf11 ?af12 ?lf12 ?cf12 ?kf12 ?af13 ?lf13 ?cf13 ?kf13 ?af14 ?lf14 ?cf14 ?kf14 ?am1 ?im1 ?lm1 ?cm1 ?km1 ?am2 ?im2 ?lm2 ?cm2 ?km2 ?am3 ?im3 ?lm3 ?cm3 ?km3 ?am4 ?im4 ?lm4 ?cm4 ?km4 ?am5 ?im5 ?lm5 ?cm5 ?km5 ?am6 ?im6 ?lm6 ?cm6 ?km6 ?am7 ?im7 ?lm7 ?cm7 ?km7 ?pg ?hd ?po ?sa ?mk ?kc ?nK ?nF ?z_tuple ?z_sorted ?z_len ?z_min ?z_max ?z_set ?z_isinstance ?z_range ?z_int
    case aO => k_is
    case lO => k_is
    case aC => k_is
    case af1 => k_is
    case lf1 => k_is
    case cf1 => k_is
    case kf1 => k_is
    case af2 => k_is
    case lf2 => k_is
    case cf2 => k_is
    case kf2 => k_is
    case af3 => k_is
    case lf3 => k_is
    case cf3 => k_is
    case kf3 => k_is
    case af4 => k_is
    case lf4 => k_is
    case cf4 => k_is
    case kf4 => k_is
    case af5 => k_is
    case lf5 => k_is
    case cf5 => k_is
    case kf5 => k_is
    case af6 => k_is
    case lf6 => k_is
    case cf6 => k_is
    case kf6 => k_is
    case af7 => k_is
    case lf7 => k_is
    case cf7 => k_is
    case kf7 => k_is
    case af8 => k_is
    case lf8 => k_is
    case cf8 => k_is
    case kf8 => k_is
    case af9 => k_is
    case lf9 => k_is
    case cf9 => k_is
    case kf9 => k_is
    case af10 => k_is
    case lf10 => k_is
    case cf10 => k_is
    case kf10 => k_is
    case af11 => k_is
    case lf11 => k_is
    case cf11 => k_is
    case kf11 => k_is
    case af12 => k_is
    case lf12 => k_is
    case cf12 => k_is
    case kf12 => k_is
    case af13 => k_is
    case lf13 => k_is
    case cf13 => k_is
    case kf13 => k_is
    case af14 => k_is
    case lf14 => k_is
    case cf14 => k_is
    case kf14 => k_is
    case am1 => k_is
    case im1 => k_is
    case lm1 => k_is
    case cm1 => k_is
    case km1 => k_is
    case am2 => k_is
    case im2 => k_is
    case lm2 => k_is
    case cm2 => k_is
    case km2 => k_is
    case am3 => k_is
    case im3 => k_is
    case lm3 => k_is
    case cm3 => k_is
    case km3 => k_is
    case am4 => k_is
    case im4 => k_is
    case lm4 => k_is
    case cm4 => k_is
    case km4 => k_is
    case am5 => k_is
    case im5 => k_is
    case lm5 => k_is
    case cm5 => k_is
    case km5 => k_is
    case am6 => k_is
    case im6 => k_is
    case lm6 => k_is
    case cm6 => k_is
    case km6 => k_is
    case am7 => k_is
    case im7 => k_is
    case lm7 => k_is
    case cm7 => k_is
    case km7 => k_is
    case pg => k_is
    case hd => k_is
    case po => k_is
    case sa => k_is
    case mk => k_is
    case kc => k_is
    case nK => k_is
    case nF => k_is
    case z_tuple => k_is
    case z_sorted => k_is
    case z_len => k_is
    case z_min => k_is
    case z_max => k_is
    case z_set => k_is
    case z_isinstance => k_is
    case z_range => k_is
    case z_int => k_is
