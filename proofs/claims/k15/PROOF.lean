import PyProof.Rows.All
import Wide.All
import OpenK.AllK
import Wide.FinOn
import KE.KStateDown
import Lean
import HandS.ForMost
import HandS.WordsExc
import HandS.Defaults
import HandS.Head0
import HandS.Head1
import HandS.Head2
import HandS.HeadEnd
import HandS.HeadHook1
import HandS.HeadHook2
import HandS.Strs
import HandS.SetFor
import HandS.TupAny
import HandS.TupMul
import HandS.Zip
import HandS.Star
import HandS.Style
import HandS.IsInst
import HandS.Wide
import HandS.Flow
import PySem.Challenge.RW_echofields_k15_whole_ends_of_trees_are_c
set_option Elab.async false
set_option linter.all false
set_option maxRecDepth 100000
set_option maxHeartbeats 0
/-! The plain mathematics of the law: forms in which each field is the target of at most one link, none of the root. -/
namespace K15

structure Lnk where
  src : Nat
  tgt : Nat
  tab : List (Option Nat)
structure Fm where
  sizes : List Nat
  links : List Lnk

def Fm.n (F : Fm) : Nat := F.sizes.length
def Fm.m (F : Fm) : Nat := F.links.length
def lk (F : Fm) (k : Nat) : Lnk := F.links.getD k ⟨0, 0, []⟩
theorem lk_of {F : Fm} {k : Nat} {L : Lnk} (h : F.links[k]? = some L) : lk F k = L := by
  unfold lk
  rw [List.getD_eq_getElem?_getD, h]
  rfl
theorem lk_get {F : Fm} {k : Nat} (h : k < F.m) : F.links[k]? = some (lk F k) := by
  have h' : k < F.links.length := h
  unfold lk
  rw [List.getD_eq_getElem?_getD, List.getElem?_eq_getElem h']
  rfl
def at0 (x : List Nat) (i : Nat) : Nat := x.getD i 0
theorem at0_of {x : List Nat} {i v : Nat} (h : x[i]? = some v) : at0 x i = v := by
  unfold at0
  rw [List.getD_eq_getElem?_getD, h]
  rfl
theorem at0_get {x : List Nat} {i : Nat} (h : i < x.length) : x[i]? = some (at0 x i) := by
  unfold at0
  rw [List.getD_eq_getElem?_getD, List.getElem?_eq_getElem h]
  rfl
theorem at0_set (x : List Nat) (i j v : Nat) (h : i < x.length) : at0 (x.set i v) j = if i = j then v else at0 x j := by
  unfold at0
  rw [List.getD_eq_getElem?_getD, List.getD_eq_getElem?_getD, List.getElem?_set]
  by_cases e : i = j
  · subst e
    simp [h]
  · simp [e]
def wishOf (L : Lnk) (x : List Nat) : Option Nat := L.tab.getD (at0 x L.src) none
def loudL (L : Lnk) (x : List Nat) : Bool := match wishOf L x with
  | none => false
  | some v => !decide (v = at0 x L.tgt)
def loud (F : Fm) (x : List Nat) : List Nat := (List.range F.m).filter fun k => loudL (lk F k) x
def lfrom (F : Fm) (f : Nat) : List Nat := (List.range F.m).filter fun k => decide ((lk F k).src = f)

theorem mem_loud {F : Fm} {x : List Nat} {k : Nat} : k ∈ loud F x ↔ k < F.m ∧ loudL (lk F k) x = true := by
  unfold loud
  rw [List.mem_filter, List.mem_range]
theorem mem_lfrom {F : Fm} {f k : Nat} : k ∈ lfrom F f ↔ k < F.m ∧ (lk F k).src = f := by
  unfold lfrom
  rw [List.mem_filter, List.mem_range, decide_eq_true_eq]
theorem asc_range (n : Nat) : (List.range n).Pairwise (· < ·) := List.pairwise_lt_range
theorem asc_lfrom (F : Fm) (f : Nat) : (lfrom F f).Pairwise (· < ·) := (asc_range _).filter _

structure Good (F : Fm) : Prop where
  n1 : 1 ≤ F.n
  n4 : F.n ≤ 4
  m4 : F.m ≤ 4
  sz : ∀ i, i < F.n → 2 ≤ at0 F.sizes i ∧ at0 F.sizes i ≤ 6
  src : ∀ k, k < F.m → (lk F k).src < F.n
  tgt : ∀ k, k < F.m → (lk F k).tgt < F.n
  ne : ∀ k, k < F.m → (lk F k).src ≠ (lk F k).tgt
  len : ∀ k, k < F.m → (lk F k).tab.length = at0 F.sizes (lk F k).src
  val : ∀ k, k < F.m → ∀ v, some v ∈ (lk F k).tab → v < at0 F.sizes (lk F k).tgt
structure Fil (F : Fm) (x : List Nat) : Prop where
  len : x.length = F.n
  lt : ∀ i, i < F.n → at0 x i < at0 F.sizes i
structure Tree (F : Fm) (r : Nat) : Prop where
  good : Good F
  root : r < F.n
  noroot : ∀ k, k < F.m → (lk F k).tgt ≠ r
  one : ∀ j k, j < F.m → k < F.m → (lk F j).tgt = (lk F k).tgt → j = k

/-- what a firing of link k leads to -/
structure After (F : Fm) (x P : List Nat) (k : Nat) (x' P' : List Nat) : Prop where
  quiet : loudL (lk F k) x = false → x' = x ∧ P' = P.filter fun j => !decide (j = k)
  loud : ∀ v, wishOf (lk F k) x = some v → loudL (lk F k) x = true → x' = x.set (lk F k).tgt v ∧ P'.Pairwise (· < ·) ∧
    ∀ j, j ∈ P' ↔ (j ∈ P ∧ j ≠ k) ∨ j ∈ lfrom F (lk F k).tgt

/-- what holds along a run: D are the links that have fired -/
structure Run (F : Fm) (r : Nat) (x P D : List Nat) : Prop where
  fil : Fil F x
  asc : P.Pairwise (· < ·)
  lt : ∀ k ∈ P, k < F.m
  whole : ∀ k ∈ loud F x, k ∈ P
  nd : D.Nodup
  dlt : ∀ k ∈ D, k < F.m
  disj : ∀ k ∈ P, k ∉ D
  reach : ∀ k, k ∈ P ∨ k ∈ D → (lk F k).src = r ∨ ∃ j, j ∈ D ∧ (lk F j).tgt = (lk F k).src

theorem Fil.set {F : Fm} {x : List Nat} {i v : Nat} (h : Fil F x) (hi : i < F.n) (hv : v < at0 F.sizes i) : Fil F (x.set i v) := by
  refine ⟨by rw [List.length_set]; exact h.len, fun j hj => ?_⟩
  rw [at0_set _ _ _ _ (by rw [h.len]; exact hi)]
  by_cases e : i = j
  · subst e
    rw [if_pos rfl]
    exact hv
  · rw [if_neg e]
    exact h.lt j hj
/-- a link's loudness leans on its source and target alone -/
theorem loud_same {L : Lnk} {x y : List Nat} (h1 : at0 y L.src = at0 x L.src) (h2 : at0 y L.tgt = at0 x L.tgt) : loudL L y = loudL L x := by
  unfold loudL wishOf
  rw [h1, h2]
theorem wish_val {F : Fm} (G : Good F) {x : List Nat} {k v : Nat} (hk : k < F.m) (h : wishOf (lk F k) x = some v) : v < at0 F.sizes (lk F k).tgt := by
  refine G.val k hk v ?_
  unfold wishOf at h
  rw [List.getD_eq_getElem?_getD] at h
  cases e : (lk F k).tab[at0 x (lk F k).src]? with
  | none => rw [e] at h; cases h
  | some o =>
    rw [e] at h
    have h' : o = some v := h
    subst h'
    exact List.mem_of_getElem? e
theorem loud_wish {L : Lnk} {x : List Nat} (h : loudL L x = true) : ∃ v, wishOf L x = some v ∧ v ≠ at0 x L.tgt := by
  unfold loudL at h
  cases e : wishOf L x with
  | none => rw [e] at h; cases h
  | some v =>
    rw [e] at h
    refine ⟨v, rfl, fun z => ?_⟩
    subst z
    simp at h
theorem loud_not {L : Lnk} {x : List Nat} {v : Nat} (h : wishOf L x = some v) (e : v = at0 x L.tgt) : loudL L x = false := by
  unfold loudL
  rw [h]
  show (!decide (v = at0 x L.tgt)) = false
  rw [decide_eq_true e]
  rfl
theorem run_begin_same {F : Fm} {r : Nat} {x : List Nat} (hx : Fil F x) (hc : loud F x = []) : Run F r x [] [] :=
  ⟨hx, List.Pairwise.nil, fun _ h => (nomatch h), fun k h => (by rw [hc] at h; exact h), List.nodup_nil, fun _ h => (nomatch h), fun _ h => (nomatch h),
    fun k h => h.elim (fun z => (nomatch z)) fun z => (nomatch z)⟩
theorem run_begin {F : Fm} {r v : Nat} {x : List Nat} (T : Tree F r) (hx : Fil F x) (hc : loud F x = []) (hv : v < at0 F.sizes r) : Run F r (x.set r v) (lfrom F r) [] := by
  refine ⟨hx.set T.root hv, asc_lfrom F r, fun k h => (mem_lfrom.mp h).1, fun k h => ?_, List.nodup_nil, fun _ h => (nomatch h), fun _ _ h => (nomatch h), fun k h => ?_⟩
  · obtain ⟨hk, hl⟩ := mem_loud.mp h
    by_cases e : (lk F k).src = r
    · exact mem_lfrom.mpr ⟨hk, e⟩
    · have q : k ∈ loud F x := by
        refine mem_loud.mpr ⟨hk, ?_⟩
        have hr : r < x.length := by rw [hx.len]; exact T.root
        rw [← hl]
        refine (loud_same ?_ ?_).symm
        · rw [at0_set _ _ _ _ hr, if_neg fun z => e z.symm]
        · rw [at0_set _ _ _ _ hr, if_neg fun z => T.noroot k hk z.symm]
      rw [hc] at q
      cases q
  · rcases h with h | h
    · exact .inl (mem_lfrom.mp h).2
    · cases h
theorem run_step {F : Fm} {r k : Nat} {x P D x' P' : List Nat} (T : Tree F r) (R : Run F r x P D) (hk : k ∈ P) (A : After F x P k x' P') : Run F r x' P' (k :: D) ∧ x'.set (lk F k).tgt 0 = x.set (lk F k).tgt 0 := by
  have hkm := R.lt k hk
  have nd' : (k :: D).Nodup := List.nodup_cons.mpr ⟨R.disj k hk, R.nd⟩
  have dlt' : ∀ j ∈ k :: D, j < F.m := fun j hj => (List.mem_cons.mp hj).elim (fun z => z ▸ hkm) (R.dlt j)
  have old : ∀ j, j ∈ P ∨ j ∈ k :: D → (lk F j).src = r ∨ ∃ i, i ∈ k :: D ∧ (lk F i).tgt = (lk F j).src := fun j hj => by
    have hj' : j ∈ P ∨ j ∈ D := by
      rcases hj with z | z
      · exact .inl z
      · rcases List.mem_cons.mp z with z | z
        · exact .inl (z ▸ hk)
        · exact .inr z
    rcases R.reach j hj' with z | ⟨i, h1, h2⟩
    · exact .inl z
    · exact .inr ⟨i, List.mem_cons_of_mem _ h1, h2⟩
  cases hl : loudL (lk F k) x with
  | false =>
    obtain ⟨rfl, rfl⟩ := A.quiet hl
    refine ⟨⟨R.fil, R.asc.filter _, fun j hj => R.lt j (List.mem_filter.mp hj).1, fun j hj => ?_, nd', dlt', fun j hj hd => ?_, fun j hj => ?_⟩, rfl⟩
    · refine List.mem_filter.mpr ⟨R.whole j hj, ?_⟩
      have hne : j ≠ k := fun e => by
        have q := (mem_loud.mp hj).2
        rw [e, hl] at q
        cases q
      simp [hne]
    · obtain ⟨h1, h2⟩ := List.mem_filter.mp hj
      rcases List.mem_cons.mp hd with e | e
      · simp [e] at h2
      · exact R.disj j h1 e
    · refine old j (hj.imp (fun z => (List.mem_filter.mp z).1) id)
  | true =>
    obtain ⟨v, hw, hv⟩ := loud_wish hl
    obtain ⟨rfl, asc, mem⟩ := A.loud v hw hl
    have htn := T.good.tgt k hkm
    have hxt : (lk F k).tgt < x.length := by rw [R.fil.len]; exact htn
    refine ⟨⟨R.fil.set htn (wish_val T.good hkm hw), asc, fun j hj => ?_, fun j hj => ?_, nd', dlt', fun j hj hd => ?_, fun j hj => ?_⟩, ?_⟩
    · rcases (mem j).mp hj with z | z
      · exact R.lt j z.1
      · exact (mem_lfrom.mp z).1
    · obtain ⟨hjm, hjl⟩ := mem_loud.mp hj
      refine (mem j).mpr ?_
      by_cases e : (lk F j).src = (lk F k).tgt
      · exact .inr (mem_lfrom.mpr ⟨hjm, e⟩)
      · by_cases e2 : j = k
        · subst e2
          exfalso
          have q : loudL (lk F j) (x.set (lk F j).tgt v) = false := by
            refine loud_not (v := v) ?_ ?_
            · unfold wishOf
              rw [at0_set _ _ _ _ hxt, if_neg fun z => e z.symm]
              exact hw
            · rw [at0_set _ _ _ _ hxt, if_pos rfl]
          rw [q] at hjl
          cases hjl
        · refine .inl ⟨R.whole j (mem_loud.mpr ⟨hjm, ?_⟩), e2⟩
          rw [← hjl]
          refine (loud_same ?_ ?_).symm
          · rw [at0_set _ _ _ _ hxt, if_neg fun z => e z.symm]
          · rw [at0_set _ _ _ _ hxt, if_neg fun z => e2 (T.one j k hjm hkm z.symm)]
    · rcases (mem j).mp hj with z | z
      · rcases List.mem_cons.mp hd with e | e
        · exact z.2 e
        · exact R.disj j z.1 e
      · obtain ⟨hjm, hjs⟩ := mem_lfrom.mp z
        have hjD : j ∈ P ∨ j ∈ D := by
          rcases List.mem_cons.mp hd with e | e
          · exact .inl (e ▸ hk)
          · exact .inr e
        rcases R.reach j hjD with q | ⟨i, h1, h2⟩
        · exact T.noroot k hkm (hjs ▸ q)
        · have e : i = k := T.one i k (R.dlt i h1) hkm (h2.trans hjs)
          subst e
          exact R.disj i hk h1
    · rcases hj with hj | hj
      · rcases (mem j).mp hj with z | z
        · exact old j (.inl z.1)
        · exact .inr ⟨k, List.mem_cons_self, (mem_lfrom.mp z).2.symm⟩
      · exact old j (.inr hj)
    · rw [List.set_set]
theorem nodup_le {m : Nat} : ∀ {D : List Nat}, D.Nodup → (∀ k ∈ D, k < m) → D.length ≤ m := by
  induction m with
  | zero =>
    intro D _ h
    cases D with
    | nil => exact Nat.le_refl _
    | cons a r => exact absurd (h a List.mem_cons_self) (Nat.not_lt_zero _)
  | succ m ih =>
    intro D nd h
    have h1 : (D.erase m).length ≤ m := ih (nd.erase m) fun k hk => by
      have q := (List.Nodup.mem_erase_iff nd).mp hk
      have := h k q.2
      have := q.1
      omega
    rw [List.length_erase] at h1
    split at h1 <;> omega
theorem run_end {F : Fm} {r : Nat} {x P D : List Nat} (R : Run F r x P D) (h : F.m ≤ D.length) : P = [] := by
  cases P with
  | nil => rfl
  | cons k P =>
    exfalso
    have q := nodup_le (m := F.m) (D := k :: D) (List.nodup_cons.mpr ⟨R.disj k List.mem_cons_self, R.nd⟩) fun j hj => (List.mem_cons.mp hj).elim (fun z => z ▸ R.lt k List.mem_cons_self) (R.dlt j)
    rw [List.length_cons] at q
    omega
theorem calm_end {F : Fm} {r : Nat} {x D : List Nat} (R : Run F r x [] D) : loud F x = [] := by
  cases e : loud F x with
  | nil => rfl
  | cons k l =>
    have := R.whole k (by rw [e]; exact List.mem_cons_self)
    cases this
end K15
namespace K15
open PySem PySem.Spec PyProof.Rows L2
def top (i : Nat) : Stmt := PySem.Challenge.pw_echofields_k15_whole_ends_of_trees_are_c.main.body.getD i (.Pass ⟨0, 0, 0, 0⟩)
abbrev sis_integer : Stmt := top 7
abbrev sis_filling : Stmt := top 8
abbrev sis_edit : Stmt := top 9
abbrev srequire_filling : Stmt := top 10
abbrev swished : Stmt := top 11
abbrev sis_loud : Stmt := top 12
abbrev sloud_links : Stmt := top 13
abbrev sis_calm : Stmt := top 14
abbrev sis_chain : Stmt := top 15
abbrev sis_round : Stmt := top 16
abbrev sleast_round : Stmt := top 17
abbrev sranks_of : Stmt := top 18
abbrev sfield_ring : Stmt := top 19
abbrev sis_once : Stmt := top 21
abbrev sis_shy : Stmt := top 22
abbrev slinks_from : Stmt := top 23
abbrev swith_value : Stmt := top 24
abbrev sfirst_moment : Stmt := top 25
abbrev smoment_after : Stmt := top 26
abbrev sare_links : Stmt := top 27
abbrev sis_moment : Stmt := top 28
abbrev srequire_beginning : Stmt := top 29
abbrev sbegin : Stmt := top 30
abbrev sis_pending : Stmt := top 31
abbrev sfire : Stmt := top 32
abbrev s_law_opened : Stmt := top 34
abbrev s_law_draw : Stmt := top 35
abbrev s_law_one : Stmt := top 36
abbrev s_law_sizes : Stmt := top 37
abbrev s_law_table : Stmt := top 38
abbrev s_law_tree : Stmt := top 41
abbrev slaw : Stmt := top 42
abbrev FnP (K : PySem.W.Frag) (x : Str) (st : Stmt) (f : Addr) (fd : FuncData) : Prop := FunD K x x (defArgs st) (defBody st) (defScope st) [] [] f fd
def dOf (x : Str) (st : Stmt) : He.DefD := ⟨(x, none), x, x, defArgs st, defBody st, defScope st, [], []⟩
def fn : List He.DefD := ([dOf "is_integer" sis_integer, dOf "is_filling" sis_filling, dOf "is_edit" sis_edit, dOf "require_filling" srequire_filling, dOf "wished" swished, dOf "is_loud" sis_loud, dOf "loud_links" sloud_links, dOf "is_calm" sis_calm, dOf "is_chain" sis_chain, dOf "is_round" sis_round, dOf "least_round" sleast_round, dOf "ranks_of" sranks_of] : List He.DefD) ++ ([dOf "field_ring" sfield_ring, dOf "is_once" sis_once, dOf "is_shy" sis_shy, dOf "links_from" slinks_from, dOf "with_value" swith_value, dOf "first_moment" sfirst_moment, dOf "moment_after" smoment_after, dOf "are_links" sare_links, dOf "is_moment" sis_moment, dOf "require_beginning" srequire_beginning, dOf "begin" sbegin, dOf "is_pending" sis_pending] : List He.DefD) ++ ([dOf "fire" sfire, dOf "_law_opened" s_law_opened, dOf "_law_draw" s_law_draw, dOf "_law_one" s_law_one, dOf "_law_sizes" s_law_sizes, dOf "_law_table" s_law_table, dOf "_law_tree" s_law_tree, dOf "law" slaw] : List He.DefD)
def fa : List He.Fa := ([.glo "is_integer", .glo "is_filling", .glo "is_edit", .glo "require_filling", .glo "wished", .glo "is_loud", .glo "loud_links", .glo "is_calm", .glo "is_chain", .glo "is_round", .glo "least_round", .glo "ranks_of"] : List He.Fa) ++ ([.glo "field_ring", .glo "is_once", .glo "is_shy", .glo "links_from", .glo "with_value", .glo "first_moment", .glo "moment_after", .glo "are_links", .glo "is_moment", .glo "require_beginning", .glo "begin", .glo "is_pending"] : List He.Fa) ++ ([.glo "fire", .glo "_law_opened", .glo "_law_draw", .glo "_law_one", .glo "_law_sizes", .glo "_law_table", .glo "_law_tree", .glo "law", .free "len", .free "isinstance", .free "int", .free "bool"] : List He.Fa) ++ ([.free "tuple", .free "all", .free "zip", .free "range", .free "max", .free "list", .free "sorted", .free "set", .free "abs", .free "min"] : List He.Fa)
def looseN : List Str := (["FieldError", "BadEdit", "BadFilling", "BadMoment", "NoLink", "is_integer", "is_filling", "is_edit", "require_filling", "wished", "is_loud", "loud_links"] : List Str) ++ (["is_calm", "is_chain", "is_round", "least_round", "ranks_of", "field_ring", "is_once", "is_shy", "links_from", "with_value", "first_moment", "moment_after"] : List Str) ++ (["are_links", "is_moment", "require_beginning", "begin", "is_pending", "fire", "_law_opened", "_law_draw", "_law_one", "_law_sizes", "_law_table", "_law_link"] : List Str) ++ (["_law_form", "_law_tree"] : List Str)
abbrev R : PySem.W.OpenRow := PySem.W.OpenLaw.row PySem.Challenge.rw_echofields_k15_whole_ends_of_trees_are_c
abbrev hk : PySem.W.Hook := He.hookD 4 fa fn
def ob (s : PySem.W.SharedT) : He.AlD := He.obsDG 4 fa fn (HandSHeadRun.getT s)
theorem ob_eq (s : PySem.W.SharedT) : ob s = hk.obs s.abs := He.obsDG_eq (HandSHeadRun.getT_eq s)
theorem run (w : World) : HandSHeadRun.RunEq R (PySem.W.view R.prog [42]) hk ob 6000 looseN w := by
  intro os
  kernel_rfl
end K15
/-! set(xs) of a list of ints, as a set that may be walked (sorted) afterwards: the list's side of SetFor's rule for tuples. -/
namespace K15
open PySem PySem.Spec PyProof.Rows L2
section
variable {P : Program} {w : World} {A : Around} {E : Value → Shared → Prop} {s : Shared}
/-- the new empty set -/
abbrev noSet (w : World) : Obj := { cls := .type "set", dict := none, data := .set #[] 0 (.fresh 0 0 (!w.params.followText "set-order")) }
set_option maxHeartbeats 3200000 in
theorem setOfList {l : Addr} {items : Array Value} (ns : List Int) {Q : Value → Shared → Prop} (hh : A.handled = none) (hl : s.heap.IsList l items) (hit : IntsAre items.toList ns) (few : ns.length + 1 < scanBound)
    (fin : ∀ (g : Heap) (tk c : Nat), SetR w g s.heap.objs.size (fun j => decide (j ∈ ns)) c → c ≤ ns.length → (∀ b o, s.heap.get? b = some o → g.get? b = some o) → Q (.ref s.heap.objs.size) { s with heap := g, toks := tk }) :
    wpAny (model P w) A (call (.type "set") [.ref l]) Q E s := by
  have same : items.size = ns.length := by
    rw [← Array.length_toList]
    exact IntsAre.length hit
  obtain ⟨c0, tl0, hmro⟩ := F.called_set.mro
  have hmade := F.called_set.made
  have hsub := F.called_set.sub
  refine wpAny_call (codeAny_of_tree ?_)
  show wpAny _ _ (callAny (.type "set") _) _ _ _
  refine wpAny_pure ⟨Code.quiet_builtin _ (by decide +kernel), codeAny_builtin F.entry_type_call ?_⟩
  rw [Around.under_plain (weight_type_call_type "set" [.ref l] []) rfl]
  have n1 := F.called_set.notType
  have n2 := F.called_set.canCreate
  have n3 := F.typeCall_set_1 (.ref l)
  repeat (any_goals (first | assumption | wp_step))
  refine codeAny_mono (code_set_led1 (P := P) (.ref l) (E := E) (Q₁ := fun z s1 => z = .ref s.heap.objs.size ∧ s1 = { s with heap := s.heap.push (noSet w) }) ⟨rfl, rfl⟩) fun r s1 hr => ?_
  rcases r with e | fl
  · exact hr
  cases fl with
  | ret obj =>
    obtain ⟨rfl, rfl⟩ := hr
    have at0 : (s.heap.push (noSet w)).get? s.heap.objs.size = some (noSet w) := Heap.get?_push_size _ rfl
    have ty0 : Shared.TypeIs { s with heap := s.heap.push (noSet w) } (.ref s.heap.objs.size) "set" := ⟨_, at0, rfl⟩
    have m1 := F.called_set.init.lookup
    have m2 := F.called_set.init.bind (.ref s.heap.objs.size)
    repeat (any_goals (first | assumption | wp_step))
    refine codeAny_mono (codeAny_call_builtin (R := wants (fun r s2 => r = .none ∧ ∃ g tk c, s2 = { s with heap := g, toks := tk } ∧ SetR w g s.heap.objs.size (fun j => decide (j ∈ ns)) c ∧ c ≤ ns.length ∧
        (∀ b o, s.heap.get? b = some o → g.get? b = some o)) E) F.called_set.init.plain F.entry_set_init (check_set_init_1 ty0 ?_)) fun r2 s2 hr2 => ?_
    · obtain ⟨⟨kc, kd, kt, ks⟩, ho, hc, nl, hd⟩ := hl
      dsimp only at hc hd
      subst hc hd
      have ho1 : (s.heap.push (noSet w)).get? l = some { cls := .type "list", dict := kd, data := .seq items nl, slots := ks } := Heap.get?_push_of_some _ ho
      have no1 := F.sub_list_set
      have no2 := F.sub_list_frozenset
      have no3 : (Value.type "list" == Value.type "dict") = false := by decide
      have L1 : (s.heap.push (noSet w)).IsList l items := ⟨_, ho1, rfl, nl, rfl⟩
      unfold Builtin.«set.__init__» noKeywords Builtin.Frozenset.updateFrom
      generalize hIt : pyIter = It
      wp_walk
      subst hIt
      refine wpAny_pyIter_list L1 ?_
      refine wpAny_bind (wpAny_runValue ?_)
      have lt : l < s.heap.objs.size := Heap.lt_size ho
      have calm : A.in1.in1.in1.handled = none := by simp [hh]
      have apart : l ≠ (s.heap.push (noSet w)).objs.size := by
        rw [Heap.size_push]
        exact Nat.ne_of_lt (Nat.lt_succ_of_lt lt)
      have notIn : s.heap.objs.size ∉ [(s.heap.push (noSet w)).objs.size, l] := by
        rw [Heap.size_push]
        simp only [List.mem_cons, List.mem_singleton, List.not_mem_nil, or_false, not_or]
        exact ⟨Nat.ne_of_lt (Nat.lt_succ_self _), Nat.ne_of_gt lt⟩
      have vals : ∀ (i : Nat) (v : Value), items[i]? = some v → ∃ k t, ns[i]? = some k ∧ v = .int k t := fun i v hv => by
        have hi : i < ns.length := by
          rw [← same]
          exact (Array.getElem?_eq_some_iff.mp hv).1
        obtain ⟨t, e⟩ := PyProof.Rows.IntsAre.int_at hit i v (by rw [Array.getElem?_toList]; exact hv)
        refine ⟨ns[i], t, List.getElem?_eq_getElem hi, ?_⟩
        rw [e, List.getD_eq_getElem?_getD, List.getElem?_eq_getElem hi]
        all_goals rfl
      refine set_update_ints ((Walks.list calm _ l apart items).toS) s.heap.objs.size notIn ns same few vals (items.size - 0) 0 _ (by omega) (Nat.zero_le _) ⟨⟨_, Heap.get?_push_size _ rfl, rfl, rfl⟩, L1.push _⟩ ⟨0, Nat.le_refl 0, setR_new_at (Heap.get?_push_of_some _ at0)⟩ ?_
      rintro ⟨g, gg, dd, tk, oo⟩ c mv hc hS
      obtain rfl : gg = s.gens := mv.gens
      obtain rfl : dd = s.drawn := mv.drawn
      obtain rfl : oo = s.os := mv.os
      show wpAny _ _ _ _ _ _
      refine wpAny_pure ?_
      show wpAny _ _ (ret Value.none) _ _ _
      rw [same] at hc
      refine wpAny_pure ⟨rfl, g, tk, c, rfl, hS, hc, fun b o e => ?_⟩
      have hb := Heap.lt_size e
      refine mv.heap b o ?_ (Heap.get?_push_of_some _ (Heap.get?_push_of_some _ e))
      simp only [List.mem_cons, List.mem_singleton, List.not_mem_nil, or_false, not_or]
      refine ⟨Nat.ne_of_lt hb, ?_⟩
      rw [Heap.size_push]
      exact Nat.ne_of_lt (Nat.lt_succ_of_lt hb)
    · rcases r2 with e | fl2
      · exact hr2
      cases fl2 with
      | ret r =>
        obtain ⟨rfl, g, tk, c, rfl, hS, hc, hk⟩ := hr2
        repeat (any_goals (first | assumption | wp_step))
        exact fin _ _ _ hS hc hk
      | _ => exact hr2.elim
  | _ => exact hr.elim
end
section
variable {X : Cx}
/-- set(xs), xs a list of ints -/
def rSetL (K : PySem.W.Frag) (w : World) : List V → Hp → VK → Prop := fun xs H Q => ∃ (l : Addr) (ns : List Int), xs = [V.ref l] ∧ SqL K H l (ns.map V.int) ∧ ns.length < 64 ∧
  ∀ p c, H p = none → c ≤ ns.length → Q (.ref p) (upd H p (SetO w p (fun j => decide (j ∈ ns)) c))
theorem cr_setL (hc : X.calm = true) : CallR X (.type "set") (rSetL X.K X.w) := by
  intro pins s σ H xs us Q I r h
  obtain ⟨l, ns, rfl, hl, few, q⟩ := h
  rw [Vals.ref1 r]
  obtain ⟨its, rv, pl, hz⟩ := I.list hl
  refine setOfList (P := X.prog) (w := X.w) ns (I.ok.hd hc) pl.isList (by simpa using rv.ints) (by unfold scanBound; omega) fun g tk c R hc k => ?_
  exact ⟨.ref s.heap.objs.size, upd H s.heap.objs.size (SetO X.w s.heap.objs.size (fun j => decide (j ∈ ns)) c), I.laid (t' := tk) k (Nat.le_refl _) (setO_new R), rfl, q _ c (I.hok.fresh (Nat.le_refl _)) hc⟩
end
end K15
/-! What the walk's texts share: callees by name, the data in the heap, comprehensions whose items are known one by one. -/
namespace K15
open PySem PySem.Spec PyProof.Rows L2
/-! ### callees -/
structure Cal (P : Program) (w : World) (K : PySem.W.Frag) (mg : Str → Option Value) (base : Heap) (x : Str) (k : Nat) (ps : List Str) (sp : Sp) : Prop where
  ex : ∃ f fd, FnOk P w K mg base CX0 k f fd ps sp ∧ mg x = some (.ref f) ∧ PySem.W.keepIn K (.ref f) = true ∧ Binds K fd ps []
theorem pe_cal {X : Cx} {x : Str} {k j : Nat} {ps : List Str} {sp : Sp} {e : Expr} {es : List Expr} {t : TA} {p pos : Pos} (c : Cal X.prog X.w X.K X.mg X.base x k ps sp) (hr : Room j X.A) (ha : PA X (e :: es) t) (hk : k ≤ j := by decide) (hg : Gl X x := by rfl)
    (hdb : (x == ("__debug__" : Str)) = false := by decide) (he : starEach (e :: es) X.env = (false, eval e X.env) :: starEach es X.env := by rfl) (hpl : (backTo pos (starEach es X.env)).any (·.1) = false := by rfl) :
    PE X (.Call (.Name x p) (e :: es) [] pos) (tCall sp [] E0 t) := by
  obtain ⟨f, fd, F, hm, kp, b⟩ := c.ex
  exact pe_call F (hr.mono hk) hg hm kp b .nil pass0 ha hdb he hpl
/-- the built-in names that the text leaves alone -/
structure Bl (mg : Str → Option Value) : Prop where
  len : mg "len" = none
  isi : mg "isinstance" = none
  int : mg "int" = none
  bool : mg "bool" = none
  tuple : mg "tuple" = none
  all : mg "all" = none
  zip : mg "zip" = none
  range : mg "range" = none
  max : mg "max" = none
  list : mg "list" = none
  sorted : mg "sorted" = none
  set : mg "set" = none
  abs : mg "abs" = none
  min : mg "min" = none
theorem b_len : bootBuiltins "len" = some (.builtin "len") := by decide +kernel
theorem b_isi : bootBuiltins "isinstance" = some (.builtin "isinstance") := by decide +kernel
theorem b_int : bootBuiltins "int" = some (.type "int") := by decide +kernel
theorem b_bool : bootBuiltins "bool" = some (.type "bool") := by decide +kernel
theorem b_tuple : bootBuiltins "tuple" = some (.type "tuple") := by decide +kernel
theorem b_all : bootBuiltins "all" = some (.builtin "all") := by decide +kernel
theorem b_max : bootBuiltins "max" = some (.builtin "max") := by decide +kernel
theorem b_min : bootBuiltins "min" = some (.builtin "min") := by decide +kernel
theorem b_abs : bootBuiltins "abs" = some (.builtin "abs") := by decide +kernel
theorem b_list : bootBuiltins "list" = some (.type "list") := by decide +kernel
theorem b_set : bootBuiltins "set" = some (.type "set") := by decide +kernel
theorem b_sorted : bootBuiltins "sorted" = some (.builtin "sorted") := by decide +kernel
/-- len of a tuple or a list, its reading by name -/
def rLenS (K : PySem.W.Frag) : List V → Hp → VK → Prop := fun xs H Q => ∃ p ys, xs = [.ref p] ∧ (SqL K H p ys ∨ SqT K H p ys) ∧ Q (.int ys.length) H
theorem call_lenS {X : Cx} : CallR X (.builtin "len") (rLenS X.K) := call_len_seq
/-- tuple of a list or a tuple, its reading by name -/
def rTupOf (K : PySem.W.Frag) : List V → Hp → VK → Prop := fun xs H Q => ∃ p ys, xs = [.ref p] ∧ ((SqL K H p ys ∧ ∀ l, H l = none → Q (.ref l) (upd H l (.tup ys))) ∨ (SqT K H p ys ∧ Q (.ref p) H))
theorem call_tupS {X : Cx} : CallR X (.type "tuple") (rTupOf X.K) := call_tuple_of
/-! ### isinstance -/
theorem isi_int {K : PySem.W.Frag} {i : Int} {H : Hp} {Q : VK} (q : Q (.bl true) H) : rIsi K [.int i, .ty "int"] H Q := ⟨_, _, _, _, _, rfl, .ty _, .base (.int i), kit_ty (by decide +kernel), q⟩
theorem isi_bool {K : PySem.W.Frag} {i : Int} {H : Hp} {Q : VK} (q : Q (.bl false) H) : rIsi K [.int i, .ty "bool"] H Q := ⟨_, _, _, _, _, rfl, .ty _, .base (.int i), kit_ty (by decide +kernel), q⟩
theorem isi_tup {K : PySem.W.Frag} {a : Addr} {xs : List V} {H : Hp} {Q : VK} (h : H a = some (.tup xs)) (q : Q (.bl true) H) : rIsi K [.ref a, .ty "tuple"] H Q := ⟨_, _, _, _, _, rfl, .ty _, .base (.tup h), kit_ty (by decide +kernel), q⟩
/-! ### values -/
abbrev nV (n : Nat) : V := .int (n : Int)
def oV : Option Nat → V
  | none => .non
  | some n => nV n
theorem at_map {α : Type} {f : α → V} {xs : List α} {i : Nat} {v : α} (h : xs[i]? = some v) : atI (xs.map f) (i : Int) = some (f v) := atI_nat (by rw [List.getElem?_map, h]; rfl)
theorem at_nV {xs : List Nat} {i : Nat} (h : i < xs.length) : atI (xs.map nV) (i : Int) = some (nV (at0 xs i)) := at_map (at0_get h)
theorem nV_get {xs : List Nat} {i : Nat} {v : V} (h : (xs.map nV)[i]? = some v) : i < xs.length ∧ v = nV (at0 xs i) := by
  have hi := (List.getElem?_eq_some_iff.mp h).1
  rw [List.length_map] at hi
  rw [List.getElem?_map, at0_get hi] at h
  exact ⟨hi, (Option.some.inj h).symm⟩
theorem line_small {n : Nat} (h : n ≤ 1000) : n ≤ sizeLine := Nat.le_of_lt (small1000 h)
theorem map_nV (xs : List Nat) : xs.map nV = (xs.map fun n : Nat => (n : Int)).map V.int := by
  rw [List.map_map]
  rfl
theorem at_tab {L : Lnk} {xs : List Nat} (h : at0 xs L.src < L.tab.length) : atI (L.tab.map oV) (at0 xs L.src : Int) = some (oV (wishOf L xs)) := by
  refine at_map ?_
  unfold wishOf
  rw [List.getD_eq_getElem?_getD, List.getElem?_eq_getElem h]
  rfl
theorem loud_in (L : Lnk) (xs : List Nat) : (!inV (oV (wishOf L xs)) [.non, nV (at0 xs L.tgt)]) = loudL L xs := by
  unfold loudL
  cases wishOf L xs with
  | none => rfl
  | some v =>
    show (!(false || (((at0 xs L.tgt : Int) == (v : Int)) || false))) = !decide (v = at0 xs L.tgt)
    by_cases e : v = at0 xs L.tgt
    · rw [decide_eq_true e, e]
      simp
    · have e2 : ¬ ((at0 xs L.tgt : Int) = (v : Int)) := fun z => e (Int.ofNat.inj z).symm
      rw [decide_eq_false e]
      simp [e2]
/-! ### == of ints in lists and tuples -/
theorem dp_ints {K : PySem.W.Frag} {H : Hp} : ∀ ns : List Int, DpAll K H (ns.map V.int) (ns.map PyData.int)
  | [] => .nil
  | n :: ns => .cons (.int n) (dp_ints ns)
theorem lay_ints : ∀ ns : List Int, PyData.canLayAll0 (ns.map PyData.int) = true
  | [] => by simp [PyData.canLayAll0]
  | n :: ns => by simp [PyData.canLayAll0, PyData.canLay0, lay_ints ns]
theorem depth_ints : ∀ ns : List Int, PyData.depthAll (ns.map PyData.int) ≤ 1
  | [] => by simp [PyData.depthAll]
  | n :: ns => by
    have h := depth_ints ns
    simp only [List.map_cons, PyData.depthAll, PyData.depth]
    omega
theorem shaped_tup (ns : List Int) : SeqAt.shaped (.tuple (ns.map PyData.int)) = true := by
  have h1 : PyData.canLay0 (.tuple (ns.map PyData.int)) = true := by simpa [PyData.canLay0] using lay_ints ns
  have h2 : PyData.depth (.tuple (ns.map PyData.int)) ≤ 64 := by
    have h := depth_ints ns
    simp only [PyData.depth]
    omega
  unfold SeqAt.shaped
  rw [h1, decide_eq_true h2]
  rfl
theorem shaped_lst (ns : List Int) : SeqAt.shaped (.list (ns.map PyData.int)) = true := by
  have h1 : PyData.canLay0 (.list (ns.map PyData.int)) = true := by simpa [PyData.canLay0] using lay_ints ns
  have h2 : PyData.depth (.list (ns.map PyData.int)) ≤ 64 := by
    have h := depth_ints ns
    simp only [PyData.depth]
    omega
  unfold SeqAt.shaped
  rw [h1, decide_eq_true h2]
  rfl
theorem eqv_ints : ∀ ms ns : List Int, PyData.eqvAll (ms.map PyData.int) (ns.map PyData.int) = decide (ms = ns)
  | [], [] => by simp [PyData.eqvAll]
  | [], _ :: _ => by simp [PyData.eqvAll]
  | _ :: _, [] => by simp [PyData.eqvAll]
  | m :: ms, n :: ns => by
    have h := eqv_ints ms ns
    simp only [List.map_cons, PyData.eqvAll, PyData.eqv, h]
    by_cases e : m = n
    · by_cases e2 : ms = ns
      · simp [e, e2]
      · simp [e, e2]
    · simp [e]
section
variable {K : PySem.W.Frag} {H : Hp} {a b : Addr} {ms ns : List Int} {Q : VK}
theorem q_eqT (ha : SqT K H a (ms.map V.int)) (hb : SqT K H b (ns.map V.int)) (q : Q (.bl (decide (ms = ns))) H) : rEqD K (.ref a) (.ref b) H Q := by
  refine ⟨_, _, .tup ha (dp_ints ms), .tup hb (dp_ints ns), shaped_tup ms, shaped_tup ns, ?_⟩
  rw [PyData.eqv, eqv_ints]
  exact q
theorem q_neT (ha : SqT K H a (ms.map V.int)) (hb : SqT K H b (ns.map V.int)) (q : Q (.bl (!decide (ms = ns))) H) : rNeD K (.ref a) (.ref b) H Q := by
  refine ⟨_, _, .tup ha (dp_ints ms), .tup hb (dp_ints ns), shaped_tup ms, shaped_tup ns, ?_⟩
  rw [PyData.eqv, eqv_ints]
  exact q
theorem q_eqL (ha : SqL K H a (ms.map V.int)) (hb : SqL K H b (ns.map V.int)) (q : Q (.bl (decide (ms = ns))) H) : rEqD K (.ref a) (.ref b) H Q := by
  refine ⟨_, _, .lst ha (dp_ints ms), .lst hb (dp_ints ns), shaped_lst ms, shaped_lst ns, ?_⟩
  rw [PyData.eqv, eqv_ints]
  exact q
theorem q_neL (ha : SqL K H a (ms.map V.int)) (hb : SqL K H b (ns.map V.int)) (q : Q (.bl (!decide (ms = ns))) H) : rNeD K (.ref a) (.ref b) H Q := by
  refine ⟨_, _, .lst ha (dp_ints ms), .lst hb (dp_ints ns), shaped_lst ms, shaped_lst ns, ?_⟩
  rw [PyData.eqv, eqv_ints]
  exact q
end
theorem iteN {c : Bool} {A B : Prop} (h : c = true) (q : B) : if (!c) = true then A else B := by
  rw [h]
  exact iteF q
theorem iteB {c : Bool} {A B : Prop} (h : c = true) (q : A) : if c = true then A else B := by
  rw [h]
  exact iteT q
theorem iteC {c : Bool} {A B : Prop} (h : c = false) (q : B) : if c = true then A else B := by
  rw [h]
  exact iteF q
theorem rng_ok {v lo hi : Int} (h1 : lo ≤ v) (h2 : v ≤ hi) : (decide (lo ≤ v) && decide (v ≤ hi)) = true := by
  rw [decide_eq_true h1, decide_eq_true h2]
  rfl
/-! ### the data in the heap -/
def Tups (H H' : Hp) : Prop := ∀ a xs, H a = some (.tup xs) → H' a = some (.tup xs)
theorem tups_of {H H' : Hp} (s : Same H H') : Tups H H' := fun a xs h => s a _ h
theorem same_upd {H : Hp} {p : Addr} {o : HO} (h : H p = none) : Same H (upd H p o) := fun b u e => by
  rw [upd_ne (ne_of_none e h)]
  exact e
structure FmAt (H : Hp) (f : Addr) (F : Fm) : Prop where
  ex : ∃ (s l : Addr) (las : List V), H f = some (.tup [.ref s, .ref l]) ∧ H s = some (.tup (F.sizes.map nV)) ∧ H l = some (.tup las) ∧ las.length = F.m ∧
    ∀ k, k < F.m → ∃ a t, las[k]? = some (.ref a) ∧ H a = some (.tup [nV (lk F k).src, nV (lk F k).tgt, .ref t, .int 0]) ∧ H t = some (.tup ((lk F k).tab.map oV))
theorem FmAt.on {H H' : Hp} {f : Addr} {F : Fm} (s : Tups H H') (A : FmAt H f F) : FmAt H' f F := by
  obtain ⟨a, l, las, h1, h2, h3, h4, h5⟩ := A.ex
  refine ⟨a, l, las, s _ _ h1, s _ _ h2, s _ _ h3, h4, fun k hk => ?_⟩
  obtain ⟨b, t, q1, q2, q3⟩ := h5 k hk
  exact ⟨b, t, q1, s _ _ q2, s _ _ q3⟩
/-- a tuple of naturals -/
def NsAt (H : Hp) (a : Addr) (xs : List Nat) : Prop := H a = some (.tup (xs.map nV))
theorem NsAt.on {H H' : Hp} {a : Addr} {xs : List Nat} (s : Tups H H') (A : NsAt H a xs) : NsAt H' a xs := s _ _ A
structure MoAt (H : Hp) (p : Addr) (f : Nat) (xs ps : List Nat) : Prop where
  ex : ∃ x pd sp : Addr, H p = some (.tup [nV f, .ref x, .ref pd, .ref sp]) ∧ NsAt H x xs ∧ NsAt H pd ps ∧ H sp = some (.tup [])
theorem MoAt.on {H H' : Hp} {p : Addr} {f : Nat} {xs ps : List Nat} (s : Tups H H') (A : MoAt H p f xs ps) : MoAt H' p f xs ps := by
  obtain ⟨x, pd, sp, h1, h2, h3, h4⟩ := A.ex
  exact ⟨x, pd, sp, s _ _ h1, s _ _ h2, s _ _ h3, s _ _ h4⟩
/-! ### readings of the form's parts -/
section
variable {K : PySem.W.Frag} {H : Hp} {f : Addr} {F : Fm} {σ : L2.St} {Q : VK} {i j k : Nat}
theorem q_sizes (A : FmAt H f F) (si : σ[i]? = some (some (.ref f))) (q : ∀ s, NsAt H s F.sizes → Q (.ref s) H) : tOp (rIxT K) (tVar i) (tC (.int 0)) σ H Q := by
  obtain ⟨s, l, las, h1, h2, h3, h4, h5⟩ := A.ex
  exact ⟨_, si, f, _, 0, .ref s, rfl, rfl, SqT.of h1, rfl, q s h2⟩
theorem q_links (A : FmAt H f F) (si : σ[i]? = some (some (.ref f))) (q : ∀ l las, H l = some (.tup las) → las.length = F.m → Q (.ref l) H) : tOp (rIxT K) (tVar i) (tC (.int 1)) σ H Q := by
  obtain ⟨s, l, las, h1, h2, h3, h4, h5⟩ := A.ex
  exact ⟨_, si, f, _, 1, .ref l, rfl, rfl, SqT.of h1, rfl, q l las h3 h4⟩
theorem q_link (A : FmAt H f F) (hk : k < F.m) (si : σ[i]? = some (some (.ref f))) (sj : σ[j]? = some (some (nV k)))
    (q : ∀ a t, H a = some (.tup [nV (lk F k).src, nV (lk F k).tgt, .ref t, .int 0]) → H t = some (.tup ((lk F k).tab.map oV)) → Q (.ref a) H) : tOp (rIxT K) (tOp (rIxT K) (tVar i) (tC (.int 1))) (tVar j) σ H Q := by
  obtain ⟨s, l, las, h1, h2, h3, h4, h5⟩ := A.ex
  obtain ⟨a, t, q1, q2, q3⟩ := h5 k hk
  exact ⟨_, si, f, _, 1, .ref l, rfl, rfl, SqT.of h1, rfl, _, sj, l, las, (k : Int), .ref a, rfl, rfl, SqT.of h3, atI_nat q1, q a t q2 q3⟩
/-- form[1][link][c] -/
theorem q_part (c : Int) {v : V} (A : FmAt H f F) (hk : k < F.m) (si : σ[i]? = some (some (.ref f))) (sj : σ[j]? = some (some (nV k)))
    (hv : ∀ t : Addr, atI [nV (lk F k).src, nV (lk F k).tgt, .ref t, .int 0] c = some v) (q : Q v H) : tOp (rIxT K) (tOp (rIxT K) (tOp (rIxT K) (tVar i) (tC (.int 1))) (tVar j)) (tC (.int c)) σ H Q := by
  refine q_link A hk si sj fun a t ha ht => ?_
  exact ⟨a, _, c, v, rfl, rfl, SqT.of ha, hv t, q⟩
end
section
variable {K : PySem.W.Frag} {H : Hp} {σ : L2.St} {Q : VK} {i : Nat}
theorem q_isi_int {v : Int} (si : σ[i]? = some (some (.int v))) (q : Q (.bl true) H) : tCB (rIsi K) (tCons (tVar i) (tCons (tC (.ty "int")) tNil)) σ H Q := ⟨_, si, (isi_int q : rIsi K [.int v, .ty "int"] H Q)⟩
theorem q_isi_bool {v : Int} (si : σ[i]? = some (some (.int v))) (q : Q (.bl false) H) : tCB (rIsi K) (tCons (tVar i) (tCons (tC (.ty "bool")) tNil)) σ H Q := ⟨_, si, (isi_bool q : rIsi K [.int v, .ty "bool"] H Q)⟩
theorem q_isi_tup {a : Addr} {xs : List V} (h : H a = some (.tup xs)) (si : σ[i]? = some (some (.ref a))) (q : Q (.bl true) H) : tCB (rIsi K) (tCons (tVar i) (tCons (tC (.ty "tuple")) tNil)) σ H Q := ⟨_, si, (isi_tup h q : rIsi K [.ref a, .ty "tuple"] H Q)⟩
end
/-! ### comprehensions, item by item -/
section
variable {g : TG} {tt : TT} {te : TE} {vs : List Nat} {σ : L2.St} {H1 : Hp} {D : Addr} {Qd : Hp → Prop}
theorem fm_le (C : Nat → Option V) : ∀ i : Nat, ((List.range i).filterMap C).length ≤ i := fun i => Nat.le_trans (List.length_filterMap_le _ _) (by rw [List.length_range]; exact Nat.le_refl _)
theorem fm_succ (C : Nat → Option V) (i : Nat) : (List.range (i + 1)).filterMap C = (List.range i).filterMap C ++ (match C i with
    | some y => [y]
    | none => []) := by
  rw [List.range_succ, List.filterMap_append]
  congr 1
  rw [List.filterMap_cons, List.filterMap_nil]
  cases C i <;> rfl
/-- what a turn of a comprehension does -/
def Turned (g : TG) (tt : TT) (te : TE) (vs : List Nat) (σ : L2.St) (x : V) (o : Option V) (H H0 : Hp) : Prop :=
  ∀ (R : V → Hp → Prop) (R0 : Hp → Prop), (∀ y H4, Same H0 H4 → o = some y → R y H4) → (∀ H4, Same H0 H4 → o = none → R0 H4) →
    g x (wipe σ vs) H fun σ2 H2 => wipe σ2 vs = wipe σ vs ∧ tt σ2 H2 fun b H3 => if b = true then te σ2 H3 R else R0 H3
theorem turned_run {C : Nat → Option V} {i : Nat} {x : V} {H H0 : Hp} (hi : i ≤ 1000) (hD : H1 D = none) (s : Same H1 H0) (e : H0 D = some (.lst ((List.range i).filterMap C))) (t : Turned g tt te vs σ x (C i) H H0) :
    g x (wipe σ vs) H fun σ2 H2 => wipe σ2 vs = wipe σ vs ∧ tt σ2 H2 fun b H3 => if b = true then te σ2 H3 fun y H4 => ∃ acc, H4 D = some (.lst acc) ∧ acc.length < sizeLine ∧
      (Same H1 (upd H4 D (.lst (acc ++ [y]))) ∧ (upd H4 D (.lst (acc ++ [y]))) D = some (.lst ((List.range (i + 1)).filterMap C))) else (Same H1 H3 ∧ H3 D = some (.lst ((List.range (i + 1)).filterMap C))) := by
  refine t _ _ (fun y H4 s4 hy => ⟨_, s4 _ _ e, small1000 (Nat.le_trans (fm_le C i) hi), ?_, ?_⟩) fun H4 s4 hy => ⟨s.trans s4, ?_⟩
  · intro b o hb
    rw [upd_ne (ne_of_none hb hD)]
    exact s4 _ _ (s _ _ hb)
  · rw [upd_same, fm_succ, hy]
  · rw [fm_succ, hy, List.append_nil]
    exact s4 _ _ e
theorem lcR {n : Nat} (C : Nat → Option V) (hn : n ≤ 1000) (hD : H1 D = none) (hs : ∀ i H, i < n → Same H1 H → Turned g tt te vs σ (nV i) (C i) H H) (hd : ∀ H, Same H1 H → H D = some (.lst ((List.range n).filterMap C)) → Qd H) :
    ∃ W : Nat → Nat → Hp → Prop, (∃ m, W 0 m (upd H1 D (.lst []))) ∧ ∀ i m H, W i m H →
      ((Itr 0 n).stop i H ∧ Qd H) ∨ ((Itr 0 n).go i H ∧ ∃ Nx : Hp → Prop, (∀ H', Nx H' → ∃ m', m' < m ∧ W (i + 1) m' H') ∧ ∀ x H', (Itr 0 n).yld i H x H' → g x (wipe σ vs) H' fun σ2 H2 => wipe σ2 vs = wipe σ vs ∧ tt σ2 H2 fun b H3 =>
        if b = true then te σ2 H3 fun y H4 => ∃ acc, H4 D = some (.lst acc) ∧ acc.length < sizeLine ∧ Nx (upd H4 D (.lst (acc ++ [y]))) else Nx H3) :=
  lc_range (fun i H => Same H1 H ∧ H D = some (.lst ((List.range i).filterMap C))) ⟨same_upd hD, upd_same⟩ (fun i H hi ⟨s, e⟩ => (by rw [Int.zero_add]; exact turned_run (by omega) hD s e (hs i H hi s))) fun H ⟨s, e⟩ => hd H s e
theorem lcT {K : PySem.W.Frag} {a : Addr} {xs : List V} (C : Nat → Option V) (hn : xs.length ≤ 1000) (ha : SqT K H1 a xs) (hD : H1 D = none) (hs : ∀ i x H, xs[i]? = some x → Same H1 H → Turned g tt te vs σ x (C i) H H)
    (hd : ∀ H, Same H1 H → H D = some (.lst ((List.range xs.length).filterMap C)) → Qd H) :
    ∃ W : Nat → Nat → Hp → Prop, (∃ m, W 0 m (upd H1 D (.lst []))) ∧ ∀ i m H, W i m H →
      ((Itt K a).stop i H ∧ Qd H) ∨ ((Itt K a).go i H ∧ ∃ Nx : Hp → Prop, (∀ H', Nx H' → ∃ m', m' < m ∧ W (i + 1) m' H') ∧ ∀ x H', (Itt K a).yld i H x H' → g x (wipe σ vs) H' fun σ2 H2 => wipe σ2 vs = wipe σ vs ∧ tt σ2 H2 fun b H3 =>
        if b = true then te σ2 H3 fun y H4 => ∃ acc, H4 D = some (.lst acc) ∧ acc.length < sizeLine ∧ Nx (upd H4 D (.lst (acc ++ [y]))) else Nx H3) := by
  have keep : ∀ H, Same H1 H → SqT K H a xs := fun H s => by
    rcases ha with (h | ⟨o, h⟩) | h
    · exact .inl (.inl (s _ _ h))
    · exact .inl (.inr ⟨o, s _ _ h⟩)
    · exact .inr h
  refine lc_tup (K := K) (a := a) (xs := xs) (fun i H => Same H1 H ∧ H D = some (.lst ((List.range i).filterMap C))) ⟨same_upd hD, upd_same⟩ (fun i H _ ⟨s, _⟩ => keep H s) (fun i x H hx ⟨s, e⟩ => ?_) fun H ⟨s, e⟩ => hd H s e
  have hi := (List.getElem?_eq_some_iff.mp hx).1
  exact turned_run (by omega) hD s e (hs i x H hx s)
/-- over zip of two tuples -/
theorem lcZ {K : PySem.W.Frag} {a b : Addr} {xs ys : List V} (C : Nat → Option V) (hn : xs.length ≤ 1000) (ha : H1 a = some (.tup xs)) (hb : H1 b = some (.tup ys)) (hD : H1 D = none)
    (hs : ∀ i x y T H, xs[i]? = some x → ys[i]? = some y → Same H1 H → H T = none → Turned g tt te vs σ (.ref T) (C i) (upd H T (.tup [x, y])) H)
    (hd : ∀ H, Same H1 H → H D = some (.lst ((List.range (min xs.length ys.length)).filterMap C)) → Qd H) :
    ∃ W : Nat → Nat → Hp → Prop, (∃ m, W 0 m (upd H1 D (.lst []))) ∧ ∀ i m H, W i m H →
      ((RZ.ItzT K a b).stop i H ∧ Qd H) ∨ ((RZ.ItzT K a b).go i H ∧ ∃ Nx : Hp → Prop, (∀ H', Nx H' → ∃ m', m' < m ∧ W (i + 1) m' H') ∧ ∀ x H', (RZ.ItzT K a b).yld i H x H' → g x (wipe σ vs) H' fun σ2 H2 => wipe σ2 vs = wipe σ vs ∧ tt σ2 H2 fun b H3 =>
        if b = true then te σ2 H3 fun y H4 => ∃ acc, H4 D = some (.lst acc) ∧ acc.length < sizeLine ∧ Nx (upd H4 D (.lst (acc ++ [y]))) else Nx H3) := by
  let Pv : Nat → Hp → Prop := fun i H => Same H1 H ∧ H D = some (.lst ((List.range i).filterMap C))
  refine ⟨fun i m H => m = min xs.length ys.length - i ∧ i ≤ min xs.length ys.length ∧ Pv i H, ⟨_, rfl, Nat.zero_le _, same_upd hD, upd_same⟩, ?_⟩
  rintro i m H ⟨rfl, hi, s, e⟩
  have qa : SqT K H a xs := SqT.of (s _ _ ha)
  have qb : SqT K H b ys := SqT.of (s _ _ hb)
  by_cases hlt : i < min xs.length ys.length
  · have h1 : i < xs.length := by omega
    have h2 : i < ys.length := by omega
    refine .inr ⟨⟨xs, ys, _, _, qa, qb, List.getElem?_eq_getElem h1, List.getElem?_eq_getElem h2⟩, Pv (i + 1), fun H' p' => ⟨_, by omega, rfl, by omega, p'⟩, fun v H' y => ?_⟩
    obtain ⟨T, x', y', rfl, hT, rfl, f1, f2⟩ := y
    exact turned_run (by omega) hD s e (hs i x' y' T H (f1 xs qa) (f2 ys qb) s hT)
  · have ei : i = min xs.length ys.length := by omega
    subst ei
    refine .inl ⟨⟨xs, ys, qa, qb, by omega⟩, hd H s e⟩
end
theorem qY {te : TE} {σ : L2.St} {H : Hp} {R : V → Hp → Prop} {R0 : Hp → Prop} (q : te σ H R) : tYes σ H fun b H3 => if b = true then te σ H3 R else R0 H3 := @iteT (te σ H R) (R0 H) q
theorem qYA {A B : Hp → Prop} {σ : L2.St} {H : Hp} (q : A H) : tYes σ H fun b H3 => if b = true then A H3 else B H3 := @iteT (A H) (B H) q
theorem fm_some (f : Nat → V) (n : Nat) : ((List.range n).filterMap fun i => some (f i)) = (List.range n).map f := by
  induction n with
  | zero => rfl
  | succ n ih => rw [List.range_succ, List.filterMap_append, List.map_append, ih]; rfl
theorem fm_if (c : Nat → Bool) (f : Nat → V) (n : Nat) : ((List.range n).filterMap fun i => if c i = true then some (f i) else none) = ((List.range n).filter c).map f := by
  induction n with
  | zero => rfl
  | succ n ih =>
    rw [List.range_succ, List.filterMap_append, List.filter_append, List.map_append, ih]
    congr 1
    rw [List.filterMap_cons, List.filterMap_nil]
    cases h : c n
    · simp [h]
    · simp [h]
theorem all_true {n : Nat} {p : Nat → Bool} (h : ∀ i, i < n → p i = true) : ((List.range n).map p).all id = true := by
  rw [List.all_map]
  exact List.all_eq_true.mpr fun i hi => h i (List.mem_range.mp hi)
/-- all([..]) of bools told one by one -/
theorem q_all {K : PySem.W.Frag} {H : Hp} {D : Addr} {n : Nat} (p : Nat → Bool) {Q : VK} (hD : H D = some (.lst ((List.range n).filterMap fun i => some (.bl (p i))))) (q : Q (.bl (((List.range n).map p).all id)) H) : rAll K [.ref D] H Q := by
  refine ⟨D, (List.range n).map p, rfl, SqL.of ?_, q⟩
  rw [hD, fm_some, List.map_map]
  rfl
theorem q_all1 {K : PySem.W.Frag} {σ : L2.St} {H : Hp} {D : Addr} {n : Nat} (p : Nat → Bool) {Q : VK} (hD : H D = some (.lst ((List.range n).filterMap fun i => some (.bl (p i))))) (q : Q (.bl (((List.range n).map p).all id)) H) :
    tNil σ H fun xs H2 => rAll K (.ref D :: xs) H2 Q := q_all p hD q
end K15
namespace K15
open PySem PySem.Spec PyProof.Rows L2
section
variable {P : Program} {w : World} {K : PySem.W.Frag} {mg : Str → Option Value} {base : Heap} {f : Addr} {fd : FuncData}
/-! ### is_integer -/
def spInt : Sp := fun vs H Q _ => ∃ v lo hi : Int, vs = [.int v, .int lo, .int hi] ∧ Q (.bl (decide (lo ≤ v) && decide (v ≤ hi))) H
theorem sc_is_integer : FnScope ["value", "low", "high"] ["value", "low", "high"] (defScope sis_integer) := ⟨rfl, rfl, rfl, by decide +kernel, rfl, by decide +kernel, by decide +kernel⟩
theorem c_is_integer (F : FnP K "is_integer" sis_integer f fd) (g : mg "is_integer" = some (.ref f)) (T : Bl mg) : Cal P w K mg base "is_integer" 1 ["value", "low", "high"] spInt := by
  refine ⟨f, fd, F.ok sc_is_integer (fun vs H Q E h => ?_) (fun cdv A outer s H vs Q E hr h => ?_), g, F.kp, F.bindsN fun _ _ _ _ _ _ us hl => match us, hl with | [_, _, _], _ => rfl⟩
  · obtain ⟨_, _, _, rfl, _⟩ := h
    rfl
  · obtain ⟨v, lo, hi, rfl, q⟩ := h
    refine ⟨_, pss_one (ps_ret (pe_and (pe_callB call_isi rfl T.isi b_isi (pa_cons (pv 0) (pa_cons (pe_bltn (v := .ty "int") rfl T.int b_int rfl) pa_nil)))
      (pe_and (pe_not (pe_callB call_isi rfl T.isi b_isi (pa_cons (pv 0) (pa_cons (pe_bltn (v := .ty "bool") rfl T.bool b_bool rfl) pa_nil))))
        (pe_one (pe_chain op_le op_le (pv 1) (pv 0) (pv 2)))))), ?_⟩
    refine q_isi_int rfl ⟨true, rfl, iteT ?_⟩
    refine q_isi_bool rfl ⟨_, rfl, true, rfl, iteT ?_⟩
    refine ⟨_, rfl, _, rfl, _, _, rfl, rfl, _, rfl, ?_⟩
    cases e : decide (lo ≤ v) with
    | true =>
      refine iteT ⟨_, rfl, _, _, rfl, rfl, ?_⟩
      rw [e] at q
      exact q
    | false =>
      refine iteF ?_
      rw [e] at q
      exact q
/-! ### is_filling -/
def spFil : Sp := fun vs H Q _ => ∃ (f x : Addr) (F : Fm) (xs : List Nat), vs = [.ref f, .ref x] ∧ FmAt H f F ∧ NsAt H x xs ∧ Good F ∧ Fil F xs ∧ ∀ H', Same H H' → Q (.bl true) H'
theorem sc_is_filling : FnScope ["form", "value", "item", "size"] ["form", "value"] (defScope sis_filling) := ⟨rfl, rfl, rfl, by decide +kernel, rfl, by decide +kernel, by decide +kernel⟩
theorem c_is_filling (F : FnP K "is_filling" sis_filling f fd) (g : mg "is_filling" = some (.ref f)) (T : Bl mg) (cI : Cal P w K mg base "is_integer" 1 ["value", "low", "high"] spInt) : Cal P w K mg base "is_filling" 2 ["form", "value"] spFil := by
  refine ⟨f, fd, F.ok sc_is_filling (fun vs H Q E h => ?_) (fun cdv A outer s H vs Q E hr h => ?_), g, F.kp, F.bindsN fun _ _ _ _ _ _ us hl => match us, hl with | [_, _], _ => rfl⟩
  · obtain ⟨_, _, _, _, rfl, _⟩ := h
    rfl
  · obtain ⟨f, x, F, xs, rfl, A, hx, G, L, q⟩ := h
    have nd := sc_is_filling.nd
    refine ⟨_, pss_cons (ps_if (PW.pt (pw_or (pt_not (pt_val (pe_callB call_isi rfl T.isi b_isi (pa_cons (pv 1) (pa_cons (pe_bltn (v := .ty "tuple") rfl T.tuple b_tuple rfl) pa_nil)))))
        (pw_or1 (pt_cmpR op_ne (pe_callB call_len_seq rfl T.len b_len (pa_cons (pv 1) pa_nil)) (pe_callB call_len_seq rfl T.len b_len (pa_cons (pe_ix ix_tup (pv 0) pe_int (fun _ _ => rfl)) pa_nil)) (nomark _))))) pss_never pss_nil)
      (pss_one (ps_ret (pe_callB (cr_all rfl) rfl T.all b_all (pa_cons (pe_lc (own := [("item", 2), ("size", 3)]) (g := gTup _ 2 (gCons (gName 2) (gCons (gName 3) gNil))) (tt := tYes) rfl nd
        (RZ.pi_zipA rfl T.zip (pa_cons (pv 1) (pa_cons (pe_ix ix_tup (pv 0) pe_int (fun _ _ => rfl)) pa_nil))) (blkOk_by (N := ["form", "value", "item", "size"]) (sc := defScope sis_filling) (by decide +kernel))
        (fun _ _ _ _ _ => pg_tup rfl (pgs_cons (pg_name (i := 2) nd rfl (Or.inl rfl)) (pgs_cons (pg_name (i := 3) nd rfl (Or.inl rfl)) pgs_nil))) (fun _ _ _ _ _ => pts_nil)
        (fun _ _ _ _ _ => pe_cal cI hr (pa_cons (pv 2) (pa_cons pe_int (pa_cons (pe_op op_sub (pv 3) pe_int) pa_nil))))) pa_nil)))), ?_⟩
    refine q_isi_tup hx rfl ⟨true, rfl, iteF ?_⟩
    refine ⟨_, rfl, x, _, rfl, .inr (SqT.of hx), q_sizes A rfl fun s hs => ?_⟩
    refine ⟨s, _, rfl, .inr (SqT.of hs), rfl, _, rfl, iteNS (by rw [List.length_map, List.length_map, L.len]; rfl) ?_⟩
    refine ⟨_, rfl, q_sizes A rfl fun s hs => ⟨x, s, _, _, rfl, .inr ⟨SqT.of hx, SqT.of hs, fun D hD => ?_⟩⟩⟩
    have lx : xs.length ≤ 1000 := by
      have h1 := L.len
      have h2 := G.n4
      omega
    let p : Nat → Bool := fun i => decide ((0 : Int) ≤ (at0 xs i : Int)) && decide ((at0 xs i : Int) ≤ (at0 F.sizes i : Int) - 1)
    refine lcZ (fun i => some (.bl (p i))) (by rw [List.length_map]; exact lx) hx hs hD (fun i a b t H1 ha hb s1 ht R R0 kR k0 => ?_) fun H1 s1 e => ?_
    · obtain ⟨hi, rfl⟩ := nV_get ha
      obtain ⟨hj, rfl⟩ := nV_get hb
      refine ⟨t, _, rfl, SqT.of upd_same, rfl, _, _, rfl, _, _, rfl, rfl, rfl, qY ?_⟩
      exact ⟨_, rfl, _, rfl, _, _, rfl, rfl, _, _, _, rfl, kR _ _ (same_upd ht) rfl⟩
    · refine q_all p e ?_
      rw [all_true fun i hi => ?_]
      · exact q _ s1
      · rw [List.length_map, List.length_map] at hi
        have h1 := L.lt i (by have h3 := L.len; omega)
        show (decide _ && decide _) = true
        rw [decide_eq_true (by omega), decide_eq_true (by omega)]
        rfl
end
end K15
namespace K15
open PySem PySem.Spec PyProof.Rows L2
section
variable {P : Program} {w : World} {K : PySem.W.Frag} {mg : Str → Option Value} {base : Heap} {f : Addr} {fd : FuncData}
/-! ### is_edit -/
def spEdit : Sp := fun vs H Q _ => ∃ (f e : Addr) (F : Fm) (i v : Nat), vs = [.ref f, .ref e] ∧ FmAt H f F ∧ H e = some (.tup [nV i, nV v]) ∧ i < F.n ∧ v < at0 F.sizes i ∧ Q (.bl true) H
theorem sc_is_edit : FnScope ["form", "value"] ["form", "value"] (defScope sis_edit) := ⟨rfl, rfl, rfl, by decide +kernel, rfl, by decide +kernel, by decide +kernel⟩
theorem c_is_edit (F : FnP K "is_edit" sis_edit f fd) (g : mg "is_edit" = some (.ref f)) (T : Bl mg) (cI : Cal P w K mg base "is_integer" 1 ["value", "low", "high"] spInt) : Cal P w K mg base "is_edit" 2 ["form", "value"] spEdit := by
  refine ⟨f, fd, F.ok sc_is_edit (fun vs H Q E h => ?_) (fun cdv A outer s H vs Q E hr h => ?_), g, F.kp, F.bindsN fun _ _ _ _ _ _ us hl => match us, hl with | [_, _], _ => rfl⟩
  · obtain ⟨_, _, _, _, _, rfl, _⟩ := h
    rfl
  · obtain ⟨f, e, F, i, v, rfl, A, he, hi, hv, q⟩ := h
    have nd := sc_is_edit.nd
    have hu := hu_of hr
    refine ⟨_, PSs.nox (pss_cons (ps_if (PW.pt (pw_or (pt_not (pt_val (pe_callB call_isi rfl T.isi b_isi (pa_cons (pv 1) (pa_cons (pe_bltn (v := .ty "tuple") rfl T.tuple b_tuple rfl) pa_nil))))) (pw_or (pt_cmpR op_ne (pe_callB call_lenS rfl T.len b_len (pa_cons (pv 1) pa_nil)) pe_int (nomark _)) (pw_or1 (pt_not (pt_val (pe_cal cI hr (pa_cons (pe_ix ix_tup (pv 1) pe_int (fun _ _ => rfl)) (pa_cons pe_int (pa_cons (pe_op op_sub (pe_callB call_lenS rfl T.len b_len (pa_cons (pe_ix ix_tup (pv 0) pe_int (fun _ _ => rfl)) pa_nil)) pe_int) pa_nil)))))))))) (pss_one (ps_ret pe_bl)) pss_nil)
      (pss_one (ps_ret (pe_cal cI hr (pa_cons (pe_ix ix_tup (pv 1) pe_int (fun _ _ => rfl)) (pa_cons pe_int (pa_cons (pe_op op_sub (pe_ix ix_tup (pe_ix ix_tup (pv 0) pe_int (fun _ _ => rfl)) (pe_ix ix_tup (pv 1) pe_int (fun _ _ => rfl)) (fun _ _ => rfl)) pe_int) pa_nil))))))), ?_⟩
    refine q_isi_tup he rfl ⟨true, rfl, iteF ?_⟩
    refine ⟨_, rfl, e, _, rfl, .inr (SqT.of he), rfl, _, rfl, iteNS rfl ?_⟩
    refine ⟨_, rfl, e, _, 0, nV i, rfl, rfl, SqT.of he, rfl, q_sizes A rfl fun s hs => ⟨s, _, rfl, .inr (SqT.of hs), _, _, rfl, rfl, _, _, _, rfl, _, rfl, ?_⟩⟩
    refine iteN (rng_ok (by omega) (by rw [List.length_map]; have h : i < F.sizes.length := hi; omega)) ?_
    refine ⟨_, rfl, e, _, 1, nV v, rfl, rfl, SqT.of he, rfl, q_sizes A rfl fun s hs => ⟨_, rfl, e, _, 0, nV i, rfl, rfl, SqT.of he, rfl, s, _, _, _, rfl, rfl, SqT.of hs, at_nV hi, _, _, rfl, rfl, _, _, _, rfl, ?_⟩⟩
    rw [rng_ok (by omega) (by omega)]
    exact q
/-! ### require_filling -/
def spReq : Sp := fun vs H Q _ => ∃ (f x : Addr) (F : Fm) (xs : List Nat), vs = [.ref f, .ref x] ∧ FmAt H f F ∧ NsAt H x xs ∧ Good F ∧ Fil F xs ∧ ∀ H', Same H H' → Q .non H'
theorem sc_require_filling : FnScope ["form", "filling"] ["form", "filling"] (defScope srequire_filling) := ⟨rfl, rfl, rfl, by decide +kernel, rfl, by decide +kernel, by decide +kernel⟩
theorem c_require_filling (F : FnP K "require_filling" srequire_filling f fd) (g : mg "require_filling" = some (.ref f)) (cF : Cal P w K mg base "is_filling" 2 ["form", "value"] spFil) : Cal P w K mg base "require_filling" 3 ["form", "filling"] spReq := by
  refine ⟨f, fd, F.ok sc_require_filling (fun vs H Q E h => ?_) (fun cdv A outer s H vs Q E hr h => ?_), g, F.kp, F.bindsN fun _ _ _ _ _ _ us hl => match us, hl with | [_, _], _ => rfl⟩
  · obtain ⟨_, _, _, _, rfl, _⟩ := h
    rfl
  · obtain ⟨f, x, F, xs, rfl, A, hx, G, L, q⟩ := h
    have nd := sc_require_filling.nd
    have hu := hu_of hr
    refine ⟨_, PSs.nox (pss_one (ps_if (pt_not (pt_val (pe_cal cF hr (pa_cons (pv 0) (pa_cons (pv 1) pa_nil))))) pss_never pss_nil)), ?_⟩
    exact ⟨_, rfl, _, rfl, f, x, F, xs, rfl, A, hx, G, L, fun H' s => ⟨true, rfl, iteF (q H' s)⟩⟩
/-! ### wished, is_loud -/
def spWish : Sp := fun vs H Q _ => ∃ (f x : Addr) (F : Fm) (xs : List Nat) (k : Nat), vs = [.ref f, .ref x, nV k] ∧ FmAt H f F ∧ NsAt H x xs ∧ Good F ∧ Fil F xs ∧ k < F.m ∧ Q (oV (wishOf (lk F k) xs)) H
theorem sc_wished : FnScope ["form", "filling", "link", "source", "target", "table", "guard"] ["form", "filling", "link"] (defScope swished) := ⟨rfl, rfl, rfl, by decide +kernel, rfl, by decide +kernel, by decide +kernel⟩
theorem c_wished (F : FnP K "wished" swished f fd) (g : mg "wished" = some (.ref f)) : Cal P w K mg base "wished" 1 ["form", "filling", "link"] spWish := by
  refine ⟨f, fd, F.ok sc_wished (fun vs H Q E h => ?_) (fun cdv A outer s H vs Q E hr h => ?_), g, F.kp, F.bindsN fun _ _ _ _ _ _ us hl => match us, hl with | [_, _, _], _ => rfl⟩
  · obtain ⟨_, _, _, _, _, rfl, _⟩ := h
    rfl
  · obtain ⟨f, x, F, xs, k, rfl, A, hx, G, L, hk, q⟩ := h
    have nd := sc_wished.nd
    have hu := hu_of hr
    refine ⟨_, PSs.nox (pss_cons (ps_asg (pe_ix ix_tup (pe_ix ix_tup (pv 0) pe_int (fun _ _ => rfl)) (pv 2) (fun _ _ => rfl)) (pg_tup rfl (pgs_cons (pg_name (i := 3) nd rfl (Or.inl rfl)) (pgs_cons (pg_name (i := 4) nd rfl (Or.inl rfl)) (pgs_cons (pg_name (i := 5) nd rfl (Or.inl rfl)) (pgs_cons (pg_name (i := 6) nd rfl (Or.inl rfl)) pgs_nil))))))
      (pss_one (ps_ret (pe_ix ix_tup (pv 5) (pe_ix ix_tup (pv 1) (pv 3) (fun _ _ => rfl)) (fun _ _ => rfl))))), ?_⟩
    refine q_link A hk rfl rfl fun a t ha ht => ⟨a, _, rfl, SqT.of ha, rfl, _, _, rfl, _, _, rfl, _, _, rfl, _, _, rfl, rfl, ?_⟩
    have h1 := G.src k hk
    refine ⟨_, rfl, _, rfl, _, rfl, x, _, _, _, rfl, rfl, SqT.of hx, at_nV (by rw [L.len]; exact h1), t, _, _, _, rfl, rfl, SqT.of ht, at_tab (by rw [G.len k hk]; exact L.lt _ h1), q⟩
def spLoud : Sp := fun vs H Q _ => ∃ (f x : Addr) (F : Fm) (xs : List Nat) (k : Nat), vs = [.ref f, .ref x, nV k] ∧ FmAt H f F ∧ NsAt H x xs ∧ Good F ∧ Fil F xs ∧ k < F.m ∧ ∀ H', Same H H' → Q (.bl (loudL (lk F k) xs)) H'
theorem sc_is_loud : FnScope ["form", "filling", "link"] ["form", "filling", "link"] (defScope sis_loud) := ⟨rfl, rfl, rfl, by decide +kernel, rfl, by decide +kernel, by decide +kernel⟩
theorem c_is_loud (F : FnP K "is_loud" sis_loud f fd) (g : mg "is_loud" = some (.ref f)) (cW : Cal P w K mg base "wished" 1 ["form", "filling", "link"] spWish) : Cal P w K mg base "is_loud" 2 ["form", "filling", "link"] spLoud := by
  refine ⟨f, fd, F.ok sc_is_loud (fun vs H Q E h => ?_) (fun cdv A outer s H vs Q E hr h => ?_), g, F.kp, F.bindsN fun _ _ _ _ _ _ us hl => match us, hl with | [_, _, _], _ => rfl⟩
  · obtain ⟨_, _, _, _, _, rfl, _⟩ := h
    rfl
  · obtain ⟨f, x, F, xs, k, rfl, A, hx, G, L, hk, q⟩ := h
    have nd := sc_is_loud.nd
    have hu := hu_of hr
    refine ⟨_, PSs.nox (pss_one (ps_ret (pe_cmpR op_notIn_seq (pe_cal cW hr (pa_cons (pv 0) (pa_cons (pv 1) (pa_cons (pv 2) pa_nil)))) (pe_tup (pa_cons pe_non (pa_cons (pe_ix ix_tup (pv 1) (pe_ix ix_tup (pe_ix ix_tup (pe_ix ix_tup (pv 0) pe_int (fun _ _ => rfl)) (pv 2) (fun _ _ => rfl)) pe_int (fun _ _ => rfl)) (fun _ _ => rfl)) pa_nil))) rfl))), ?_⟩
    refine ⟨_, rfl, _, rfl, _, rfl, f, x, F, xs, k, rfl, A, hx, G, L, hk, ?_⟩
    refine ⟨_, rfl, q_part 1 A hk rfl rfl (fun t => rfl) ⟨x, _, _, _, rfl, rfl, SqT.of hx, at_nV (by rw [L.len]; exact G.tgt k hk), by show 2 ≤ sizeLine; decide, fun p hp => ?_⟩⟩
    refine ⟨p, _, rfl, .inr (SqT.of upd_same), ?_, rfl, ?_⟩
    · cases wishOf (lk F k) xs <;> rfl
    · show Q (.bl (!inV (oV (wishOf (lk F k) xs)) [.non, nV (at0 xs (lk F k).tgt)])) _
      rw [loud_in]
      exact q _ (same_upd hp)
/-! ### loud_links, is_calm -/
def spLouds : Sp := fun vs H Q _ => ∃ (f x : Addr) (F : Fm) (xs : List Nat), vs = [.ref f, .ref x] ∧ FmAt H f F ∧ NsAt H x xs ∧ Good F ∧ Fil F xs ∧ ∀ H' p, Same H H' → NsAt H' p (loud F xs) → Q (.ref p) H'
theorem sc_loud_links : FnScope ["form", "filling", "link"] ["form", "filling"] (defScope sloud_links) := ⟨rfl, rfl, rfl, by decide +kernel, rfl, by decide +kernel, by decide +kernel⟩
theorem c_loud_links (F : FnP K "loud_links" sloud_links f fd) (g : mg "loud_links" = some (.ref f)) (T : Bl mg) (cR : Cal P w K mg base "require_filling" 3 ["form", "filling"] spReq) (cL : Cal P w K mg base "is_loud" 2 ["form", "filling", "link"] spLoud) :
    Cal P w K mg base "loud_links" 4 ["form", "filling"] spLouds := by
  refine ⟨f, fd, F.ok sc_loud_links (fun vs H Q E h => ?_) (fun cdv A outer s H vs Q E hr h => ?_), g, F.kp, F.bindsN fun _ _ _ _ _ _ us hl => match us, hl with | [_, _], _ => rfl⟩
  · obtain ⟨_, _, _, _, rfl, _⟩ := h
    rfl
  · obtain ⟨f, x, F, xs, rfl, A, hx, G, L, q⟩ := h
    have nd := sc_loud_links.nd
    have hu := hu_of hr
    refine ⟨_, PSs.nox (pss_cons (ps_expr (pe_cal cR hr (pa_cons (pv 0) (pa_cons (pv 1) pa_nil))))
      (pss_one (ps_ret (pe_callTy call_tupS rfl T.tuple b_tuple (pa_cons (pe_lc (own := [("link", 2)]) (g := gName 2) (tt := (tB (tCall spLoud [] E0 (tCons (tVar 0) (tCons (tVar 1) (tCons (tVar 2) tNil)))))) (te := (tVar 2)) rfl nd (pi_range1 rfl T.range (pa_cons (pe_callB call_lenS rfl T.len b_len (pa_cons (pe_ix ix_tup (pv 0) pe_int (fun _ _ => rfl)) pa_nil)) pa_nil)) (blkOk_by (N := ["form", "filling", "link"]) (sc := defScope sloud_links) (by decide +kernel)) (fun _ _ _ _ _ => (pg_name (i := 2) nd rfl (Or.inl rfl))) (fun _ _ _ _ _ => pts_one (pt_val (pe_cal cL hr (pa_cons (pv 0) (pa_cons (pv 1) (pa_cons (pv 2) pa_nil)))))) (fun _ _ _ _ _ => (pv 2))) pa_nil))))), ?_⟩
    refine ⟨_, rfl, _, rfl, f, x, F, xs, rfl, A, hx, G, L, fun H1 s1 => ?_⟩
    have A1 := A.on (tups_of s1)
    refine q_links A1 rfl fun l las hl hn => ⟨l, las, rfl, .inr (SqT.of hl), _, rfl, by omega, by have := G.m4; omega, fun D hD => ?_⟩
    have em : ((las.length : Int)).toNat = F.m := by rw [hn]; rfl
    refine lcR (fun k => if loudL (lk F k) xs = true then some (nV k) else none) (by rw [em]; have := G.m4; omega) hD (fun k H2 hk s2 R R0 kR k0 => ?_) fun H2 s2 e => ?_
    · rw [em] at hk
      have t2 := tups_of (s1.trans s2)
      refine ⟨rfl, ?_⟩
      refine ⟨_, rfl, _, rfl, _, rfl, f, x, F, xs, k, rfl, A.on t2, hx.on t2, G, L, hk, fun H3 s3 => ⟨_, rfl, ?_⟩⟩
      cases hl : loudL (lk F k) xs with
      | true => exact iteT ⟨_, rfl, kR _ _ s3 (by rw [hl]; rfl)⟩
      | false => exact iteF (k0 _ s3 (by rw [hl]; rfl))
    · refine ⟨D, _, rfl, .inl ⟨SqL.of e, fun p hp => ?_⟩⟩
      refine q _ p (s1.trans (s2.trans (same_upd hp))) ?_
      show upd H2 p _ p = _
      rw [upd_same, fm_if, em]
      rfl
def spCalm : Sp := fun vs H Q _ => ∃ (f x : Addr) (F : Fm) (xs : List Nat), vs = [.ref f, .ref x] ∧ FmAt H f F ∧ NsAt H x xs ∧ Good F ∧ Fil F xs ∧ ∀ H', Same H H' → Q (.bl (decide (loud F xs = []))) H'
theorem sc_is_calm : FnScope ["form", "filling"] ["form", "filling"] (defScope sis_calm) := ⟨rfl, rfl, rfl, by decide +kernel, rfl, by decide +kernel, by decide +kernel⟩
theorem c_is_calm (F : FnP K "is_calm" sis_calm f fd) (g : mg "is_calm" = some (.ref f)) (cLL : Cal P w K mg base "loud_links" 4 ["form", "filling"] spLouds) : Cal P w K mg base "is_calm" 5 ["form", "filling"] spCalm := by
  refine ⟨f, fd, F.ok sc_is_calm (fun vs H Q E h => ?_) (fun cdv A outer s H vs Q E hr h => ?_), g, F.kp, F.bindsN fun _ _ _ _ _ _ us hl => match us, hl with | [_, _], _ => rfl⟩
  · obtain ⟨_, _, _, _, rfl, _⟩ := h
    rfl
  · obtain ⟨f, x, F, xs, rfl, A, hx, G, L, q⟩ := h
    have nd := sc_is_calm.nd
    have hu := hu_of hr
    refine ⟨_, PSs.nox (pss_one (ps_ret (pe_cmpR (op_eqD hr.units) (pe_cal cLL hr (pa_cons (pv 0) (pa_cons (pv 1) pa_nil))) (pe_tup pa_nil) (nomark _)))), ?_⟩
    refine ⟨_, rfl, _, rfl, f, x, F, xs, rfl, A, hx, G, L, fun H1 p s1 hp => ⟨by show 0 ≤ sizeLine; decide, fun r hr => ?_⟩⟩
    refine q_eqT (ms := (loud F xs).map fun n : Nat => (n : Int)) (ns := []) (SqT.of ?_) (SqT.of upd_same) ?_
    · rw [upd_ne (ne_of_none hp hr), ← map_nV]
      exact hp
    · have e : decide (((loud F xs).map fun n : Nat => (n : Int)) = []) = decide (loud F xs = []) := by
        cases loud F xs <;> rfl
      rw [e]
      exact q _ (s1.trans (same_upd hr))
end
end K15
namespace K15
open PySem PySem.Spec PyProof.Rows L2
/-! ### slices of tuples of naturals -/
def cutN (xs : List Nat) (lo hi : Option Int) : List Nat := (xs.drop (HT.sIx xs.length 0 lo)).take (HT.sIx xs.length xs.length hi - HT.sIx xs.length 0 lo)
theorem cut_map (xs : List Nat) (lo hi : Option Int) : cutV (xs.map nV) lo hi = (cutN xs lo hi).map nV := by
  unfold cutV cutN
  rw [List.length_map, List.map_take, List.map_drop]
theorem q_cut {K : PySem.W.Frag} {a : Addr} {xs : List Nat} {lo hi : Option Int} {H : Hp} {Q : VK} (h : NsAt H a xs) (q : ∀ b H2, Same H H2 → NsAt H2 b (cutN xs lo hi) → Q (.ref b) H2) : rSlA K (.ref a) lo hi H Q := by
  refine ⟨a, xs.map nV, rfl, SqT.of h, fun hw => q a H (Same.refl H) ?_, fun _ p hp => q p _ (same_upd hp) ?_⟩
  · rw [List.length_map] at hw
    have e : cutN xs lo hi = xs := by
      unfold cutN
      rw [hw.1, hw.2, List.drop_zero, Nat.sub_zero, List.take_length]
    rw [e]
    exact h
  · show upd H p _ p = _
    rw [upd_same, cut_map]
theorem cut_from (xs : List Nat) (i : Nat) : cutN xs (some (i : Int)) none = xs.drop i := by
  unfold cutN
  rw [HT.sIx_nat, HT.sIx_none]
  by_cases h : i ≤ xs.length
  · rw [Nat.min_eq_left h]
    exact List.take_of_length_le (by rw [List.length_drop]; exact Nat.le_refl _)
  · rw [Nat.min_eq_right (by omega), List.drop_eq_nil_of_le (by omega), List.drop_eq_nil_of_le (show xs.length ≤ i by omega), List.take_nil]
theorem cut_to (xs : List Nat) (i : Nat) : cutN xs none (some (i : Int)) = xs.take i := by
  unfold cutN
  rw [HT.sIx_nat, HT.sIx_none, List.drop_zero, Nat.sub_zero]
  by_cases h : i ≤ xs.length
  · rw [Nat.min_eq_left h]
  · rw [Nat.min_eq_right (by omega), List.take_length, List.take_of_length_le (by omega)]
theorem q_rest {K : PySem.W.Frag} {a : Addr} {xs : List Nat} {i : Nat} {σ : L2.St} {H : Hp} {Q : VK} (h : NsAt H a xs) (si : σ[i]? = some (some (.ref a))) (q : ∀ b H2, Same H H2 → NsAt H2 b (xs.drop 1) → Q (.ref b) H2) :
    tSl (rSlA K) (tVar i) (tPart (tC (.int 1))) tNoPart σ H Q :=
  ⟨_, si, _, rfl, (q_cut h fun b H2 s2 hb => q b H2 s2 (by rw [← cut_from xs 1]; exact hb) : rSlA K (.ref a) (some 1) none H Q)⟩
theorem ixN_at {n j : Nat} (hj : j < n) : ixN n (j : Int) = some j := by
  unfold ixN
  rw [if_pos (by omega), if_pos (by omega)]
  rfl
theorem at_neg1 {xs : List Nat} (h : xs ≠ []) : ∃ v, v ∈ xs ∧ atI (xs.map nV) (-1) = some (nV v) := by
  refine ⟨xs.getLast h, List.getLast_mem h, ?_⟩
  have e := List.dropLast_concat_getLast h
  have e2 : xs.map nV = xs.dropLast.map nV ++ [nV (xs.getLast h)] := by
    have e3 := congrArg (List.map nV) e.symm
    rw [List.map_append] at e3
    exact e3
  rw [e2]
  exact atI_last _ _
section
variable {P : Program} {w : World} {K : PySem.W.Frag} {mg : Str → Option Value} {base : Heap} {f : Addr} {fd : FuncData}
/-! ### is_chain, is_round: some bool -/
def spChain : Sp := fun vs H Q _ => ∃ (f c : Addr) (F : Fm) (cs : List Nat), vs = [.ref f, .ref c] ∧ FmAt H f F ∧ NsAt H c cs ∧ cs.length ≤ 1000 ∧ (∀ k ∈ cs, k < F.m) ∧ ∀ b H', Same H H' → Q (.bl b) H'
theorem sc_is_chain : FnScope ["form", "links", "one", "other"] ["form", "links"] (defScope sis_chain) := ⟨rfl, rfl, rfl, by decide +kernel, rfl, by decide +kernel, by decide +kernel⟩
theorem c_is_chain (F : FnP K "is_chain" sis_chain f fd) (g : mg "is_chain" = some (.ref f)) (T : Bl mg) : Cal P w K mg base "is_chain" 1 ["form", "links"] spChain := by
  refine ⟨f, fd, F.ok sc_is_chain (fun vs H Q E h => ?_) (fun cdv A outer s H vs Q E hr h => ?_), g, F.kp, F.bindsN fun _ _ _ _ _ _ us hl => match us, hl with | [_, _], _ => rfl⟩
  · obtain ⟨_, _, _, _, rfl, _⟩ := h
    rfl
  · obtain ⟨f, c, F, cs, rfl, A, hc, few, hk, q⟩ := h
    have nd := sc_is_chain.nd
    have hu := hu_of hr
    refine ⟨_, PSs.nox (pss_one (ps_ret (pe_callB (cr_all rfl) rfl T.all b_all (pa_cons (pe_lc (own := [("one", 2), ("other", 3)]) (g := gTup _ 2 (gCons (gName 2) (gCons (gName 3) gNil))) (tt := tYes) (te := (tOp rEq (tOp (rIxT _) (tOp (rIxT _) (tOp (rIxT _) (tVar 0) (tC (.int 1))) (tVar 2)) (tC (.int 1))) (tOp (rIxT _) (tOp (rIxT _) (tOp (rIxT _) (tVar 0) (tC (.int 1))) (tVar 3)) (tC (.int 0))))) rfl nd (RZ.pi_zipA rfl T.zip (pa_cons (pv 1) (pa_cons (pe_slice sl_tupA (pv 1) (po_some pe_int) po_none) pa_nil))) (blkOk_by (N := ["form", "links", "one", "other"]) (sc := defScope sis_chain) (by decide +kernel)) (fun _ _ _ _ _ => (pg_tup rfl (pgs_cons (pg_name (i := 2) nd rfl (Or.inl rfl)) (pgs_cons (pg_name (i := 3) nd rfl (Or.inl rfl)) pgs_nil)))) (fun _ _ _ _ _ => pts_nil) (fun _ _ _ _ _ => (pe_cmpR op_eq (pe_ix ix_tup (pe_ix ix_tup (pe_ix ix_tup (pv 0) pe_int (fun _ _ => rfl)) (pv 2) (fun _ _ => rfl)) pe_int (fun _ _ => rfl)) (pe_ix ix_tup (pe_ix ix_tup (pe_ix ix_tup (pv 0) pe_int (fun _ _ => rfl)) (pv 3) (fun _ _ => rfl)) pe_int (fun _ _ => rfl)) (nomark _)))) pa_nil)))), ?_⟩
    refine ⟨_, rfl, q_rest hc rfl fun b H2 s2 hb => ?_⟩
    have hc2 := hc.on (tups_of s2)
    refine ⟨c, b, _, _, rfl, .inr ⟨SqT.of hc2, SqT.of hb, fun D hD => ?_⟩⟩
    refine lcZ (fun i => some (.bl (decide (nV (lk F (at0 cs i)).tgt = nV (lk F (at0 (cs.drop 1) i)).src)))) (by rw [List.length_map]; exact few) hc2 hb hD (fun i x y t H1 hx hy s1 ht R R0 kR k0 => ?_) fun H1 s1 e => ?_
    · obtain ⟨hi, rfl⟩ := nV_get hx
      obtain ⟨hj, rfl⟩ := nV_get hy
      have k1 := hk _ (List.mem_of_getElem? (at0_get hi))
      have k2 := hk _ (List.mem_of_mem_drop (List.mem_of_getElem? (at0_get hj)))
      have A1 := A.on (tups_of (s2.trans (s1.trans (same_upd (o := .tup [nV (at0 cs i), nV (at0 (cs.drop 1) i)]) ht))))
      refine ⟨t, _, rfl, SqT.of upd_same, rfl, _, _, rfl, _, _, rfl, rfl, rfl, qY ?_⟩
      exact q_part 1 A1 k1 rfl rfl (fun t => rfl) (q_part 0 A1 k2 rfl rfl (fun t => rfl) ⟨rfl, kR _ _ (same_upd ht) rfl⟩)
    · exact q_all (fun i => decide (nV (lk F (at0 cs i)).tgt = nV (lk F (at0 (cs.drop 1) i)).src)) e (q _ _ (s2.trans s1))
def spRound : Sp := fun vs H Q _ => ∃ (f c : Addr) (F : Fm) (cs : List Nat), vs = [.ref f, .ref c] ∧ FmAt H f F ∧ NsAt H c cs ∧ cs ≠ [] ∧ (∀ k ∈ cs, k < F.m) ∧ ∀ b, Q (.bl b) H
theorem sc_is_round : FnScope ["form", "links"] ["form", "links"] (defScope sis_round) := ⟨rfl, rfl, rfl, by decide +kernel, rfl, by decide +kernel, by decide +kernel⟩
theorem c_is_round (F : FnP K "is_round" sis_round f fd) (g : mg "is_round" = some (.ref f)) : Cal P w K mg base "is_round" 1 ["form", "links"] spRound := by
  refine ⟨f, fd, F.ok sc_is_round (fun vs H Q E h => ?_) (fun cdv A outer s H vs Q E hr h => ?_), g, F.kp, F.bindsN fun _ _ _ _ _ _ us hl => match us, hl with | [_, _], _ => rfl⟩
  · obtain ⟨_, _, _, _, rfl, _⟩ := h
    rfl
  · obtain ⟨f, c, F, cs, rfl, A, hc, ne, hk, q⟩ := h
    have nd := sc_is_round.nd
    have hu := hu_of hr
    refine ⟨_, PSs.nox (pss_one (ps_ret (pe_cmpR op_eq (pe_ix ix_tup (pe_ix ix_tup (pe_ix ix_tup (pv 0) pe_int (fun _ _ => rfl)) (pe_ix ix_tup (pv 1) (pe_un un_neg pe_int) (fun _ _ => rfl)) (fun _ _ => rfl)) pe_int (fun _ _ => rfl)) (pe_ix ix_tup (pe_ix ix_tup (pe_ix ix_tup (pv 0) pe_int (fun _ _ => rfl)) (pe_ix ix_tup (pv 1) pe_int (fun _ _ => rfl)) (fun _ _ => rfl)) pe_int (fun _ _ => rfl)) (nomark _)))), ?_⟩
    obtain ⟨s, l, las, h1, h2, h3, h4, h5⟩ := A.ex
    obtain ⟨v, hv, hlast⟩ := at_neg1 ne
    obtain ⟨a, t, q1, q2, q3⟩ := h5 v (hk v hv)
    have h0 : 0 < cs.length := List.length_pos_iff.mpr ne
    have hfst : atI (cs.map nV) 0 = some (nV (at0 cs 0)) := at_nV h0
    obtain ⟨a', t', q1', q2', q3'⟩ := h5 (at0 cs 0) (hk _ (List.mem_of_getElem? (at0_get h0)))
    refine ⟨_, rfl, f, _, 1, .ref l, rfl, rfl, SqT.of h1, rfl, _, rfl, 1, rfl, c, _, -1, _, rfl, rfl, SqT.of hc, hlast, l, las, _, .ref a, rfl, rfl, SqT.of h3, atI_nat q1, a, _, 1, _, rfl, rfl, SqT.of q2, rfl, ?_⟩
    refine ⟨_, rfl, f, _, 1, .ref l, rfl, rfl, SqT.of h1, rfl, _, rfl, c, _, 0, _, rfl, rfl, SqT.of hc, hfst, l, las, _, .ref a', rfl, rfl, SqT.of h3, atI_nat q1', a', _, 0, _, rfl, rfl, SqT.of q2', rfl, ?_⟩
    exact ⟨rfl, q _⟩
/-! ### ranks_of: some tuple -/
def spRanks : Sp := fun vs H Q _ => ∃ (f : Addr) (F : Fm), vs = [.ref f] ∧ FmAt H f F ∧ Good F ∧ ∀ p H', Same H H' → Q (.ref p) H'
theorem sc_ranks_of : FnScope ["form", "ranks", "turn", "source", "target", "table", "guard"] ["form"] (defScope sranks_of) := ⟨rfl, rfl, rfl, by decide +kernel, rfl, by decide +kernel, by decide +kernel⟩
theorem c_ranks_of (F : FnP K "ranks_of" sranks_of f fd) (g : mg "ranks_of" = some (.ref f)) (T : Bl mg) : Cal P w K mg base "ranks_of" 1 ["form"] spRanks := by
  refine ⟨f, fd, F.ok sc_ranks_of (fun vs H Q E h => ?_) (fun cdv A outer s H vs Q E hr h => ?_), g, F.kp, F.bindsN fun _ _ _ _ _ _ us hl => match us, hl with | [_], _ => rfl⟩
  · obtain ⟨_, _, rfl, _⟩ := h
    rfl
  · obtain ⟨f, F, rfl, A, G, q⟩ := h
    have nd := sc_ranks_of.nd
    have hu := hu_of hr
    refine ⟨_, PSs.nox (pss_cons (ps_set (i := 1) nd rfl (Or.inl rfl) (pe_op op_rep (pe_lst (pa_cons pe_int pa_nil)) (pe_callB call_lenS rfl T.len b_len (pa_cons (pe_ix ix_tup (pv 0) pe_int (fun _ _ => rfl)) pa_nil))))
      (pss_cons (ps_for PassesOwn.never rfl (pi_tup (pe_ix ix_tup (pv 0) pe_int (fun _ _ => rfl))) (pg_name (i := 2) nd rfl (Or.inl rfl))
        (pss_one (ps_for PassesOwn.never rfl (pi_tup (pe_ix ix_tup (pv 0) pe_int (fun _ _ => rfl))) (pg_tup rfl (pgs_cons (pg_name (i := 3) nd rfl (Or.inl rfl)) (pgs_cons (pg_name (i := 4) nd rfl (Or.inl rfl)) (pgs_cons (pg_name (i := 5) nd rfl (Or.inl rfl)) (pgs_cons (pg_name (i := 6) nd rfl (Or.inl rfl)) pgs_nil)))))
          (pss_one (ps_asg (pe_callB (call_max2 rfl) rfl T.max b_max (pa_cons (pe_ix ix_list (pv 1) (pv 4) (fun _ _ => rfl)) (pa_cons (pe_op op_add (pe_ix ix_list (pv 1) (pv 3) (fun _ _ => rfl)) pe_int) pa_nil))) (pg_sub (pv 1) (pv 4) set_list))))))
      (pss_one (ps_ret (pe_callTy call_tupS rfl T.tuple b_tuple (pa_cons (pv 1) pa_nil)))))), ?_⟩
    refine ⟨by show 1 ≤ sizeLine; decide, fun z hz => ?_⟩
    have Az := A.on (tups_of (same_upd (o := .lst [.int 0]) hz))
    refine q_sizes Az rfl fun s hs => ⟨s, _, rfl, .inr (SqT.of hs), z, _, _, rfl, rfl, upd_same, ?_, ?_, ?_, fun r hr => ?_⟩
    · rw [List.length_map]
      have := G.n4
      unfold Fm.n at this
      omega
    · rw [List.length_map]
      have := G.n4
      unfold Fm.n at this
      omega
    · rw [List.length_map]
      have := G.n4
      unfold Fm.n at this
      refine line_small ?_
      show 1 * (F.sizes.length : Int).toNat ≤ 1000
      omega
    have s0 : Same H (upd (upd H z (.lst [.int 0])) r (.lst (List.replicate (((F.sizes.map nV).length : Int)).toNat [V.int 0]).flatten)) := (same_upd hz).trans (same_upd hr)
    have hrH : H r = none := (same_upd hz).free hr
    have r0 : (List.replicate (((F.sizes.map nV).length : Int)).toNat [V.int 0]).flatten = (List.replicate F.n (0 : Int)).map V.int := by
      rw [List.length_map]
      show (List.replicate F.n [V.int 0]).flatten = _
      induction F.n with
      | zero => rfl
      | succ n ih => rw [List.replicate_succ, List.flatten_cons, ih]; rfl
    rw [r0] at s0 ⊢
    -- the word of both loops
    let W : L2.St → Hp → Prop := fun σ H2 => ∃ (rs : List Int) (v2 v3 v4 v5 v6 : Option V), σ = [some (.ref f), some (.ref r), v2, v3, v4, v5, v6] ∧ (∀ b o, H b = some o → H2 b = some o) ∧ H2 r = some (.lst (rs.map V.int)) ∧ rs.length = F.n
    refine q_sizes (A.on (tups_of s0)) rfl fun s hs => ⟨s, rfl, ⟨_, SqT.of hs⟩, for_tup (K := K) (a := s) (xs := F.sizes.map nV) (fun _ σ H2 => W σ H2 ∧ NsAt H2 s F.sizes)
      ⟨⟨List.replicate F.n 0, none, none, none, none, none, rfl, s0, upd_same, List.length_replicate⟩, hs⟩ (fun i σ H2 _ h => SqT.of h.2) ?_ ?_⟩
    · rintro i x σ H2 hx ⟨⟨rs, v2, v3, v4, v5, v6, rfl, s2, hr2, hl2⟩, hs2⟩
      have A2 : FmAt H2 f F := A.on (tups_of s2)
      obtain ⟨s', l, las, h1, h2, h3, h4, h5⟩ := A2.ex
      refine ⟨_, rfl, f, _, 1, .ref l, rfl, rfl, SqT.of h1, rfl, l, rfl, ⟨las, SqT.of h3⟩, for_tup (K := K) (a := l) (xs := las) (fun _ σ H3 => W σ H3 ∧ NsAt H3 s F.sizes ∧ H3 l = some (.tup las) ∧ Tups H2 H3)
        ⟨⟨rs, _, v3, v4, v5, v6, rfl, s2, hr2, hl2⟩, hs2, h3, fun _ _ e => e⟩ (fun i σ H2 _ h => SqT.of h.2.2.1) ?_ ?_⟩
      · rintro j y σ H3 hy ⟨⟨rs, v2, v3, v4, v5, v6, rfl, s3, hr3, hl3⟩, hs3, hl, t3⟩
        have hj : j < F.m := by
          rw [← h4]
          exact (List.getElem?_eq_some_iff.mp hy).1
        obtain ⟨a, t, q1, q2, q3⟩ := h5 j hj
        rw [hy] at q1
        cases q1
        have q2' := t3 _ _ q2
        have ht := G.tgt j hj
        have hs' := G.src j hj
        refine ⟨a, _, rfl, SqT.of q2', rfl, _, _, rfl, _, _, rfl, _, _, rfl, _, _, rfl, rfl, ?_⟩
        have ct : ∃ z, rs[(lk F j).tgt]? = some z := ⟨_, List.getElem?_eq_getElem (by rw [hl3]; exact ht)⟩
        have cs : ∃ z, rs[(lk F j).src]? = some z := ⟨_, List.getElem?_eq_getElem (by rw [hl3]; exact hs')⟩
        obtain ⟨zt, ezt⟩ := ct
        obtain ⟨zs, ezs⟩ := cs
        refine ⟨_, rfl, _, rfl, r, _, _, _, rfl, rfl, SqL.of hr3, at_map ezt, _, rfl, _, rfl, r, _, _, _, rfl, rfl, SqL.of hr3, at_map ezs, _, _, rfl, rfl, _, _, rfl, ?_⟩
        refine ⟨_, rfl, _, rfl, r, _, _, (lk F j).tgt, rfl, rfl, hr3, ixN_at (by rw [List.length_map, hl3]; exact ht), ?_⟩
        have hne : ∀ b xs, H3 b = some (.tup xs) → b ≠ r := fun b xs e => ne_of e hr3 (by intro z; cases z)
        refine ⟨⟨rs.set (lk F j).tgt (if zs + 1 > zt then zs + 1 else zt), _, _, _, _, _, rfl, fun b o e => ?_, ?_, by rw [List.length_set]; exact hl3⟩, ?_, ?_, fun b xs e => ?_⟩
        · rw [upd_ne (ne_of_none e hrH)]
          exact s3 _ _ e
        · rw [upd_same, List.map_set]
        · show upd H3 r _ s = _
          rw [upd_ne (hne _ _ hs3)]
          exact hs3
        · rw [upd_ne (hne _ _ hl)]
          exact hl
        · have e' := t3 _ _ e
          rw [upd_ne (hne _ _ e')]
          exact e'
      · rintro σ H3 ⟨w3, hs3, _, _⟩
        exact ⟨w3, hs3⟩
    · rintro σ H2 ⟨⟨rs, v2, v3, v4, v5, v6, rfl, s2, hr2, hl2⟩, hs2⟩
      exact ⟨_, rfl, r, _, rfl, .inl ⟨SqL.of hr2, fun p hp => q p _ ((show Same H H2 from s2).trans (same_upd hp))⟩⟩
end
end K15
namespace K15
open PySem PySem.Spec PyProof.Rows L2
/-- a chain: a tuple of some links -/
def Ch (F : Fm) (H : Hp) (v : V) (b : Nat) : Prop := ∃ (p : Addr) (cs : List Nat), v = .ref p ∧ NsAt H p cs ∧ cs ≠ [] ∧ cs.length ≤ b ∧ ∀ k ∈ cs, k < F.m
theorem Ch.on {F : Fm} {H H' : Hp} {v : V} {b : Nat} (t : Tups H H') (h : Ch F H v b) : Ch F H' v b := by
  obtain ⟨p, cs, h1, h2, h3⟩ := h
  exact ⟨p, cs, h1, h2.on t, h3⟩
theorem tups_lst {H : Hp} {D : Addr} {xs ys : List V} (h : H D = some (.lst xs)) : Tups H (upd H D (.lst ys)) := fun a zs e => by
  rw [upd_ne (ne_of e h (by intro z; cases z))]
  exact e
theorem same_but {H0 H : Hp} {D : Addr} {ys : List V} (s : Same H0 H) (h : H0 D = none) : Same H0 (upd H D (.lst ys)) := fun a o e => by
  rw [upd_ne (ne_of_none e h)]
  exact s _ _ e
theorem pow_le (t : Nat) (h : t < 4) : 4 ^ (t + 1) * 4 ≤ 1024 := by
  have e : t = 0 ∨ t = 1 ∨ t = 2 ∨ t = 3 := by omega
  rcases e with rfl | rfl | rfl | rfl <;> decide
section
variable {P : Program} {w : World} {K : PySem.W.Frag} {mg : Str → Option Value} {base : Heap} {f : Addr} {fd : FuncData}
def spLeast : Sp := fun vs H Q _ => ∃ (f : Addr) (F : Fm), vs = [.ref f] ∧ FmAt H f F ∧ Good F ∧ ∀ v H', Same H H' → Q v H'
theorem sc_least_round : FnScope ["form", "chains", "many", "chain", "longer", "link"] ["form"] (defScope sleast_round) := ⟨rfl, rfl, rfl, by decide +kernel, rfl, by decide +kernel, by decide +kernel⟩
theorem c_least_round (F : FnP K "least_round" sleast_round f fd) (g : mg "least_round" = some (.ref f)) (T : Bl mg) (cRo : Cal P w K mg base "is_round" 1 ["form", "links"] spRound) (cCh : Cal P w K mg base "is_chain" 1 ["form", "links"] spChain) : Cal P w K mg base "least_round" 2 ["form"] spLeast := by
  refine ⟨f, fd, F.ok sc_least_round (fun vs H Q E h => ?_) (fun cdv A outer s H vs Q E hr h => ?_), g, F.kp, F.bindsN fun _ _ _ _ _ _ us hl => match us, hl with | [_], _ => rfl⟩
  · obtain ⟨_, _, rfl, _⟩ := h
    rfl
  · obtain ⟨f, F, rfl, A, G, q⟩ := h
    have nd := sc_least_round.nd
    have hu := hu_of hr
    refine ⟨_, PSs.nox (pss_cons (ps_setLc (i := 1) (own := [("link", 5)]) (g := gName 5) (tt := tYes) (te := (tTup (tCons (tVar 5) tNil))) rfl nd rfl rfl (sw_true rfl rfl rfl (by decide +kernel)) (pi_range1 rfl T.range (pa_cons (pe_callB call_lenS rfl T.len b_len (pa_cons (pe_ix ix_tup (pv 0) pe_int (fun _ _ => rfl)) pa_nil)) pa_nil)) (blkOk_by (N := ["form", "chains", "many", "chain", "longer", "link"]) (sc := defScope sleast_round) (by decide +kernel)) (fun _ _ _ _ _ => (pg_name (i := 5) nd rfl (Or.inl rfl))) (fun _ _ _ _ _ => pts_nil) (fun _ _ _ _ _ => (pe_tup (pa_cons (pv 5) pa_nil))))
      (pss_cons (ps_for PassesOwn.never rfl (pi_tup (pe_ix ix_tup (pv 0) pe_int (fun _ _ => rfl))) (pg_name (i := 2) nd rfl (Or.inl rfl))
        (pss_cons (ps_for PassesOwn.never rfl (pi_list (pv 1)) (pg_name (i := 3) nd rfl (Or.inl rfl))
          (pss_one (ps_if (pt_val (pe_cal cRo hr (pa_cons (pv 0) (pa_cons (pv 3) pa_nil)))) (pss_one (ps_ret (pv 3))) pss_nil)))
        (pss_cons (ps_setLc2 (i := 4) (own := [("chain", 3), ("link", 5)]) (vs1 := [5]) (g := gName 3) (g1 := gName 5) (tt := tYes) (te := (tOp (rCatA _) (tVar 3) (tTup (tCons (tVar 5) tNil)))) (tt1 := tYes) (wi1 := iRng1 (tCons (tCB (rLenS _) (tCons (tOp (rIxT _) (tVar 0) (tC (.int 1))) tNil)) tNil)) rfl nd rfl rfl (sw_true rfl rfl rfl (by decide +kernel)) (pi_list (pv 1)) (blkOk_by (N := ["form", "chains", "many", "chain", "longer", "link"]) (sc := defScope sleast_round) (by decide +kernel)) (by decide) (fun _ _ _ _ _ => (pg_name (i := 3) nd rfl (Or.inl rfl))) (fun _ _ _ _ _ => pts_nil) (fun _ _ _ _ _ => (pi_range1 rfl T.range (pa_cons (pe_callB call_lenS rfl T.len b_len (pa_cons (pe_ix ix_tup (pv 0) pe_int (fun _ _ => rfl)) pa_nil)) pa_nil))) (fun _ _ _ _ _ => (pg_name (i := 5) nd rfl (Or.inl rfl))) (fun _ _ _ _ _ => pts_nil) (fun _ _ _ _ _ => (pe_op op_catA (pv 3) (pe_tup (pa_cons (pv 5) pa_nil)))))
        (pss_one (ps_setLc (i := 1) (own := [("chain", 3)]) (g := gName 3) (tt := (tB (tCall spChain [] E0 (tCons (tVar 0) (tCons (tVar 3) tNil))))) (te := (tVar 3)) rfl nd rfl rfl (sw_true rfl rfl rfl (by decide +kernel)) (pi_list (pv 4)) (blkOk_by (N := ["form", "chains", "many", "chain", "longer", "link"]) (sc := defScope sleast_round) (by decide +kernel)) (fun _ _ _ _ _ => (pg_name (i := 3) nd rfl (Or.inl rfl))) (fun _ _ _ _ _ => pts_one (pt_val (pe_cal cCh hr (pa_cons (pv 0) (pa_cons (pv 3) pa_nil))))) (fun _ _ _ _ _ => (pv 3)))))))
      (pss_one (ps_ret pe_non)))), ?_⟩
    have m4 := G.m4
    refine q_links A rfl fun l las hl hn => ⟨l, las, rfl, .inr (SqT.of hl), _, rfl, by omega, by omega, fun D hD => ?_⟩
    have em : ((las.length : Int)).toNat = F.m := by rw [hn]; rfl
    refine lc_range (fun i H1 => Same H H1 ∧ ∃ vs, H1 D = some (.lst vs) ∧ vs.length = i ∧ ∀ v ∈ vs, Ch F H1 v 1) ⟨same_upd hD, [], upd_same, rfl, fun _ h => by cases h⟩ ?_ ?_
    · rintro i H1 hi ⟨s1, vs, e1, l1, c1⟩
      rw [em] at hi
      rw [Int.zero_add]
      refine ⟨rfl, qY ⟨_, rfl, by show 1 ≤ sizeLine; decide, fun p hp => ?_⟩⟩
      have sp := same_upd (o := .tup [nV i]) hp
      refine ⟨vs, sp _ _ e1, small1000 (by omega), same_but (s1.trans sp) hD, _, upd_same, by rw [List.length_append, l1]; rfl, fun v hv => ?_⟩
      rcases List.mem_append.mp hv with hv | hv
      · exact ((c1 v hv).on (tups_of sp)).on (tups_lst (sp _ _ e1))
      · rw [List.mem_singleton.mp hv]
        exact (show Ch F _ (.ref p) 1 from ⟨p, [i], rfl, upd_same, by simp, Nat.le_refl _, fun k hk => by rw [List.mem_singleton.mp hk]; exact hi⟩).on (tups_lst (sp _ _ e1))
    · rintro H1 ⟨s1, vs, e1, l1, c1⟩
      rw [em] at l1
      refine q_sizes (A.on (tups_of s1)) rfl fun s hs => ⟨s, rfl, ⟨_, SqT.of hs⟩, for_tup (K := K) (a := s) (xs := F.sizes.map nV) (fun t σ H2 => ∃ (a : Addr) (vs : List V) (v2 v3 v4 v5 : Option V), σ = [some (.ref f), some (.ref a), v2, v3, v4, v5] ∧ Same H H2 ∧ NsAt H2 s F.sizes ∧
          H2 a = some (.lst vs) ∧ vs.length ≤ 4 ^ (t + 1) ∧ ∀ v ∈ vs, Ch F H2 v (t + 1))
        ⟨D, vs, none, none, none, none, rfl, s1, hs, e1, by rw [l1]; exact m4, c1⟩ (fun i σ H2 _ ⟨_, _, _, _, _, _, _, _, h, _⟩ => SqT.of h) ?_ ?_⟩
      · rintro t x σ H2 hx ⟨a, vs, v2, v3, v4, v5, rfl, s2, hs2, e2, l2, c2⟩
        have ht : t < 4 := by
          have h1 := (nV_get hx).1
          have h2 : F.sizes.length ≤ 4 := G.n4
          omega
        have pw := pow_le t ht
        have A2 := A.on (tups_of s2)
        -- for chain in chains: the round found is returned
        refine ⟨_, rfl, a, rfl, ⟨vs, SqL.of e2⟩, for_list (K := K) (a := a) (xs := vs) (fun _ σ H3 => H3 = H2 ∧ ∃ v3, σ = [some (.ref f), some (.ref a), some x, v3, v4, v5]) ⟨rfl, v3, rfl⟩ (fun _ _ H3 _ h => by rw [h.1]; exact SqL.of e2) ?_ ?_⟩
        · rintro j y σ H3 hy ⟨rfl, v3, rfl⟩
          obtain ⟨p, cs, rfl, hp, ne, _, hk⟩ := c2 y (List.mem_of_getElem? hy)
          refine ⟨_, rfl, _, rfl, f, p, F, cs, rfl, A2, hp, ne, hk, fun b => ⟨_, rfl, ?_⟩⟩
          cases b with
          | true => exact iteT ⟨_, rfl, q _ _ s2⟩
          | false => exact iteF ⟨rfl, _, rfl⟩
        · rintro σ H3 ⟨rfl, v3, rfl⟩
          -- longer
          refine ⟨_, rfl, a, rfl, ⟨vs, SqL.of e2⟩, fun D hD => ?_⟩
          have aD : a ≠ D := ne_of_none e2 hD
          let Po : Nat → Hp → Prop := fun c H4 => Same H3 H4 ∧ ∃ ws, H4 D = some (.lst ws) ∧ ws.length ≤ c ∧ ∀ v ∈ ws, Ch F H4 v (t + 2)
          refine ⟨fun i m H4 => m = vs.length - i ∧ i ≤ vs.length ∧ Po (i * F.m) H4, ⟨_, rfl, Nat.zero_le _, same_upd hD, [], upd_same, Nat.zero_le _, fun _ h => by cases h⟩, ?_⟩
          rintro i m H4 ⟨rfl, hi, po⟩
          have ea : H4 a = some (.lst vs) := po.1 _ _ e2
          by_cases hlt : i < vs.length
          · refine .inr ⟨⟨vs, vs[i], SqL.of ea, List.getElem?_eq_getElem hlt⟩, Po ((i + 1) * F.m), fun H' p' => ⟨_, by omega, rfl, hlt, p'⟩, fun x' H5 y => ?_⟩
            obtain ⟨rfl, y⟩ := y
            have hy := y vs (SqL.of ea)
            obtain ⟨p, cs, rfl, hp, ne, hb, hk⟩ := c2 x' (List.mem_of_getElem? hy)
            refine ⟨rfl, qYA ?_⟩
            have A5 := A2.on (tups_of po.1)
            refine q_links A5 rfl fun l las hl hn => ⟨l, las, rfl, .inr (SqT.of hl), _, rfl, by omega, by omega, ?_⟩
            have em : ((las.length : Int)).toNat = F.m := by rw [hn]; rfl
            rw [em]
            have big : i * F.m + F.m ≤ 1024 := by
              have h1 : (i + 1) * F.m ≤ vs.length * 4 := Nat.mul_le_mul hlt m4
              rw [Nat.succ_mul] at h1
              omega
            refine ⟨fun j k H6 => k = F.m - j ∧ j ≤ F.m ∧ Po (i * F.m + j) H6, ⟨_, rfl, Nat.zero_le _, po⟩, ?_⟩
            rintro j k H6 ⟨rfl, hj, s6, ws, e6, l6, c6⟩
            by_cases hlj : j < F.m
            · refine .inr ⟨hlj, Po (i * F.m + (j + 1)), fun H' p' => ⟨_, by omega, rfl, hlj, p'⟩, fun x6 H7 y => ?_⟩
              obtain ⟨rfl, rfl⟩ := y
              rw [Int.zero_add]
              refine ⟨rfl, qY ⟨_, rfl, _, rfl, by show 1 ≤ sizeLine; decide, fun r hr => ?_⟩⟩
              have sr := same_upd (o := .tup [nV j]) hr
              have hp6 : NsAt H7 p cs := hp.on (tups_of s6)
              refine ⟨p, r, _, _, rfl, rfl, SqT.of (sr _ _ hp6), SqT.of upd_same, ?_, fun z => ?_, fun _ z => (by cases z), fun _ _ u hu => ?_⟩
              · rw [List.length_map]
                refine line_small ?_
                show cs.length + 1 ≤ 1000
                omega
              · exact absurd (List.map_eq_nil_iff.mp z) ne
              · have su := same_upd (o := .tup (cs.map nV ++ [nV j])) hu
                refine ⟨ws, su _ _ (sr _ _ e6), Nat.lt_of_le_of_lt l6 (Nat.lt_of_le_of_lt (show _ ≤ 1024 by omega) (by decide)), same_but (s6.trans (sr.trans su)) hD, _, upd_same, ?_, fun v hv => ?_⟩
                · rw [List.length_append]
                  show ws.length + 1 ≤ _
                  omega
                · have tl := tups_lst (ys := ws ++ [V.ref u]) (su _ _ (sr _ _ e6))
                  rcases List.mem_append.mp hv with hv | hv
                  · exact ((c6 v hv).on (tups_of (sr.trans su))).on tl
                  · rw [List.mem_singleton.mp hv]
                    refine (show Ch F _ (.ref u) (t + 2) from ⟨u, cs ++ [j], rfl, ?_, by simp, ?_, fun z hz => ?_⟩).on tl
                    · show upd _ u _ u = _
                      rw [upd_same, List.map_append]
                      rfl
                    · rw [List.length_append]
                      show cs.length + 1 ≤ t + 2
                      omega
                    · rcases List.mem_append.mp hz with hz | hz
                      · exact hk z hz
                      · rw [List.mem_singleton.mp hz]
                        exact hlj
            · have ej : j = F.m := by omega
              subst ej
              refine .inl ⟨Nat.le_refl _, s6, ws, e6, ?_, c6⟩
              rw [Nat.succ_mul]
              exact l6
          · have ei : i = vs.length := by omega
            subst ei
            refine .inl ⟨⟨vs, SqL.of ea, Nat.le_refl _⟩, ?_⟩
            obtain ⟨s4, ws, e4, l4, c4⟩ := po
            have l4' : ws.length ≤ 4 ^ (t + 1) * 4 := Nat.le_trans l4 (Nat.mul_le_mul l2 m4)
            -- the chains that hold
            refine ⟨_, rfl, D, rfl, ⟨ws, SqL.of e4⟩, fun D2 hD2 => ?_⟩
            refine lc_list (K := K) (a := D) (xs := ws) (fun j H6 => Same H4 H6 ∧ ∃ us, H6 D2 = some (.lst us) ∧ us.length ≤ j ∧ ∀ v ∈ us, Ch F H6 v (t + 2)) ⟨same_upd hD2, [], upd_same, Nat.le_refl _, fun _ h => by cases h⟩ (fun j H6 _ ⟨s6, _⟩ => SqL.of (s6 _ _ e4)) ?_ ?_
            · rintro j y H6 hy ⟨s6, us, e6, l6, c6⟩
              have hj := (List.getElem?_eq_some_iff.mp hy).1
              have cy := c4 y (List.mem_of_getElem? hy)
              obtain ⟨p, cs, rfl, hp, ne, hb, hk⟩ := id cy
              refine ⟨rfl, _, rfl, _, rfl, f, p, F, cs, rfl, A2.on (tups_of (s4.trans s6)), hp.on (tups_of s6), by omega, hk, fun b H7 s7 => ⟨_, rfl, ?_⟩⟩
              cases b with
              | false => exact iteF ⟨s6.trans s7, us, s7 _ _ e6, by omega, fun v hv => (c6 v hv).on (tups_of s7)⟩
              | true =>
                refine iteT ⟨_, rfl, us, s7 _ _ e6, Nat.lt_of_le_of_lt (show us.length ≤ 1024 by omega) (by decide), same_but (s6.trans s7) hD2, _, upd_same, ?_, fun v hv => ?_⟩
                · rw [List.length_append]
                  show us.length + 1 ≤ _
                  omega
                · have tl := tups_lst (ys := us ++ [V.ref p]) (s7 _ _ e6)
                  rcases List.mem_append.mp hv with hv | hv
                  · exact ((c6 v hv).on (tups_of s7)).on tl
                  · rw [List.mem_singleton.mp hv]
                    exact (cy.on (tups_of (s6.trans s7))).on tl
            · rintro H6 ⟨s6, us, e6, l6, c6⟩
              refine ⟨D2, us, _, _, _, _, rfl, s2.trans (s4.trans s6), hs2.on (tups_of (s4.trans s6)), e6, ?_, c6⟩
              have : 4 ^ (t + 1 + 1) = 4 ^ (t + 1) * 4 := by rw [Nat.pow_succ]
              omega
      · rintro σ H2 ⟨a, vs, v2, v3, v4, v5, rfl, s2, hs2, e2, l2, c2⟩
        exact q _ _ s2
/-! ### field_ring -/
def spRing : Sp := fun vs H Q _ => ∃ (f : Addr) (F : Fm), vs = [.ref f] ∧ FmAt H f F ∧ Good F ∧ ∀ p z y H', Same H H' → H' p = some (.tup [.str z, y]) → Q (.ref p) H'
theorem sc_field_ring : FnScope ["form", "found"] ["form"] (defScope sfield_ring) := ⟨rfl, rfl, rfl, by decide +kernel, rfl, by decide +kernel, by decide +kernel⟩
theorem c_field_ring (F : FnP K "field_ring" sfield_ring f fd) (g : mg "field_ring" = some (.ref f)) (cLr : Cal P w K mg base "least_round" 2 ["form"] spLeast) (cRk : Cal P w K mg base "ranks_of" 1 ["form"] spRanks) : Cal P w K mg base "field_ring" 3 ["form"] spRing := by
  refine ⟨f, fd, F.ok sc_field_ring (fun vs H Q E h => ?_) (fun cdv A outer s H vs Q E hr h => ?_), g, F.kp, F.bindsN fun _ _ _ _ _ _ us hl => match us, hl with | [_], _ => rfl⟩
  · obtain ⟨_, _, rfl, _⟩ := h
    rfl
  · obtain ⟨f, F, rfl, A, G, q⟩ := h
    have nd := sc_field_ring.nd
    have hu := hu_of hr
    refine ⟨_, PSs.nox (pss_cons (ps_set (i := 1) nd rfl (Or.inl rfl) (pe_cal cLr hr (pa_cons (pv 0) pa_nil)))
      (pss_one (ps_ret (pe_ifExp (pt_cmp (pc_notN (pv 1))) (pe_tup (pa_cons pe_str (pa_cons (pv 1) pa_nil))) (pe_tup (pa_cons pe_str (pa_cons (pe_cal cRk hr (pa_cons (pv 0) pa_nil)) pa_nil))))))), ?_⟩
    refine ⟨_, rfl, f, F, rfl, A, G, fun v H1 s1 => ?_⟩
    refine ⟨_, rfl, _, rfl, ?_⟩
    refine ite2 (fun _ => ?_) (fun _ => ?_)
    · exact ⟨_, rfl, by show 2 ≤ sizeLine; decide, fun p hp => q p _ v _ (s1.trans (same_upd hp)) upd_same⟩
    · refine ⟨_, rfl, f, F, rfl, A.on (tups_of s1), G, fun r H2 s2 => ⟨by show 2 ≤ sizeLine; decide, fun p hp => q p _ (.ref r) _ (s1.trans (s2.trans (same_upd hp))) upd_same⟩⟩
end
end K15
namespace K15
open PySem PySem.Spec PyProof.Rows L2
theorem dec_nV (a b : Nat) : decide (nV a = nV b) = decide (a = b) := by
  by_cases e : a = b
  · rw [decide_eq_true e, decide_eq_true (by rw [e])]
  · have e2 : ¬ nV a = nV b := fun z => e (Int.ofNat.inj (V.int.inj z))
    rw [decide_eq_false e, decide_eq_false e2]
theorem flat_nV (xs : List Nat) : (xs.map nV).all flatV = true := by
  rw [List.all_map]
  exact List.all_eq_true.mpr fun _ _ => rfl
theorem in_nV (k : Nat) (xs : List Nat) : inV (nV k) (xs.map nV) = decide (k ∈ xs) := by
  unfold inV
  rw [List.any_map]
  by_cases e : k ∈ xs
  · rw [decide_eq_true e]
    exact List.any_eq_true.mpr ⟨k, e, (show ((k : Int) == (k : Int)) = true from beq_self_eq_true _)⟩
  · rw [decide_eq_false e]
    refine Bool.eq_false_iff.mpr fun z => ?_
    obtain ⟨y, hy, h⟩ := List.any_eq_true.mp z
    have h' : ((y : Int) == (k : Int)) = true := h
    exact e (Int.ofNat.inj (beq_iff_eq.mp h') ▸ hy)
theorem fm_filter (c : Nat → Bool) (f : Nat → V) (xs : List Nat) : ((List.range xs.length).filterMap fun i => if c (at0 xs i) = true then some (f (at0 xs i)) else none) = (xs.filter c).map f := by
  have h1 : (List.range xs.length).map (at0 xs) = xs := by
    refine List.ext_getElem? fun i => ?_
    rw [List.getElem?_map]
    by_cases h : i < xs.length
    · rw [List.getElem?_range h, at0_get h]
      rfl
    · rw [List.getElem?_eq_none (by rw [List.length_range]; omega), List.getElem?_eq_none (by omega)]
      rfl
  have h2 : ∀ ys : List Nat, (ys.filterMap fun y => if c y = true then some (f y) else none) = (ys.filter c).map f := fun ys => by
    induction ys with
    | nil => rfl
    | cons y ys ih =>
      rw [List.filterMap_cons, List.filter_cons, ih]
      cases c y <;> rfl
  have h3 := h2 ((List.range xs.length).map (at0 xs))
  rw [List.filterMap_map] at h3
  rw [h1] at h3
  exact h3
/-! ### readings of slices and sums of tuples -/
section
variable {K : PySem.W.Frag} {H : Hp} {σ : L2.St} {Q : VK} {i j k : Nat} {a b : Addr} {xs ys : List Nat}
theorem q_upto (h : NsAt H a xs) (si : σ[i]? = some (some (.ref a))) (sj : σ[j]? = some (some (nV k))) (q : ∀ b H2, Same H H2 → NsAt H2 b (xs.take k) → Q (.ref b) H2) : tSl (rSlA K) (tVar i) tNoPart (tPart (tVar j)) σ H Q :=
  ⟨_, si, _, sj, _, rfl, (q_cut h fun b H2 s2 hb => q b H2 s2 (by rw [← cut_to xs k]; exact hb) : rSlA K (.ref a) none (some (k : Int)) H Q)⟩
theorem q_past (h : NsAt H a xs) (si : σ[i]? = some (some (.ref a))) (sj : σ[j]? = some (some (nV k))) (q : ∀ b H2, Same H H2 → NsAt H2 b (xs.drop (k + 1)) → Q (.ref b) H2) :
    tSl (rSlA K) (tVar i) (tPart (tOp (rI0 fun i j => .int (i + j)) (tVar j) (tC (.int 1)))) tNoPart σ H Q :=
  ⟨_, si, _, sj, _, _, rfl, rfl, _, rfl, (q_cut h fun b H2 s2 hb => q b H2 s2 (by rw [← cut_from xs (k + 1)]; exact hb) : rSlA K (.ref a) (some ((k : Int) + 1)) none H Q)⟩
theorem q_catN (ha : NsAt H a xs) (hb : NsAt H b ys) (few : xs.length + ys.length ≤ 1000) (q : ∀ p H2, Same H H2 → NsAt H2 p (xs ++ ys) → Q (.ref p) H2) : rCatA K (.ref a) (.ref b) H Q := by
  refine ⟨a, b, _, _, rfl, rfl, SqT.of ha, SqT.of hb, by rw [List.length_map, List.length_map]; exact line_small few, fun z => ?_, fun _ z => ?_, fun _ _ p hp => ?_⟩
  · have e := List.map_eq_nil_iff.mp z
    subst e
    exact q b H (Same.refl H) hb
  · have e := List.map_eq_nil_iff.mp z
    subst e
    exact q a H (Same.refl H) (by rw [List.append_nil]; exact ha)
  · refine q p _ (same_upd hp) ?_
    show upd H p _ p = _
    rw [upd_same, List.map_append]
end
theorem set_cut {xs : List Nat} {i : Nat} (v : Nat) (h : i < xs.length) : xs.take i ++ [v] ++ xs.drop (i + 1) = xs.set i v := by
  rw [List.set_eq_take_append_cons_drop, if_pos h, List.append_assoc]
  rfl
section
variable {P : Program} {w : World} {K : PySem.W.Frag} {mg : Str → Option Value} {base : Heap} {f : Addr} {fd : FuncData}
/-! ### is_once, is_shy: no link is guarded -/
def spOnce : Sp := fun vs H Q _ => ∃ (f : Addr) (F : Fm) (k : Nat), vs = [.ref f, nV k] ∧ FmAt H f F ∧ k < F.m ∧ ∀ H', Same H H' → Q (.bl false) H'
theorem sc_is_once : FnScope ["form", "link"] ["form", "link"] (defScope sis_once) := ⟨rfl, rfl, rfl, by decide +kernel, rfl, by decide +kernel, by decide +kernel⟩
theorem c_is_once (F : FnP K "is_once" sis_once f fd) (g : mg "is_once" = some (.ref f)) : Cal P w K mg base "is_once" 1 ["form", "link"] spOnce := by
  refine ⟨f, fd, F.ok sc_is_once (fun vs H Q E h => ?_) (fun cdv A outer s H vs Q E hr h => ?_), g, F.kp, F.bindsN fun _ _ _ _ _ _ us hl => match us, hl with | [_, _], _ => rfl⟩
  · obtain ⟨_, _, _, rfl, _⟩ := h
    rfl
  · obtain ⟨f, F, k, rfl, A, hk, q⟩ := h
    have nd := sc_is_once.nd
    have hu := hu_of hr
    refine ⟨_, PSs.nox (pss_one (ps_ret (pe_cmpR op_in_seq (pe_ix ix_tup (pe_ix ix_tup (pe_ix ix_tup (pv 0) pe_int (fun _ _ => rfl)) (pv 1) (fun _ _ => rfl)) pe_int (fun _ _ => rfl)) (pe_tup (pa_cons pe_int (pa_cons pe_int pa_nil))) rfl))), ?_⟩
    exact q_part 3 A hk rfl rfl (fun t => rfl) ⟨by show 2 ≤ sizeLine; decide, fun p hp => ⟨p, _, rfl, .inr (SqT.of upd_same), rfl, rfl, q _ (same_upd hp)⟩⟩
def spShy : Sp := spOnce
theorem sc_is_shy : FnScope ["form", "link"] ["form", "link"] (defScope sis_shy) := ⟨rfl, rfl, rfl, by decide +kernel, rfl, by decide +kernel, by decide +kernel⟩
theorem c_is_shy (F : FnP K "is_shy" sis_shy f fd) (g : mg "is_shy" = some (.ref f)) : Cal P w K mg base "is_shy" 1 ["form", "link"] spShy := by
  refine ⟨f, fd, F.ok sc_is_shy (fun vs H Q E h => ?_) (fun cdv A outer s H vs Q E hr h => ?_), g, F.kp, F.bindsN fun _ _ _ _ _ _ us hl => match us, hl with | [_, _], _ => rfl⟩
  · obtain ⟨_, _, _, rfl, _⟩ := h
    rfl
  · obtain ⟨f, F, k, rfl, A, hk, q⟩ := h
    have nd := sc_is_shy.nd
    have hu := hu_of hr
    refine ⟨_, PSs.nox (pss_one (ps_ret (pe_cmpR op_in_seq (pe_ix ix_tup (pe_ix ix_tup (pe_ix ix_tup (pv 0) pe_int (fun _ _ => rfl)) (pv 1) (fun _ _ => rfl)) pe_int (fun _ _ => rfl)) (pe_tup (pa_cons pe_int (pa_cons pe_int pa_nil))) rfl))), ?_⟩
    exact q_part 3 A hk rfl rfl (fun t => rfl) ⟨by show 2 ≤ sizeLine; decide, fun p hp => ⟨p, _, rfl, .inr (SqT.of upd_same), rfl, rfl, q _ (same_upd hp)⟩⟩
/-! ### links_from, with_value -/
def spFrom : Sp := fun vs H Q _ => ∃ (f : Addr) (F : Fm) (i : Nat), vs = [.ref f, nV i] ∧ FmAt H f F ∧ Good F ∧ ∀ H' p, Same H H' → NsAt H' p (lfrom F i) → Q (.ref p) H'
theorem sc_links_from : FnScope ["form", "field", "link"] ["form", "field"] (defScope slinks_from) := ⟨rfl, rfl, rfl, by decide +kernel, rfl, by decide +kernel, by decide +kernel⟩
theorem c_links_from (F : FnP K "links_from" slinks_from f fd) (g : mg "links_from" = some (.ref f)) (T : Bl mg) : Cal P w K mg base "links_from" 1 ["form", "field"] spFrom := by
  refine ⟨f, fd, F.ok sc_links_from (fun vs H Q E h => ?_) (fun cdv A outer s H vs Q E hr h => ?_), g, F.kp, F.bindsN fun _ _ _ _ _ _ us hl => match us, hl with | [_, _], _ => rfl⟩
  · obtain ⟨_, _, _, rfl, _⟩ := h
    rfl
  · obtain ⟨f, F, i, rfl, A, G, q⟩ := h
    have nd := sc_links_from.nd
    have hu := hu_of hr
    refine ⟨_, PSs.nox (pss_one (ps_ret (pe_callTy call_tupS rfl T.tuple b_tuple (pa_cons (pe_lc (own := [("link", 2)]) (g := gName 2) (tt := (tTest (tOp rEq (tOp (rIxT _) (tOp (rIxT _) (tOp (rIxT _) (tVar 0) (tC (.int 1))) (tVar 2)) (tC (.int 0))) (tVar 1)))) (te := (tVar 2)) rfl nd (pi_range1 rfl T.range (pa_cons (pe_callB call_lenS rfl T.len b_len (pa_cons (pe_ix ix_tup (pv 0) pe_int (fun _ _ => rfl)) pa_nil)) pa_nil)) (blkOk_by (N := ["form", "field", "link"]) (sc := defScope slinks_from) (by decide +kernel)) (fun _ _ _ _ _ => (pg_name (i := 2) nd rfl (Or.inl rfl))) (fun _ _ _ _ _ => pts_one (pt_cmpR op_eq (pe_ix ix_tup (pe_ix ix_tup (pe_ix ix_tup (pv 0) pe_int (fun _ _ => rfl)) (pv 2) (fun _ _ => rfl)) pe_int (fun _ _ => rfl)) (pv 1) (nomark _))) (fun _ _ _ _ _ => (pv 2))) pa_nil)))), ?_⟩
    have m4 := G.m4
    refine q_links A rfl fun l las hl hn => ⟨l, las, rfl, .inr (SqT.of hl), _, rfl, by omega, by omega, fun D hD => ?_⟩
    have em : ((las.length : Int)).toNat = F.m := by rw [hn]; rfl
    refine lcR (fun k => if decide ((lk F k).src = i) = true then some (nV k) else none) (by rw [em]; omega) hD (fun k H2 hk s2 R R0 kR k0 => ?_) fun H2 s2 e => ?_
    · rw [em] at hk
      refine ⟨rfl, ?_⟩
      refine q_part 0 (A.on (tups_of s2)) hk rfl rfl (fun t => rfl) ⟨_, rfl, rfl, _, rfl, ?_⟩
      rw [dec_nV]
      cases hl : decide ((lk F k).src = i) with
      | true => exact iteT ⟨_, rfl, kR _ _ (Same.refl _) (by rw [hl]; rfl)⟩
      | false => exact iteF (k0 _ (Same.refl _) (by rw [hl]; rfl))
    · refine ⟨D, _, rfl, .inl ⟨SqL.of e, fun p hp => ?_⟩⟩
      refine q _ p (s2.trans (same_upd hp)) ?_
      show upd H2 p _ p = _
      rw [upd_same, fm_if, em]
      rfl
def spWith : Sp := fun vs H Q _ => ∃ (x : Addr) (xs : List Nat) (i v : Nat), vs = [.ref x, nV i, nV v] ∧ NsAt H x xs ∧ i < xs.length ∧ xs.length ≤ 500 ∧ ∀ H' p, Same H H' → NsAt H' p (xs.set i v) → Q (.ref p) H'
theorem sc_with_value : FnScope ["filling", "field", "value"] ["filling", "field", "value"] (defScope swith_value) := ⟨rfl, rfl, rfl, by decide +kernel, rfl, by decide +kernel, by decide +kernel⟩
theorem c_with_value (F : FnP K "with_value" swith_value f fd) (g : mg "with_value" = some (.ref f)) : Cal P w K mg base "with_value" 1 ["filling", "field", "value"] spWith := by
  refine ⟨f, fd, F.ok sc_with_value (fun vs H Q E h => ?_) (fun cdv A outer s H vs Q E hr h => ?_), g, F.kp, F.bindsN fun _ _ _ _ _ _ us hl => match us, hl with | [_, _, _], _ => rfl⟩
  · obtain ⟨_, _, _, _, rfl, _⟩ := h
    rfl
  · obtain ⟨x, xs, i, v, rfl, hx, hi, few, q⟩ := h
    have nd := sc_with_value.nd
    have hu := hu_of hr
    refine ⟨_, PSs.nox (pss_one (ps_ret (pe_op op_catA (pe_op op_catA (pe_slice sl_tupA (pv 0) po_none (po_some (pv 1))) (pe_tup (pa_cons (pv 2) pa_nil))) (pe_slice sl_tupA (pv 0) (po_some (pe_op op_add (pv 1) pe_int)) po_none)))), ?_⟩
    refine q_upto hx rfl rfl fun b H2 s2 hb => ⟨_, rfl, by show 1 ≤ sizeLine; decide, fun p hp => ?_⟩
    have hb2 : NsAt _ b (xs.take i) := hb.on (tups_of (same_upd (o := .tup [nV v]) hp))
    have hp2 : NsAt (upd H2 p (.tup [nV v])) p [v] := upd_same
    refine q_catN hb2 hp2 (by rw [List.length_take]; show _ + 1 ≤ 1000; omega) fun c H3 s3 hc => ?_
    have s03 := s2.trans ((same_upd hp).trans s3)
    refine q_past (hx.on (tups_of s03)) rfl rfl fun d H4 s4 hd => ?_
    refine q_catN (hc.on (tups_of s4)) hd (by rw [List.length_append, List.length_take, List.length_drop]; show _ + 1 + _ ≤ 1000; omega) fun r H5 s5 hr5 => ?_
    refine q _ r (s03.trans (s4.trans s5)) ?_
    rw [← set_cut v hi]
    exact hr5
/-! ### first_moment -/
def beg (F : Fm) (xs : List Nat) (i v : Nat) : List Nat × List Nat := if at0 xs i = v then (xs, []) else (xs.set i v, lfrom F i)
def spFirst : Sp := fun vs H Q _ => ∃ (f x e : Addr) (F : Fm) (xs : List Nat) (i v : Nat), vs = [.ref f, .ref x, .ref e] ∧ FmAt H f F ∧ NsAt H x xs ∧ H e = some (.tup [nV i, nV v]) ∧ Good F ∧ Fil F xs ∧ i < F.n ∧ v < at0 F.sizes i ∧
  ∀ H' p, Same H H' → MoAt H' p i (beg F xs i v).1 (beg F xs i v).2 → Q (.ref p) H'
theorem sc_first_moment : FnScope ["form", "filling", "edit", "field", "value"] ["form", "filling", "edit"] (defScope sfirst_moment) := ⟨rfl, rfl, rfl, by decide +kernel, rfl, by decide +kernel, by decide +kernel⟩
theorem c_first_moment (F : FnP K "first_moment" sfirst_moment f fd) (g : mg "first_moment" = some (.ref f)) (cLf : Cal P w K mg base "links_from" 1 ["form", "field"] spFrom) (cWv : Cal P w K mg base "with_value" 1 ["filling", "field", "value"] spWith) : Cal P w K mg base "first_moment" 2 ["form", "filling", "edit"] spFirst := by
  refine ⟨f, fd, F.ok sc_first_moment (fun vs H Q E h => ?_) (fun cdv A outer s H vs Q E hr h => ?_), g, F.kp, F.bindsN fun _ _ _ _ _ _ us hl => match us, hl with | [_, _, _], _ => rfl⟩
  · obtain ⟨_, _, _, _, _, _, _, rfl, _⟩ := h
    rfl
  · obtain ⟨f, x, e, F, xs, i, v, rfl, A, hx, he, G, L, hi, hv, q⟩ := h
    have nd := sc_first_moment.nd
    have hu := hu_of hr
    refine ⟨_, PSs.nox (pss_cons (ps_asg (pv 2) (pg_tup rfl (pgs_cons (pg_name (i := 3) nd rfl (Or.inl rfl)) (pgs_cons (pg_name (i := 4) nd rfl (Or.inl rfl)) pgs_nil))))
      (pss_cons (ps_if (pt_cmpR op_eq (pe_ix ix_tup (pv 1) (pv 3) (fun _ _ => rfl)) (pv 4) (nomark _)) (pss_one (ps_ret (pe_tup (pa_cons (pv 3) (pa_cons (pv 1) (pa_cons (pe_tup pa_nil) (pa_cons (pe_tup pa_nil) pa_nil))))))) pss_nil)
      (pss_one (ps_ret (pe_tup (pa_cons (pv 3) (pa_cons (pe_cal cWv hr (pa_cons (pv 1) (pa_cons (pv 3) (pa_cons (pv 4) pa_nil)))) (pa_cons (pe_cal cLf hr (pa_cons (pv 0) (pa_cons (pv 3) pa_nil))) (pa_cons (pe_tup pa_nil) pa_nil))))))))), ?_⟩
    have hin : i < xs.length := by rw [L.len]; exact hi
    refine ⟨_, rfl, e, _, rfl, SqT.of he, rfl, _, _, rfl, _, _, rfl, rfl, ?_⟩
    refine ⟨_, rfl, _, rfl, x, _, _, _, rfl, rfl, SqT.of hx, at_nV hin, _, rfl, rfl, _, rfl, ?_⟩
    rw [dec_nV]
    by_cases c : at0 xs i = v
    · rw [decide_eq_true c]
      refine iteT ⟨_, rfl, _, rfl, by show 0 ≤ sizeLine; decide, fun p1 h1 => ⟨by show 0 ≤ sizeLine; decide, fun p2 h2 => ⟨by show 4 ≤ sizeLine; decide, fun p3 h3 => ?_⟩⟩⟩
      have s1 := same_upd (o := .tup []) h1
      have s2 := same_upd (o := .tup []) h2
      have s3 := same_upd (o := .tup [nV i, .ref x, .ref p1, .ref p2]) h3
      refine q _ p3 (s1.trans (s2.trans s3)) ?_
      unfold beg
      rw [if_pos c]
      exact ⟨x, p1, p2, upd_same, hx.on (tups_of (s1.trans (s2.trans s3))), s3 _ _ (s2 _ _ upd_same), s3 _ _ upd_same⟩
    · rw [decide_eq_false c]
      refine iteF ?_
      have few : xs.length ≤ 500 := by
        have h1 := L.len
        have h2 := G.n4
        omega
      refine ⟨_, rfl, _, rfl, _, rfl, _, rfl, x, xs, i, v, rfl, hx, hin, few, fun H1 p1 s1 h1 => ?_⟩
      refine ⟨_, rfl, _, rfl, f, F, i, rfl, A.on (tups_of s1), G, fun H2 p2 s2 h2 => ?_⟩
      refine ⟨by show 0 ≤ sizeLine; decide, fun p3 h3 => ⟨by show 4 ≤ sizeLine; decide, fun p4 h4 => ?_⟩⟩
      have s3 := same_upd (o := .tup []) h3
      have s4 := same_upd (o := .tup [nV i, .ref p1, .ref p2, .ref p3]) h4
      refine q _ p4 (s1.trans (s2.trans (s3.trans s4))) ?_
      unfold beg
      rw [if_neg c]
      exact ⟨p1, p2, p3, upd_same, h1.on (tups_of (s2.trans (s3.trans s4))), h2.on (tups_of (s3.trans s4)), s4 _ _ upd_same⟩
end
end K15
namespace K15
open PySem PySem.Spec PyProof.Rows L2
theorem fm_all (f : Nat → V) (xs : List Nat) : ((List.range xs.length).filterMap fun i => some (f (at0 xs i))) = xs.map f := by
  have h := fm_filter (fun _ => true) f xs
  rw [List.filter_eq_self.mpr fun _ _ => rfl] at h
  exact h
/-- ints that are naturals -/
theorem nats_of (S : Nat → Prop) : ∀ ns : List Int, (∀ z ∈ ns, ∃ n : Nat, z = (n : Int) ∧ S n) → ∃ ps : List Nat, ns = ps.map (fun n : Nat => (n : Int)) ∧ ∀ n ∈ ps, S n
  | [], _ => ⟨[], rfl, fun _ h => by cases h⟩
  | z :: ns, h => by
    obtain ⟨n, rfl, hs⟩ := h z List.mem_cons_self
    obtain ⟨ps, rfl, hp⟩ := nats_of S ns fun y hy => h y (List.mem_cons_of_mem _ hy)
    exact ⟨n :: ps, rfl, fun m hm => (List.mem_cons.mp hm).elim (fun e => e ▸ hs) (hp m)⟩
theorem asc_cast {ps : List Nat} (h : (ps.map fun n : Nat => (n : Int)).Pairwise (· < ·)) : ps.Pairwise (· < ·) := (List.pairwise_map.mp h).imp fun h => Int.ofNat_lt.mp h
theorem asc_next {ps : List Nat} (h : ps.Pairwise (· < ·)) {i : Nat} (hi : i + 1 < ps.length) : at0 ps i < at0 ps (i + 1) := by
  have h1 := List.pairwise_iff_getElem.mp h i (i + 1) (by omega) hi (by omega)
  have e1 := at0_of (List.getElem?_eq_getElem (show i < ps.length by omega))
  have e2 := at0_of (List.getElem?_eq_getElem hi)
  rw [e1, e2]
  exact h1
theorem asc_len {ps : List Nat} (h : ps.Pairwise (· < ·)) {m : Nat} (hm : ∀ k ∈ ps, k < m) : ps.length ≤ m :=
  nodup_le (h.imp fun a => Nat.ne_of_lt a) hm
section
variable {P : Program} {w : World} {K : PySem.W.Frag} {mg : Str → Option Value} {base : Heap} {f : Addr} {fd : FuncData}
/-! ### moment_after -/
def spAfter : Sp := fun vs H Q _ => ∃ (f m : Addr) (F : Fm) (i : Nat) (xs ps : List Nat) (k : Nat), vs = [.ref f, .ref m, nV k] ∧ FmAt H f F ∧ MoAt H m i xs ps ∧ Good F ∧ Fil F xs ∧ ps.Pairwise (· < ·) ∧ (∀ j ∈ ps, j < F.m) ∧ k ∈ ps ∧
  ∀ H' p xs' ps', Same H H' → After F xs ps k xs' ps' → MoAt H' p i xs' ps' → Q (.ref p) H'
theorem sc_moment_after : FnScope ["form", "moment", "link", "field", "filling", "pending", "spent", "target", "value", "rest", "more", "one"] ["form", "moment", "link"] (defScope smoment_after) := ⟨rfl, rfl, rfl, by decide +kernel, rfl, by decide +kernel, by decide +kernel⟩
theorem c_moment_after (F : FnP K "moment_after" smoment_after f fd) (g : mg "moment_after" = some (.ref f)) (T : Bl mg) (cW : Cal P w K mg base "wished" 1 ["form", "filling", "link"] spWish) (cOn : Cal P w K mg base "is_once" 1 ["form", "link"] spOnce) (cSh : Cal P w K mg base "is_shy" 1 ["form", "link"] spShy) (cLf : Cal P w K mg base "links_from" 1 ["form", "field"] spFrom) (cWv : Cal P w K mg base "with_value" 1 ["filling", "field", "value"] spWith) : Cal P w K mg base "moment_after" 2 ["form", "moment", "link"] spAfter := by
  refine ⟨f, fd, F.ok sc_moment_after (fun vs H Q E h => ?_) (fun cdv A outer s H vs Q E hr h => ?_), g, F.kp, F.bindsN fun _ _ _ _ _ _ us hl => match us, hl with | [_, _, _], _ => rfl⟩
  · obtain ⟨_, _, _, _, _, _, _, rfl, _⟩ := h
    rfl
  · obtain ⟨f, m, F, i, xs, ps, k, rfl, A, M, G, L, asc, lt, hk, q⟩ := h
    have nd := sc_moment_after.nd
    have hu := hu_of hr
    refine ⟨_, PSs.nox (pss_cons (ps_asg (pv 1) (pg_tup rfl (pgs_cons (pg_name (i := 3) nd rfl (Or.inl rfl)) (pgs_cons (pg_name (i := 4) nd rfl (Or.inl rfl)) (pgs_cons (pg_name (i := 5) nd rfl (Or.inl rfl)) (pgs_cons (pg_name (i := 6) nd rfl (Or.inr rfl)) pgs_nil))))))
      (pss_cons (ps_par (i := 7) (j := 8) rfl nd rfl rfl (by decide) rfl rfl (pa_cons (pe_ix ix_tup (pe_ix ix_tup (pe_ix ix_tup (pv 0) pe_int (fun _ _ => rfl)) (pv 2) (fun _ _ => rfl)) pe_int (fun _ _ => rfl)) (pa_cons (pe_cal cW hr (pa_cons (pv 0) (pa_cons (pv 4) (pa_cons (pv 2) pa_nil)))) pa_nil)) (by rfl))
      (pss_cons (ps_set (i := 9) nd rfl (Or.inl rfl) (pe_callTy call_tupS rfl T.tuple b_tuple (pa_cons (pe_lc (own := [("one", 11)]) (g := gName 11) (tt := (tTest (tOp rNe (tVar 11) (tVar 2)))) (te := (tVar 11)) rfl nd (pi_tup (pv 5)) (blkOk_by (N := ["form", "moment", "link", "field", "filling", "pending", "spent", "target", "value", "rest", "more", "one"]) (sc := defScope smoment_after) (by decide +kernel)) (fun _ _ _ _ _ => (pg_name (i := 11) nd rfl (Or.inl rfl))) (fun _ _ _ _ _ => pts_one (pt_cmpR op_ne (pv 11) (pv 2) (nomark _))) (fun _ _ _ _ _ => (pv 11))) pa_nil)))
      (pss_cons (ps_if (pt_val (pe_cal cOn hr (pa_cons (pv 0) (pa_cons (pv 2) pa_nil)))) (pss_one (ps_set (i := 6) nd rfl (Or.inr rfl) (pe_callTy call_tupS rfl T.tuple b_tuple (pa_cons (pe_callB (cr_sortedSet rfl) rfl T.sorted b_sorted (pa_cons (pe_op op_catA (pv 6) (pe_tup (pa_cons (pv 2) pa_nil))) pa_nil)) pa_nil)))) pss_nil)
      (pss_cons (ps_if (PW.pt (pw_or (pt_cmp (pc_isN (pv 8))) (pw_or (pt_cmpR op_eq (pv 8) (pe_ix ix_tup (pv 4) (pv 7) (fun _ _ => rfl)) (nomark _)) (pw_or1 (PW.pt (pw_and (pt_val (pe_cal cSh hr (pa_cons (pv 0) (pa_cons (pv 2) pa_nil)))) (pw_and1 (pt_cmpR op_eq (pv 7) (pv 3) (nomark _))))))))) (pss_one (ps_ret (pe_tup (pa_cons (pv 3) (pa_cons (pv 4) (pa_cons (pv 9) (pa_cons (pv 6) pa_nil))))))) pss_nil)
      (pss_cons (ps_setLc (i := 10) (own := [("one", 11)]) (g := gName 11) (tt := (tTest (tOp (rIn _ true) (tVar 11) (tVar 6)))) (te := (tVar 11)) rfl nd rfl rfl (sw_true rfl rfl rfl (by decide +kernel)) (pi_tup (pe_cal cLf hr (pa_cons (pv 0) (pa_cons (pv 7) pa_nil)))) (blkOk_by (N := ["form", "moment", "link", "field", "filling", "pending", "spent", "target", "value", "rest", "more", "one"]) (sc := defScope smoment_after) (by decide +kernel)) (fun _ _ _ _ _ => (pg_name (i := 11) nd rfl (Or.inl rfl))) (fun _ _ _ _ _ => pts_one (pt_cmpR op_notIn_seq (pv 11) (pv 6) rfl)) (fun _ _ _ _ _ => (pv 11)))
      (pss_one (ps_ret (pe_tup (pa_cons (pv 3) (pa_cons (pe_cal cWv hr (pa_cons (pv 4) (pa_cons (pv 7) (pa_cons (pv 8) pa_nil)))) (pa_cons (pe_callTy call_tupS rfl T.tuple b_tuple (pa_cons (pe_callB (cr_sortedSet rfl) rfl T.sorted b_sorted (pa_cons (pe_callTy (cr_setL rfl) rfl T.set b_set (pa_cons (pe_lst (StX.pa_star (pv 9) (StX.pa_star (pv 10) pa_nil))) pa_nil)) pa_nil)) pa_nil)) (pa_cons (pv 6) pa_nil))))))))))))), ?_⟩
    obtain ⟨x, pd, sp, hm, hx, hpd, hsp⟩ := M.ex
    have hkm := lt k hk
    have m4 := G.m4
    have lps := asc_len asc lt
    have htn := G.tgt k hkm
    have htx : (lk F k).tgt < xs.length := by rw [L.len]; exact htn
    refine ⟨_, rfl, m, _, rfl, SqT.of hm, rfl, _, _, rfl, _, _, rfl, _, _, rfl, _, _, rfl, rfl, ?_⟩
    refine q_part 1 A hkm rfl rfl (fun t => rfl) ⟨_, rfl, _, rfl, _, rfl, f, x, F, xs, k, rfl, A, hx, G, L, hkm, _, _, rfl, ?_⟩
    -- rest
    refine ⟨_, rfl, pd, rfl, ⟨_, SqT.of hpd⟩, fun D hD => ?_⟩
    refine lcT (fun j => if (!decide (at0 ps j = k)) = true then some (nV (at0 ps j)) else none) (by rw [List.length_map]; omega) (SqT.of hpd) hD (fun j y H1 hy s1 R R0 kR k0 => ?_) fun H1 s1 e1 => ?_
    · obtain ⟨hj, rfl⟩ := nV_get hy
      refine ⟨rfl, _, rfl, _, rfl, rfl, _, rfl, ?_⟩
      rw [dec_nV]
      cases hl : decide (at0 ps j = k) with
      | true => exact iteF (k0 _ (Same.refl _) (by rw [hl]; rfl))
      | false => exact iteT ⟨_, rfl, kR _ _ (Same.refl _) (by rw [hl]; rfl)⟩
    rw [List.length_map, fm_filter (fun n => !decide (n = k)) nV ps] at e1
    refine ⟨D, _, rfl, .inl ⟨SqL.of e1, fun r hr => ?_⟩⟩
    have s2 := s1.trans (same_upd (o := .tup ((ps.filter fun n => !decide (n = k)).map nV)) hr)
    have hr2 : NsAt (upd H1 r (.tup ((ps.filter fun n => !decide (n = k)).map nV))) r (ps.filter fun n => !decide (n = k)) := upd_same
    generalize upd H1 r (.tup ((ps.filter fun n => !decide (n = k)).map nV)) = H2 at s2 hr2 ⊢
    -- is_once
    refine ⟨_, rfl, _, rfl, f, F, k, rfl, A.on (tups_of s2), hkm, fun H3 s3 => ⟨_, rfl, iteF ?_⟩⟩
    have s03 := s2.trans s3
    have quiet : loudL (lk F k) xs = false → ∀ H4, Same H3 H4 → (tTup (tCons (tVar 3) (tCons (tVar 4) (tCons (tVar 9) (tCons (tVar 6) tNil))))) [some (.ref f), some (.ref m), some (nV k), some (nV i), some (.ref x), some (.ref pd), some (.ref sp), some (nV (lk F k).tgt), some (oV (wishOf (lk F k) xs)), some (.ref r), none, none] H4 Q := fun hq H4 s4 => by
      refine ⟨_, rfl, _, rfl, _, rfl, _, rfl, by show 4 ≤ sizeLine; decide, fun u hu => ?_⟩
      have s5 := same_upd (o := .tup [nV i, .ref x, .ref r, .ref sp]) hu
      refine q _ u xs (ps.filter fun n => !decide (n = k)) (s03.trans (s4.trans s5)) ⟨fun _ => ⟨rfl, rfl⟩, fun v _ z => by rw [hq] at z; cases z⟩ ?_
      exact ⟨x, r, sp, upd_same, hx.on (tups_of (s03.trans (s4.trans s5))), hr2.on (tups_of (s3.trans (s4.trans s5))), s5 _ _ (s4 _ _ (s03 _ _ hsp))⟩
    cases hw : wishOf (lk F k) xs with
    | none =>
      have hq : loudL (lk F k) xs = false := by unfold loudL; rw [hw]
      have z := quiet hq H3 (Same.refl _)
      rw [hw] at z
      exact ⟨_, rfl, _, rfl, iteB (decide_eq_true rfl) (iteT z)⟩
    | some v =>
      have vok := wish_val G hkm hw
      refine ⟨_, rfl, _, rfl, iteC (decide_eq_false fun z => by cases z) ?_⟩
      refine ⟨_, rfl, _, rfl, _, rfl, x, _, _, _, rfl, rfl, SqT.of (hx.on (tups_of s03)), at_nV htx, rfl, _, rfl, ?_⟩
      have dv : decide (oV (some v) = nV (at0 xs (lk F k).tgt)) = decide (v = at0 xs (lk F k).tgt) := dec_nV _ _
      rw [dv]
      by_cases c : v = at0 xs (lk F k).tgt
      · rw [decide_eq_true c]
        have z := quiet (loud_not hw c) H3 (Same.refl _)
        rw [hw] at z
        exact iteT (iteT z)
      · rw [decide_eq_false c]
        have hl : loudL (lk F k) xs = true := by
          unfold loudL
          rw [hw]
          show (!decide (v = at0 xs (lk F k).tgt)) = true
          rw [decide_eq_false c]
          rfl
        refine iteF ?_
        refine ⟨_, rfl, _, rfl, f, F, k, rfl, A.on (tups_of s03), hkm, fun H4 s4 => ⟨_, rfl, iteF (iteF ?_)⟩⟩
        have s04 := s03.trans s4
        -- more
        refine ⟨_, rfl, _, rfl, f, F, (lk F k).tgt, rfl, A.on (tups_of s04), G, fun H5 t s5 ht => ⟨t, rfl, ⟨_, SqT.of ht⟩, fun D5 hD5 => ?_⟩⟩
        have s05 := s04.trans s5
        have llf : (lfrom F (lk F k).tgt).length ≤ 4 := by
          have h1 := asc_len (asc_lfrom F (lk F k).tgt) (m := F.m) fun j hj => (mem_lfrom.mp hj).1
          omega
        refine lcT (fun j => some (nV (at0 (lfrom F (lk F k).tgt) j))) (by rw [List.length_map]; omega) (SqT.of ht) hD5 (fun j y H6 hy s6 R R0 kR k0 => ?_) fun H6 s6 e6 => ?_
        · obtain ⟨hj, rfl⟩ := nV_get hy
          refine ⟨rfl, _, rfl, _, rfl, sp, [], rfl, .inr (SqT.of (s6 _ _ (s05 _ _ hsp))), rfl, rfl, _, rfl, ?_⟩
          exact iteT ⟨_, rfl, kR _ _ (Same.refl _) rfl⟩
        rw [List.length_map, fm_all] at e6
        have s06 := s05.trans s6
        -- the new moment
        refine ⟨_, rfl, _, rfl, _, rfl, _, rfl, x, xs, (lk F k).tgt, v, rfl, hx.on (tups_of s06), htx, (by have h1 := L.len; have h2 := G.n4; omega), fun H7 y s7 hy => ?_⟩
        have e7 := s7 _ _ e6
        refine ⟨_, rfl, r, _, rfl, .inl (SqT.of (hr2.on (tups_of (s3.trans (s4.trans (s5.trans (s6.trans s7))))))), _, rfl, D5, _, rfl, .inr (SqL.of e7), ?_, fun l hl8 => ?_⟩
        · rw [List.append_nil, List.length_append, List.length_map, List.length_map]
          refine line_small ?_
          have h1 := List.length_filter_le (fun n => !decide (n = k)) ps
          omega
        have s8 := same_upd (o := .lst ((ps.filter fun n => !decide (n = k)).map nV ++ ((lfrom F (lk F k).tgt).map nV ++ []))) hl8
        refine ⟨l, ((ps.filter fun n => !decide (n = k)) ++ lfrom F (lk F k).tgt).map fun n : Nat => (n : Int), rfl, SqL.of ?_, ?_, fun a c ha hc => ?_⟩
        · rw [upd_same, List.append_nil, ← map_nV, List.map_append]
        · rw [List.length_map, List.length_append]
          have h1 := List.length_filter_le (fun n => !decide (n = k)) ps
          omega
        have few : c < 64 := by
          rw [List.length_map, List.length_append] at hc
          have h1 := List.length_filter_le (fun n => !decide (n = k)) ps
          omega
        refine ⟨a, _, c, rfl, upd_same, few, fun ns b nasc nmem nlen hb => ?_⟩
        refine ⟨b, _, rfl, .inl ⟨SqL.of upd_same, fun d hd => ?_⟩⟩
        have s9 := same_upd (o := SetO w a (fun j => decide (j ∈ ((ps.filter fun n => !decide (n = k)) ++ lfrom F (lk F k).tgt).map fun n : Nat => (n : Int))) c) ha
        have s10 := same_upd (o := .lst (ns.map V.int)) hb
        have s11 := same_upd (o := .tup (ns.map V.int)) hd
        have s711 := s8.trans (s9.trans (s10.trans s11))
        obtain ⟨ps', rfl, hmem⟩ := nats_of (fun n => n ∈ (ps.filter fun n => !decide (n = k)) ++ lfrom F (lk F k).tgt) ns fun z hz => by
          obtain ⟨n, h1, h2⟩ := List.mem_map.mp (of_decide_eq_true ((nmem z).mp hz))
          exact ⟨n, h2.symm, h1⟩
        refine ⟨_, rfl, by show 4 ≤ sizeLine; decide, fun u hu => ?_⟩
        have s12 := same_upd (o := .tup [nV i, .ref y, .ref d, .ref sp]) hu
        have s012 := s06.trans (s7.trans (s711.trans s12))
        refine q _ u (xs.set (lk F k).tgt v) ps' s012 ⟨fun z => by (rw [hl] at z; cases z), fun v' hv' _ => ?_⟩ ?_
        · rw [hw] at hv'
          cases hv'
          refine ⟨rfl, asc_cast nasc, fun j => ⟨fun hj => ?_, fun hj => ?_⟩⟩
          · rcases List.mem_append.mp (hmem j hj) with h | h
            · obtain ⟨h1, h2⟩ := List.mem_filter.mp h
              refine .inl ⟨h1, fun z => ?_⟩
              rw [decide_eq_true z] at h2
              cases h2
            · exact .inr h
          · have h1 : j ∈ (ps.filter fun n => !decide (n = k)) ++ lfrom F (lk F k).tgt := by
              rcases hj with h | h
              · exact List.mem_append_left _ (List.mem_filter.mpr ⟨h.1, by rw [decide_eq_false h.2]; rfl⟩)
              · exact List.mem_append_right _ h
            have h2 := (nmem (j : Int)).mpr (decide_eq_true (List.mem_map.mpr ⟨j, h1, rfl⟩))
            obtain ⟨n, h3, h4⟩ := List.mem_map.mp h2
            exact Int.ofNat.inj h4 ▸ h3
        · refine ⟨y, d, sp, upd_same, hy.on (tups_of (s711.trans s12)), s12 _ _ ?_, s012 _ _ hsp⟩
          rw [upd_same, map_nV]
end
end K15
namespace K15
open PySem PySem.Spec PyProof.Rows L2
section
variable {P : Program} {w : World} {K : PySem.W.Frag} {mg : Str → Option Value} {base : Heap} {f : Addr} {fd : FuncData}
/-! ### are_links, is_moment -/
def spAre : Sp := fun vs H Q _ => ∃ (f p : Addr) (F : Fm) (ps : List Nat), vs = [.ref f, .ref p] ∧ FmAt H f F ∧ NsAt H p ps ∧ Good F ∧ ps.Pairwise (· < ·) ∧ (∀ k ∈ ps, k < F.m) ∧ ∀ H', Same H H' → Q (.bl true) H'
theorem sc_are_links : FnScope ["form", "value", "one", "other", "link"] ["form", "value"] (defScope sare_links) := ⟨rfl, rfl, rfl, by decide +kernel, rfl, by decide +kernel, by decide +kernel⟩
theorem c_are_links (F : FnP K "are_links" sare_links f fd) (g : mg "are_links" = some (.ref f)) (T : Bl mg) (cI : Cal P w K mg base "is_integer" 1 ["value", "low", "high"] spInt) : Cal P w K mg base "are_links" 2 ["form", "value"] spAre := by
  refine ⟨f, fd, F.ok sc_are_links (fun vs H Q E h => ?_) (fun cdv A outer s H vs Q E hr h => ?_), g, F.kp, F.bindsN fun _ _ _ _ _ _ us hl => match us, hl with | [_, _], _ => rfl⟩
  · obtain ⟨_, _, _, _, rfl, _⟩ := h
    rfl
  · obtain ⟨f, p, F, ps, rfl, A, hp, G, asc, lt, q⟩ := h
    have nd := sc_are_links.nd
    have hu := hu_of hr
    refine ⟨_, PSs.nox (pss_cons (ps_if (PW.pt (pw_or (pt_not (pt_val (pe_callB call_isi rfl T.isi b_isi (pa_cons (pv 1) (pa_cons (pe_bltn (v := .ty "tuple") rfl T.tuple b_tuple rfl) pa_nil))))) (pw_or1 (pt_not (pt_val (pe_callB (cr_all rfl) rfl T.all b_all (pa_cons (pe_lc (own := [("link", 4)]) (g := gName 4) (tt := tYes) (te := (tCall spInt [] E0 (tCons (tVar 4) (tCons (tC (.int 0)) (tCons (tOp (rI0 fun i j => .int (i - j)) (tCB (rLenS _) (tCons (tOp (rIxT _) (tVar 0) (tC (.int 1))) tNil)) (tC (.int 1))) tNil))))) rfl nd (pi_tup (pv 1)) (blkOk_by (N := ["form", "value", "one", "other", "link"]) (sc := defScope sare_links) (by decide +kernel)) (fun _ _ _ _ _ => (pg_name (i := 4) nd rfl (Or.inl rfl))) (fun _ _ _ _ _ => pts_nil) (fun _ _ _ _ _ => (pe_cal cI hr (pa_cons (pv 4) (pa_cons pe_int (pa_cons (pe_op op_sub (pe_callB call_lenS rfl T.len b_len (pa_cons (pe_ix ix_tup (pv 0) pe_int (fun _ _ => rfl)) pa_nil)) pe_int) pa_nil)))))) pa_nil))))))) (pss_one (ps_ret pe_bl)) pss_nil)
      (pss_one (ps_ret (pe_callB (cr_all rfl) rfl T.all b_all (pa_cons (pe_lc (own := [("one", 2), ("other", 3)]) (g := gTup _ 2 (gCons (gName 2) (gCons (gName 3) gNil))) (tt := tYes) (te := (tOp (rI0 fun i j => .bl (decide (i < j))) (tVar 2) (tVar 3))) rfl nd (RZ.pi_zipA rfl T.zip (pa_cons (pv 1) (pa_cons (pe_slice sl_tupA (pv 1) (po_some pe_int) po_none) pa_nil))) (blkOk_by (N := ["form", "value", "one", "other", "link"]) (sc := defScope sare_links) (by decide +kernel)) (fun _ _ _ _ _ => (pg_tup rfl (pgs_cons (pg_name (i := 2) nd rfl (Or.inl rfl)) (pgs_cons (pg_name (i := 3) nd rfl (Or.inl rfl)) pgs_nil)))) (fun _ _ _ _ _ => pts_nil) (fun _ _ _ _ _ => (pe_cmpR op_lt (pv 2) (pv 3) (nomark _)))) pa_nil))))), ?_⟩
    have m4 := G.m4
    have lps := asc_len asc lt
    refine q_isi_tup hp rfl ⟨true, rfl, iteF ?_⟩
    refine ⟨_, rfl, p, rfl, ⟨_, SqT.of hp⟩, fun D hD => ?_⟩
    let c1 : Nat → Bool := fun i => decide ((0 : Int) ≤ (at0 ps i : Int)) && decide ((at0 ps i : Int) ≤ (F.m : Int) - 1)
    refine lcT (fun i => some (.bl (c1 i))) (by rw [List.length_map]; omega) (SqT.of hp) hD (fun i y H1 hy s1 R R0 kR k0 => ?_) fun H1 s1 e1 => ?_
    · obtain ⟨hi, rfl⟩ := nV_get hy
      refine ⟨rfl, qY ⟨_, rfl, ?_⟩⟩
      refine q_links (A.on (tups_of s1)) rfl fun l las hl hn => ⟨l, las, rfl, .inr (SqT.of hl), _, _, rfl, rfl, _, _, _, rfl, kR _ _ (Same.refl _) ?_⟩
      rw [hn]
    refine q_all1 c1 e1 ?_
    rw [all_true fun i hi => ?_]
    · refine ⟨_, rfl, iteF ?_⟩
      have hp1 := hp.on (tups_of s1)
      refine ⟨_, rfl, q_rest hp1 rfl fun b H2 s2 hb => ?_⟩
      have hp2 := hp1.on (tups_of s2)
      refine ⟨p, b, _, _, rfl, .inr ⟨SqT.of hp2, SqT.of hb, fun D2 hD2 => ?_⟩⟩
      let c2 : Nat → Bool := fun i => decide ((at0 ps i : Int) < (at0 (ps.drop 1) i : Int))
      refine lcZ (fun i => some (.bl (c2 i))) (by rw [List.length_map]; omega) hp2 hb hD2 (fun i x y t H3 hx hy s3 ht R R0 kR k0 => ?_) fun H3 s3 e3 => ?_
      · obtain ⟨hi, rfl⟩ := nV_get hx
        obtain ⟨hj, rfl⟩ := nV_get hy
        refine ⟨t, _, rfl, SqT.of upd_same, rfl, _, _, rfl, _, _, rfl, rfl, rfl, qY ?_⟩
        exact ⟨_, rfl, _, rfl, _, _, rfl, rfl, kR _ _ (same_upd ht) rfl⟩
      · refine q_all c2 e3 ?_
        rw [all_true fun i hi => ?_]
        · exact q _ (s1.trans (s2.trans s3))
        · rw [List.length_map, List.length_map, List.length_drop] at hi
          have h1 := asc_next asc (i := i) (by omega)
          have h2 : at0 (ps.drop 1) i = at0 ps (i + 1) := at0_of (by rw [List.getElem?_drop, Nat.add_comm]; exact at0_get (by omega))
          show decide _ = true
          rw [h2]
          exact decide_eq_true (by omega)
    · rw [List.length_map] at hi
      have h1 := lt _ (List.mem_of_getElem? (at0_get hi))
      exact rng_ok (by omega) (by omega)
def spIsMo : Sp := fun vs H Q _ => ∃ (f m : Addr) (F : Fm) (i : Nat) (xs ps : List Nat), vs = [.ref f, .ref m] ∧ FmAt H f F ∧ MoAt H m i xs ps ∧ Good F ∧ i < F.n ∧ Fil F xs ∧ ps.Pairwise (· < ·) ∧ (∀ k ∈ ps, k < F.m) ∧ ∀ H', Same H H' → Q (.bl true) H'
theorem sc_is_moment : FnScope ["form", "value", "field", "filling", "pending", "spent", "link"] ["form", "value"] (defScope sis_moment) := ⟨rfl, rfl, rfl, by decide +kernel, rfl, by decide +kernel, by decide +kernel⟩
theorem c_is_moment (F : FnP K "is_moment" sis_moment f fd) (g : mg "is_moment" = some (.ref f)) (T : Bl mg) (cI : Cal P w K mg base "is_integer" 1 ["value", "low", "high"] spInt) (cF : Cal P w K mg base "is_filling" 2 ["form", "value"] spFil) (cAr : Cal P w K mg base "are_links" 2 ["form", "value"] spAre) (cOn : Cal P w K mg base "is_once" 1 ["form", "link"] spOnce) : Cal P w K mg base "is_moment" 3 ["form", "value"] spIsMo := by
  refine ⟨f, fd, F.ok sc_is_moment (fun vs H Q E h => ?_) (fun cdv A outer s H vs Q E hr h => ?_), g, F.kp, F.bindsN fun _ _ _ _ _ _ us hl => match us, hl with | [_, _], _ => rfl⟩
  · obtain ⟨_, _, _, _, _, _, rfl, _⟩ := h
    rfl
  · obtain ⟨f, m, F, i, xs, ps, rfl, A, M, G, hi, L, asc, lt, q⟩ := h
    have nd := sc_is_moment.nd
    have hu := hu_of hr
    refine ⟨_, PSs.nox (pss_cons (ps_if (PW.pt (pw_or (pt_not (pt_val (pe_callB call_isi rfl T.isi b_isi (pa_cons (pv 1) (pa_cons (pe_bltn (v := .ty "tuple") rfl T.tuple b_tuple rfl) pa_nil))))) (pw_or (pt_cmpR op_ne (pe_callB call_lenS rfl T.len b_len (pa_cons (pv 1) pa_nil)) pe_int (nomark _)) (pw_or1 (pt_not (pt_val (pe_cal cI hr (pa_cons (pe_ix ix_tup (pv 1) pe_int (fun _ _ => rfl)) (pa_cons pe_int (pa_cons (pe_op op_sub (pe_callB call_lenS rfl T.len b_len (pa_cons (pe_ix ix_tup (pv 0) pe_int (fun _ _ => rfl)) pa_nil)) pe_int) pa_nil)))))))))) (pss_one (ps_ret pe_bl)) pss_nil)
      (pss_cons (ps_asg (pv 1) (pg_tup rfl (pgs_cons (pg_name (i := 2) nd rfl (Or.inl rfl)) (pgs_cons (pg_name (i := 3) nd rfl (Or.inl rfl)) (pgs_cons (pg_name (i := 4) nd rfl (Or.inr rfl)) (pgs_cons (pg_name (i := 5) nd rfl (Or.inl rfl)) pgs_nil))))))
      (pss_cons (ps_if (PW.pt (pw_or (pt_not (pt_val (pe_cal cF hr (pa_cons (pv 0) (pa_cons (pv 3) pa_nil))))) (pw_or (pt_not (pt_val (pe_cal cAr hr (pa_cons (pv 0) (pa_cons (pv 4) pa_nil))))) (pw_or1 (pt_not (pt_val (pe_cal cAr hr (pa_cons (pv 0) (pa_cons (pv 5) pa_nil))))))))) (pss_one (ps_ret pe_bl)) pss_nil)
      (pss_one (ps_ret (pe_callB (cr_all rfl) rfl T.all b_all (pa_cons (pe_lc (own := [("link", 6)]) (g := gName 6) (tt := tYes) (te := (tAndV (tCall spOnce [] E0 (tCons (tVar 0) (tCons (tVar 6) tNil))) (tOp (rIn _ true) (tVar 6) (tVar 4)))) rfl nd (pi_tup (pv 5)) (blkOk_by (N := ["form", "value", "field", "filling", "pending", "spent", "link"]) (sc := defScope sis_moment) (by decide +kernel)) (fun _ _ _ _ _ => (pg_name (i := 6) nd rfl (Or.inl rfl))) (fun _ _ _ _ _ => pts_nil) (fun _ _ _ _ _ => (pe_and (pe_cal cOn hr (pa_cons (pv 0) (pa_cons (pv 6) pa_nil))) (pe_one (pe_cmpR op_notIn_seq (pv 6) (pv 4) rfl))))) pa_nil))))))), ?_⟩
    obtain ⟨x, pd, sp, hm, hx, hpd, hsp⟩ := M.ex
    refine q_isi_tup hm rfl ⟨true, rfl, iteF ?_⟩
    refine ⟨_, rfl, m, _, rfl, .inr (SqT.of hm), rfl, _, rfl, iteNS rfl ?_⟩
    refine ⟨_, rfl, m, _, 0, nV i, rfl, rfl, SqT.of hm, rfl, q_sizes A rfl fun s hs => ⟨s, _, rfl, .inr (SqT.of hs), _, _, rfl, rfl, _, _, _, rfl, _, rfl, ?_⟩⟩
    refine iteN (rng_ok (by omega) (by rw [List.length_map]; have h : i < F.sizes.length := hi; omega)) ?_
    refine ⟨_, rfl, m, _, rfl, SqT.of hm, rfl, _, _, rfl, _, _, rfl, _, _, rfl, _, _, rfl, rfl, ?_⟩
    refine ⟨_, rfl, _, rfl, f, x, F, xs, rfl, A, hx, G, L, fun H1 s1 => ⟨true, rfl, iteF ?_⟩⟩
    refine ⟨_, rfl, _, rfl, f, pd, F, ps, rfl, A.on (tups_of s1), hpd.on (tups_of s1), G, asc, lt, fun H2 s2 => ⟨true, rfl, iteF ?_⟩⟩
    have s02 := s1.trans s2
    refine ⟨_, rfl, _, rfl, f, sp, F, [], rfl, A.on (tups_of s02), s02 _ _ hsp, G, List.Pairwise.nil, fun _ h => (by cases h), fun H3 s3 => ⟨true, rfl, iteF ?_⟩⟩
    have s03 := s02.trans s3
    have hs3 : H3 sp = some (.tup []) := s03 _ _ hsp
    refine ⟨_, rfl, sp, rfl, ⟨_, SqT.of hs3⟩, fun D hD => ?_⟩
    refine lcT (xs := []) (fun i => some (.bl true)) (by show 0 ≤ 1000; omega) (SqT.of hs3) hD (fun i y H1 hy s1 R R0 kR k0 => by cases hy) fun H4 s4 e4 => ?_
    exact q_all (n := 0) (fun _ => true) e4 (q _ (s03.trans s4))
/-! ### require_beginning, begin -/
def spReqB : Sp := fun vs H Q _ => ∃ (f x e : Addr) (F : Fm) (xs : List Nat) (i v : Nat), vs = [.ref f, .ref x, .ref e] ∧ FmAt H f F ∧ NsAt H x xs ∧ H e = some (.tup [nV i, nV v]) ∧ Good F ∧ Fil F xs ∧ i < F.n ∧ v < at0 F.sizes i ∧ ∀ H', Same H H' → Q .non H'
theorem sc_require_beginning : FnScope ["form", "filling", "edit"] ["form", "filling", "edit"] (defScope srequire_beginning) := ⟨rfl, rfl, rfl, by decide +kernel, rfl, by decide +kernel, by decide +kernel⟩
theorem c_require_beginning (F : FnP K "require_beginning" srequire_beginning f fd) (g : mg "require_beginning" = some (.ref f)) (cR : Cal P w K mg base "require_filling" 3 ["form", "filling"] spReq) (cE : Cal P w K mg base "is_edit" 2 ["form", "value"] spEdit) : Cal P w K mg base "require_beginning" 4 ["form", "filling", "edit"] spReqB := by
  refine ⟨f, fd, F.ok sc_require_beginning (fun vs H Q E h => ?_) (fun cdv A outer s H vs Q E hr h => ?_), g, F.kp, F.bindsN fun _ _ _ _ _ _ us hl => match us, hl with | [_, _, _], _ => rfl⟩
  · obtain ⟨_, _, _, _, _, _, _, rfl, _⟩ := h
    rfl
  · obtain ⟨f, x, e, F, xs, i, v, rfl, A, hx, he, G, L, hi, hv, q⟩ := h
    have nd := sc_require_beginning.nd
    have hu := hu_of hr
    refine ⟨_, PSs.nox (pss_cons (ps_expr (pe_cal cR hr (pa_cons (pv 0) (pa_cons (pv 1) pa_nil))))
      (pss_one (ps_if (pt_not (pt_val (pe_cal cE hr (pa_cons (pv 0) (pa_cons (pv 2) pa_nil))))) pss_never pss_nil))), ?_⟩
    refine ⟨_, rfl, _, rfl, f, x, F, xs, rfl, A, hx, G, L, fun H1 s1 => ?_⟩
    exact ⟨_, rfl, _, rfl, f, e, F, i, v, rfl, A.on (tups_of s1), s1 _ _ he, hi, hv, true, rfl, iteF (q _ s1)⟩
def spBegin : Sp := spFirst
theorem sc_begin : FnScope ["form", "filling", "edit"] ["form", "filling", "edit"] (defScope sbegin) := ⟨rfl, rfl, rfl, by decide +kernel, rfl, by decide +kernel, by decide +kernel⟩
theorem c_begin (F : FnP K "begin" sbegin f fd) (g : mg "begin" = some (.ref f)) (cRb : Cal P w K mg base "require_beginning" 4 ["form", "filling", "edit"] spReqB) (cFm : Cal P w K mg base "first_moment" 2 ["form", "filling", "edit"] spFirst) : Cal P w K mg base "begin" 5 ["form", "filling", "edit"] spBegin := by
  refine ⟨f, fd, F.ok sc_begin (fun vs H Q E h => ?_) (fun cdv A outer s H vs Q E hr h => ?_), g, F.kp, F.bindsN fun _ _ _ _ _ _ us hl => match us, hl with | [_, _, _], _ => rfl⟩
  · obtain ⟨_, _, _, _, _, _, _, rfl, _⟩ := h
    rfl
  · obtain ⟨f, x, e, F, xs, i, v, rfl, A, hx, he, G, L, hi, hv, q⟩ := h
    have nd := sc_begin.nd
    have hu := hu_of hr
    refine ⟨_, PSs.nox (pss_cons (ps_expr (pe_cal cRb hr (pa_cons (pv 0) (pa_cons (pv 1) (pa_cons (pv 2) pa_nil)))))
      (pss_one (ps_ret (pe_cal cFm hr (pa_cons (pv 0) (pa_cons (pv 1) (pa_cons (pv 2) pa_nil))))))), ?_⟩
    refine ⟨_, rfl, _, rfl, _, rfl, f, x, e, F, xs, i, v, rfl, A, hx, he, G, L, hi, hv, fun H1 s1 => ?_⟩
    have t1 := tups_of s1
    exact ⟨_, rfl, _, rfl, _, rfl, f, x, e, F, xs, i, v, rfl, A.on t1, hx.on t1, s1 _ _ he, G, L, hi, hv, fun H2 p s2 hm => q _ p (s1.trans s2) hm⟩
/-! ### is_pending, fire -/
def spPend : Sp := fun vs H Q _ => ∃ (m : Addr) (i : Nat) (xs ps : List Nat) (k : Nat), vs = [.ref m, nV k] ∧ MoAt H m i xs ps ∧ k ∈ ps ∧ Q (.bl true) H
theorem sc_is_pending : FnScope ["moment", "link"] ["moment", "link"] (defScope sis_pending) := ⟨rfl, rfl, rfl, by decide +kernel, rfl, by decide +kernel, by decide +kernel⟩
theorem c_is_pending (F : FnP K "is_pending" sis_pending f fd) (g : mg "is_pending" = some (.ref f)) (T : Bl mg) : Cal P w K mg base "is_pending" 1 ["moment", "link"] spPend := by
  refine ⟨f, fd, F.ok sc_is_pending (fun vs H Q E h => ?_) (fun cdv A outer s H vs Q E hr h => ?_), g, F.kp, F.bindsN fun _ _ _ _ _ _ us hl => match us, hl with | [_, _], _ => rfl⟩
  · obtain ⟨_, _, _, _, _, rfl, _⟩ := h
    rfl
  · obtain ⟨m, i, xs, ps, k, rfl, M, hk, q⟩ := h
    have nd := sc_is_pending.nd
    have hu := hu_of hr
    refine ⟨_, PSs.nox (pss_one (ps_ret (pe_and (pe_callB call_isi rfl T.isi b_isi (pa_cons (pv 1) (pa_cons (pe_bltn (v := .ty "int") rfl T.int b_int rfl) pa_nil))) (pe_and (pe_not (pe_callB call_isi rfl T.isi b_isi (pa_cons (pv 1) (pa_cons (pe_bltn (v := .ty "bool") rfl T.bool b_bool rfl) pa_nil)))) (pe_one (pe_cmpR op_in_seq (pv 1) (pe_ix ix_tup (pv 0) pe_int (fun _ _ => rfl)) rfl)))))), ?_⟩
    obtain ⟨x, pd, sp, hm, hx, hpd, hsp⟩ := M.ex
    refine q_isi_int rfl ⟨true, rfl, iteT ?_⟩
    refine q_isi_bool rfl ⟨_, rfl, true, rfl, iteT ?_⟩
    refine ⟨_, rfl, _, rfl, m, _, 2, .ref pd, rfl, rfl, SqT.of hm, rfl, pd, _, rfl, .inr (SqT.of hpd), rfl, flat_nV ps, ?_⟩
    show Q (.bl (inV (nV k) (ps.map nV))) H
    rw [in_nV, decide_eq_true hk]
    exact q
def spFire : Sp := fun vs H Q _ => ∃ (f m : Addr) (F : Fm) (i : Nat) (xs ps : List Nat) (k : Nat), vs = [.ref f, .ref m, nV k] ∧ FmAt H f F ∧ MoAt H m i xs ps ∧ Good F ∧ i < F.n ∧ Fil F xs ∧ ps.Pairwise (· < ·) ∧ (∀ j ∈ ps, j < F.m) ∧ k ∈ ps ∧
  ∀ H' p xs' ps', Same H H' → After F xs ps k xs' ps' → MoAt H' p i xs' ps' → Q (.ref p) H'
theorem sc_fire : FnScope ["form", "value", "link"] ["form", "value", "link"] (defScope sfire) := ⟨rfl, rfl, rfl, by decide +kernel, rfl, by decide +kernel, by decide +kernel⟩
theorem c_fire (F : FnP K "fire" sfire f fd) (g : mg "fire" = some (.ref f)) (cIm : Cal P w K mg base "is_moment" 3 ["form", "value"] spIsMo) (cIp : Cal P w K mg base "is_pending" 1 ["moment", "link"] spPend) (cMa : Cal P w K mg base "moment_after" 2 ["form", "moment", "link"] spAfter) : Cal P w K mg base "fire" 4 ["form", "value", "link"] spFire := by
  refine ⟨f, fd, F.ok sc_fire (fun vs H Q E h => ?_) (fun cdv A outer s H vs Q E hr h => ?_), g, F.kp, F.bindsN fun _ _ _ _ _ _ us hl => match us, hl with | [_, _, _], _ => rfl⟩
  · obtain ⟨_, _, _, _, _, _, _, rfl, _⟩ := h
    rfl
  · obtain ⟨f, m, F, i, xs, ps, k, rfl, A, M, G, hi, L, asc, lt, hk, q⟩ := h
    have nd := sc_fire.nd
    have hu := hu_of hr
    refine ⟨_, PSs.nox (pss_cons (ps_if (pt_not (pt_val (pe_cal cIm hr (pa_cons (pv 0) (pa_cons (pv 1) pa_nil))))) pss_never pss_nil)
      (pss_cons (ps_if (pt_not (pt_val (pe_cal cIp hr (pa_cons (pv 1) (pa_cons (pv 2) pa_nil))))) pss_never pss_nil)
      (pss_one (ps_ret (pe_cal cMa hr (pa_cons (pv 0) (pa_cons (pv 1) (pa_cons (pv 2) pa_nil)))))))), ?_⟩
    refine ⟨_, rfl, _, rfl, f, m, F, i, xs, ps, rfl, A, M, G, hi, L, asc, lt, fun H1 s1 => ⟨true, rfl, iteF ?_⟩⟩
    have t1 := tups_of s1
    refine ⟨_, rfl, _, rfl, m, i, xs, ps, k, rfl, M.on t1, hk, true, rfl, iteF ?_⟩
    exact ⟨_, rfl, _, rfl, _, rfl, f, m, F, i, xs, ps, k, rfl, A.on t1, M.on t1, G, L, asc, lt, hk, fun H2 p xs' ps' s2 a hm => q _ p xs' ps' (s1.trans s2) a hm⟩
end
end K15
namespace K15
open PySem PySem.Spec PyProof.Rows L2
/-! ### the box: a dict with two lists of ints and a count -/
def kG : Key := Sum.inr "great"
def kS : Key := Sum.inr "small"
def kT : Key := Sum.inr "turn"
theorem gs : ¬ kG = kS := by decide +kernel
theorem gt : ¬ kG = kT := by decide +kernel
theorem sg : ¬ kS = kG := by decide +kernel
theorem st : ¬ kS = kT := by decide +kernel
theorem tg : ¬ kT = kG := by decide +kernel
theorem ts : ¬ kT = kS := by decide +kernel
def boxK (g q : Addr) (n : Int) : List (Key × V) := [(kG, .ref g), (kS, .ref q), (kT, .int n)]
theorem val_g (g q : Addr) (n : Int) : valV (boxK g q n) kG = some (.ref g) := valV_pos rfl
theorem val_s (g q : Addr) (n : Int) : valV (boxK g q n) kS = some (.ref q) := (valV_neg gs).trans (valV_pos rfl)
theorem val_t (g q : Addr) (n : Int) : valV (boxK g q n) kT = some (.int n) := (valV_neg gt).trans ((valV_neg st).trans (valV_pos rfl))
theorem put_t (g q : Addr) (n m : Int) : putK (boxK g q n) kT (.int m) = boxK g q m := by
  unfold putK boxK
  rw [if_pos (by simp)]
  simp [gt, st]
theorem merge_box (g q : Addr) (n : Int) : mergeK [] (boxK g q n) = boxK g q n := by
  unfold mergeK boxK
  simp [putK, gs, gt, sg, st, tg, ts]
theorem get_box {H : Hp} {b g q : Addr} {n : Int} {k : Key} {v : V} (h : H b = some (.dK (boxK g q n))) (e : valV (boxK g q n) k = some v) : DGet H b (kV k) (some v) := by
  have z := DGet.k (k := k) h
  rw [e] at z
  exact z
/-- the box at b, its great list at g, its small one at q -/
structure Box (H : Hp) (b g q : Addr) : Prop where
  ex : ∃ (n : Int) (gr sm : List Int), H b = some (.dK (boxK g q n)) ∧ H g = some (.lst (gr.map V.int)) ∧ H q = some (.lst (sm.map V.int)) ∧ sm ≠ [] ∧ sm.length ≤ 1000 ∧ q ≠ g
/-- all but the box stands -/
def Keep (b g : Addr) (H H' : Hp) : Prop := ∀ c o, H c = some o → c ≠ b → c ≠ g → H' c = some o
theorem Keep.refl (b g : Addr) (H : Hp) : Keep b g H H := fun _ _ h _ _ => h
theorem Keep.trans {b g : Addr} {H H1 H2 : Hp} (a : Keep b g H H1) (c : Keep b g H1 H2) : Keep b g H H2 := fun x o h h1 h2 => c x o (a x o h h1 h2) h1 h2
theorem keep_of {b g : Addr} {H H' : Hp} (s : Same H H') : Keep b g H H' := fun c o h _ _ => s c o h
theorem Box.on {H H' : Hp} {b g q : Addr} (s : Same H H') (B : Box H b g q) : Box H' b g q := by
  obtain ⟨n, gr, sm, h1, h2, h3, h4⟩ := B.ex
  exact ⟨n, gr, sm, s _ _ h1, s _ _ h2, s _ _ h3, h4⟩
theorem Box.tup {H : Hp} {b g q a : Addr} {xs : List V} (B : Box H b g q) (h : H a = some (.tup xs)) : a ≠ b ∧ a ≠ g ∧ a ≠ q := by
  obtain ⟨n, gr, sm, h1, h2, h3, h4⟩ := B.ex
  exact ⟨ne_of h h1 (by intro z; cases z), ne_of h h2 (by intro z; cases z), ne_of h h3 (by intro z; cases z)⟩
theorem Box.lst {H : Hp} {b g q a : Addr} {xs : List V} (B : Box H b g q) (h : H a = some (.lst xs)) : a ≠ b := by
  obtain ⟨n, gr, sm, h1, h2, h3, h4⟩ := B.ex
  exact ne_of h h1 (by intro z; cases z)
theorem Box.new {H : Hp} {b g q a : Addr} (B : Box H b g q) (h : H a = none) : a ≠ b ∧ a ≠ g ∧ a ≠ q := by
  obtain ⟨n, gr, sm, h1, h2, h3, h4⟩ := B.ex
  exact ⟨(ne_of_none h1 h).symm, (ne_of_none h2 h).symm, (ne_of_none h3 h).symm⟩
/-- another object is written -/
theorem Box.put {H : Hp} {b g q a : Addr} {o : HO} (B : Box H b g q) (n1 : a ≠ b ∧ a ≠ g ∧ a ≠ q) : Box (upd H a o) b g q := by
  obtain ⟨n, gr, sm, h1, h2, h3, h4⟩ := B.ex
  exact ⟨n, gr, sm, by rw [upd_ne n1.1.symm]; exact h1, by rw [upd_ne n1.2.1.symm]; exact h2, by rw [upd_ne n1.2.2.symm]; exact h3, h4⟩
theorem Keep.tups {H H' : Hp} {b g q : Addr} (B : Box H b g q) (k : Keep b g H H') : Tups H H' := fun a xs h => k a _ h (B.tup h).1 (B.tup h).2.1
/-- what was free at the start may be written -/
theorem Keep.put {b g a : Addr} {H0 H : Hp} {o : HO} (k : Keep b g H0 H) (h : H0 a = none) : Keep b g H0 (upd H a o) := fun c u e h1 h2 => by
  rw [upd_ne (ne_of_none e h)]
  exact k c u e h1 h2
/-- a list that a comprehension made of ints -/
theorem ints_of_fm {C : Nat → Option V} (h : ∀ i o, C i = some o → ∃ z, o = V.int z) : ∀ n, ∃ ms : List Int, (List.range n).filterMap C = ms.map V.int ∧ ms.length ≤ n
  | 0 => ⟨[], rfl, Nat.le_refl _⟩
  | n + 1 => by
    obtain ⟨ms, e, l⟩ := ints_of_fm h n
    rw [fm_succ, e]
    cases c : C n with
    | none => exact ⟨ms, by rw [List.append_nil], by omega⟩
    | some o =>
      obtain ⟨z, rfl⟩ := h n o c
      exact ⟨ms ++ [z], by rw [List.map_append]; rfl, by rw [List.length_append]; show ms.length + 1 ≤ n + 1; omega⟩
theorem lcL {g : TG} {tt : TT} {te : TE} {vs : List Nat} {σ : L2.St} {H1 : Hp} {D : Addr} {Qd : Hp → Prop} {K : PySem.W.Frag} {a : Addr} {xs : List V} (C : Nat → Option V) (hn : xs.length ≤ 1000) (ha : SqL K H1 a xs) (hD : H1 D = none) (hs : ∀ i x H, xs[i]? = some x → Same H1 H → Turned g tt te vs σ x (C i) H H)
    (hd : ∀ H, Same H1 H → H D = some (.lst ((List.range xs.length).filterMap C)) → Qd H) :
    ∃ W : Nat → Nat → Hp → Prop, (∃ m, W 0 m (upd H1 D (.lst []))) ∧ ∀ i m H, W i m H →
      ((Itl K a).stop i H ∧ Qd H) ∨ ((Itl K a).go i H ∧ ∃ Nx : Hp → Prop, (∀ H', Nx H' → ∃ m', m' < m ∧ W (i + 1) m' H') ∧ ∀ x H', (Itl K a).yld i H x H' → g x (wipe σ vs) H' fun σ2 H2 => wipe σ2 vs = wipe σ vs ∧ tt σ2 H2 fun b H3 =>
        if b = true then te σ2 H3 fun y H4 => ∃ acc, H4 D = some (.lst acc) ∧ acc.length < sizeLine ∧ Nx (upd H4 D (.lst (acc ++ [y]))) else Nx H3) := by
  refine lc_list (K := K) (a := a) (xs := xs) (fun i H => Same H1 H ∧ H D = some (.lst ((List.range i).filterMap C))) ⟨same_upd hD, upd_same⟩ (fun i H _ ⟨s, _⟩ => Same.seq s ha) (fun i x H hx ⟨s, e⟩ => ?_) fun H ⟨s, e⟩ => hd H s e
  have hi := (List.getElem?_eq_some_iff.mp hx).1
  exact turned_run (by omega) hD s e (hs i x H hx s)
theorem int_get {xs : List Int} {i : Nat} {v : V} (h : (xs.map V.int)[i]? = some v) : ∃ z, v = .int z ∧ z ∈ xs := by
  rw [List.getElem?_map] at h
  cases e : xs[i]? with
  | none => rw [e] at h; cases h
  | some z =>
    rw [e] at h
    exact ⟨z, (Option.some.inj h).symm, List.mem_of_getElem? e⟩
section
variable {P : Program} {w : World} {K : PySem.W.Frag} {mg : Str → Option Value} {base : Heap} {f : Addr} {fd : FuncData}
/-! ### _law_opened -/
def spOpen (K : PySem.W.Frag) : Sp := fun vs H Q _ => ∃ (a : Addr) (ns : List Int), vs = [.ref a] ∧ SqL K H a (ns.map V.int) ∧ ns.length ≤ 63 ∧ ∀ b g p H', Same H H' → Box H' b g p → Q (.ref b) H'
theorem sc__law_opened : FnScope ["_law_script", "_law_cells", "_law_small", "_law_great", "_law_cell"] ["_law_script"] (defScope s_law_opened) := ⟨rfl, rfl, rfl, by decide +kernel, rfl, by decide +kernel, by decide +kernel⟩
theorem c__law_opened (F : FnP K "_law_opened" s_law_opened f fd) (g : mg "_law_opened" = some (.ref f)) (T : Bl mg) : Cal P w K mg base "_law_opened" 1 ["_law_script"] (spOpen K) := by
  refine ⟨f, fd, F.ok sc__law_opened (fun vs H Q E h => ?_) (fun cdv A outer s H vs Q E hr h => ?_), g, F.kp, F.bindsN fun _ _ _ _ _ _ us hl => match us, hl with | [_], _ => rfl⟩
  · obtain ⟨_, _, rfl, _⟩ := h
    rfl
  · obtain ⟨a, ns, rfl, ha, few, q⟩ := h
    have nd := sc__law_opened.nd
    have hu := hu_of hr
    refine ⟨_, PSs.nox (pss_cons (ps_setLc (i := 1) (own := [("_law_cell", 4)]) (g := gName 4) (tt := tYes) (te := (tCB _ (tCons (tVar 4) tNil))) rfl nd rfl rfl (sw_true rfl rfl rfl (by decide +kernel)) (pi_list (pe_slice sl_list (pv 0) po_none (po_some pe_int))) (blkOk_by (N := ["_law_script", "_law_cells", "_law_small", "_law_great", "_law_cell"]) (sc := defScope s_law_opened) (by decide +kernel)) (fun _ _ _ _ _ => (pg_name (i := 4) nd rfl (Or.inl rfl))) (fun _ _ _ _ _ => pts_nil) (fun _ _ _ _ _ => (pe_callB call_abs rfl T.abs b_abs (pa_cons (pv 4) pa_nil))))
      (pss_cons (ps_setLc (i := 2) (own := [("_law_cell", 4)]) (g := gName 4) (tt := (tTest (tOp (rI0 fun i j => .bl (decide (i < j))) (tVar 4) (tOp (rI CPow fun i j => .int (i ^ j.toNat)) (tC (.int 10)) (tC (.int 18)))))) (te := (tVar 4)) rfl nd rfl rfl (sw_true rfl rfl rfl (by decide +kernel)) (pi_list (pv 1)) (blkOk_by (N := ["_law_script", "_law_cells", "_law_small", "_law_great", "_law_cell"]) (sc := defScope s_law_opened) (by decide +kernel)) (fun _ _ _ _ _ => (pg_name (i := 4) nd rfl (Or.inl rfl))) (fun _ _ _ _ _ => pts_one (pt_cmpR op_lt (pv 4) (pe_op op_pow pe_int pe_int) (nomark _))) (fun _ _ _ _ _ => (pv 4)))
      (pss_cons (ps_setLc (i := 3) (own := [("_law_cell", 4)]) (g := gName 4) (tt := (tTest (tOp (rI0 fun i j => .bl (decide (j ≤ i))) (tVar 4) (tOp (rI CPow fun i j => .int (i ^ j.toNat)) (tC (.int 10)) (tC (.int 18)))))) (te := (tVar 4)) rfl nd rfl rfl (sw_true rfl rfl rfl (by decide +kernel)) (pi_list (pv 1)) (blkOk_by (N := ["_law_script", "_law_cells", "_law_small", "_law_great", "_law_cell"]) (sc := defScope s_law_opened) (by decide +kernel)) (fun _ _ _ _ _ => (pg_name (i := 4) nd rfl (Or.inl rfl))) (fun _ _ _ _ _ => pts_one (pt_cmpR op_ge (pv 4) (pe_op op_pow pe_int pe_int) (nomark _))) (fun _ _ _ _ _ => (pv 4)))
      (pss_one (ps_ret (pe_disp (pps_cons pe_str (pv 3) (pps_cons pe_str (pe_op op_cat (pv 2) (pe_op op_rep (pe_lst (pa_cons pe_int pa_nil)) (pe_callTy call_int1 rfl T.int b_int (pa_cons (pe_cmpR (op_eqD hr.units) (pv 2) (pe_lst pa_nil) (nomark _)) pa_nil)))) (pps_cons pe_str pe_int pps_nil))) (by rfl) (by rfl) (fun z => by cases z) (by decide))))))), ?_⟩
    have pw : CPow 10 18 := ⟨by decide, by decide, by decide⟩
    -- _law_cells
    refine ⟨_, rfl, _, rfl, a, _, rfl, ha, fun z hz => ⟨z, rfl, ⟨_, SqL.of upd_same⟩, fun D hD => ?_⟩⟩
    have s1 := same_upd (o := .lst (cutV (ns.map V.int) none (some 61))) hz
    obtain ⟨cs, ec, lc⟩ : ∃ cs : List Int, cutV (ns.map V.int) none (some 61) = cs.map V.int ∧ cs.length ≤ 63 := by
      refine ⟨(ns.drop (HT.sIx ns.length 0 none)).take (HT.sIx ns.length ns.length (some 61) - HT.sIx ns.length 0 none), ?_, ?_⟩
      · unfold cutV
        rw [List.length_map, List.map_take, List.map_drop]
      · rw [List.length_take, List.length_drop]
        omega
    rw [ec] at s1 hD ⊢
    refine lcL (fun i => some (.int (if cs.getD i 0 < 0 then -(cs.getD i 0) else cs.getD i 0))) (by rw [List.length_map]; omega) (SqL.of upd_same) hD (fun i y H1 hy sx R R0 kR k0 => ?_) fun H1 sx e1 => ?_
    · refine ⟨rfl, qY ?_⟩
      have hy2 : y = .int (cs.getD i 0) := by
        rw [List.getElem?_map] at hy
        rw [List.getD_eq_getElem?_getD]
        cases e : cs[i]? with
        | none => rw [e] at hy; cases hy
        | some u => rw [e] at hy; exact (Option.some.inj hy).symm
      subst hy2
      exact ⟨_, rfl, _, rfl, kR _ _ (Same.refl _) rfl⟩
    obtain ⟨ms, em, lm⟩ := ints_of_fm (C := fun i => some (V.int (if cs.getD i 0 < 0 then -(cs.getD i 0) else cs.getD i 0))) (fun i o e => ⟨_, (Option.some.inj e).symm⟩) (cs.map V.int).length
    rw [em] at e1
    rw [List.length_map] at lm
    have s01 := s1.trans sx
    -- the small ones
    refine ⟨_, rfl, D, rfl, ⟨_, SqL.of e1⟩, fun D2 hD2 => ?_⟩
    refine lcL (fun i => if decide (ms.getD i 0 < 10 ^ 18) = true then some (.int (ms.getD i 0)) else none) (by rw [List.length_map]; omega) (SqL.of e1) hD2 (fun i y H2 hy s2 R R0 kR k0 => ?_) fun H2 s2 e2 => ?_
    · have hy2 : y = .int (ms.getD i 0) := by
        rw [List.getElem?_map] at hy
        rw [List.getD_eq_getElem?_getD]
        cases e : ms[i]? with
        | none => rw [e] at hy; cases hy
        | some u => rw [e] at hy; exact (Option.some.inj hy).symm
      subst hy2
      refine ⟨rfl, _, rfl, _, _, rfl, rfl, pw, _, _, rfl, rfl, _, rfl, ?_⟩
      show (if decide (ms.getD i 0 < 10 ^ 18) = true then _ else _)
      cases hl : decide (ms.getD i 0 < 10 ^ 18) with
      | true => exact iteT ⟨_, rfl, kR _ _ (Same.refl _) (by rw [hl]; rfl)⟩
      | false => exact iteF (k0 _ (Same.refl _) (by rw [hl]; rfl))
    obtain ⟨sm, es, ls⟩ := ints_of_fm (C := fun i => if decide (ms.getD i 0 < 10 ^ 18) = true then some (V.int (ms.getD i 0)) else none) (fun i o e => by
      cases hl : decide (ms.getD i 0 < 10 ^ 18) with
      | true => rw [hl] at e; exact ⟨_, (Option.some.inj e).symm⟩
      | false => rw [hl] at e; cases e) (ms.map V.int).length
    rw [es] at e2
    rw [List.length_map] at ls
    have s02 := s01.trans s2
    -- the great ones
    refine ⟨_, rfl, D, rfl, ⟨_, SqL.of (s2 _ _ e1)⟩, fun D3 hD3 => ?_⟩
    refine lcL (fun i => if decide (10 ^ 18 ≤ ms.getD i 0) = true then some (.int (ms.getD i 0)) else none) (by rw [List.length_map]; omega) (SqL.of (s2 _ _ e1)) hD3 (fun i y H3 hy s3 R R0 kR k0 => ?_) fun H3 s3 e3 => ?_
    · have hy2 : y = .int (ms.getD i 0) := by
        rw [List.getElem?_map] at hy
        rw [List.getD_eq_getElem?_getD]
        cases e : ms[i]? with
        | none => rw [e] at hy; cases hy
        | some u => rw [e] at hy; exact (Option.some.inj hy).symm
      subst hy2
      refine ⟨rfl, _, rfl, _, _, rfl, rfl, pw, _, _, rfl, rfl, _, rfl, ?_⟩
      show (if decide (10 ^ 18 ≤ ms.getD i 0) = true then _ else _)
      cases hl : decide (10 ^ 18 ≤ ms.getD i 0) with
      | true => exact iteT ⟨_, rfl, kR _ _ (Same.refl _) (by rw [hl]; rfl)⟩
      | false => exact iteF (k0 _ (Same.refl _) (by rw [hl]; rfl))
    obtain ⟨gr, eg, lg⟩ := ints_of_fm (C := fun i => if decide (10 ^ 18 ≤ ms.getD i 0) = true then some (V.int (ms.getD i 0)) else none) (fun i o e => by
      cases hl : decide (10 ^ 18 ≤ ms.getD i 0) with
      | true => rw [hl] at e; exact ⟨_, (Option.some.inj e).symm⟩
      | false => rw [hl] at e; cases e) (ms.map V.int).length
    rw [eg] at e3
    have s03 := s02.trans s3
    -- the dict
    intro b hb
    have sb := same_upd (o := .dK []) hb
    refine ⟨_, rfl, _, rfl, by show 1 ≤ sizeLine; decide, fun u hu => ⟨_, rfl, by show 0 ≤ sizeLine; decide, fun v hv => ?_⟩⟩
    have su := same_upd (o := .lst [.int 103]) hu
    have sv := same_upd (o := .lst []) hv
    have e2' := (s3.trans (sb.trans (su.trans sv))) _ _ e2
    refine q_eqL (ms := sm) (ns := []) (SqL.of e2') (SqL.of upd_same) (.inr ⟨_, rfl, ?_⟩)
    have eu := sv u _ upd_same
    refine ⟨u, _, _, rfl, rfl, eu, ?_, ?_, ?_, fun r hr => ?_⟩
    · cases decide (sm = []) <;> decide
    · cases decide (sm = []) <;> decide
    · cases decide (sm = []) <;> decide
    have er : (List.replicate (if decide (sm = []) = true then (1 : Int) else 0).toNat [V.int 103]).flatten = (if sm = [] then [103] else []).map V.int := by
      by_cases c : sm = []
      · rw [decide_eq_true c, if_pos c]
        rfl
      · rw [decide_eq_false c, if_neg c]
        rfl
    rw [er]
    have sr := same_upd (o := .lst ((if sm = [] then [103] else []).map V.int)) hr
    refine ⟨D2, r, _, _, rfl, rfl, sr _ _ e2', upd_same, ?_, fun t ht => ?_⟩
    · rw [List.length_map, List.length_map]
      refine line_small ?_
      split
      · show sm.length + 1 ≤ 1000
        omega
      · show sm.length + 0 ≤ 1000
        omega
    have stt := same_upd (o := .lst (sm.map V.int ++ (if sm = [] then [103] else []).map V.int)) ht
    have sall := sb.trans (su.trans (sv.trans (sr.trans stt)))
    have eb := (su.trans (sv.trans (sr.trans stt))) b _ upd_same
    refine ⟨eb, boxK D3 t 0, rfl, by show 3 ≤ 15; decide, ?_⟩
    rw [merge_box]
    have hbn : ∀ c o, H3 c = some o → c ≠ b := fun c o e => ne_of_none e hb
    refine q b D3 t _ (fun c o e => ?_) ⟨0, gr, sm ++ (if sm = [] then [103] else []), upd_same, ?_, ?_, ?_, ?_, ?_⟩
    · rw [upd_ne (hbn c o (s03 _ _ e))]
      exact sall c o (s03 _ _ e)
    · rw [upd_ne (hbn _ _ e3)]
      exact sall _ _ e3
    · have nt : t ≠ b := (ne_of_none ((su.trans (sv.trans sr)) b _ upd_same) ht).symm
      rw [upd_ne nt, upd_same, List.map_append]
    · split
      · simp
      · rename_i c
        rw [List.append_nil]
        exact c
    · rw [List.length_append]
      split
      · show sm.length + 1 ≤ 1000
        omega
      · show sm.length + 0 ≤ 1000
        omega
    · exact (ne_of_none ((sb.trans (su.trans (sv.trans sr))) _ _ e3) ht).symm
end
end K15
namespace K15
open PySem PySem.Spec PyProof.Rows L2
theorem mod_nat (z : Int) {m : Nat} (h : 0 < m) : ∃ d : Nat, z % (m : Int) = (d : Int) ∧ d < m := by
  have h1 := Int.emod_nonneg z (show (m : Int) ≠ 0 by omega)
  have h2 := Int.emod_lt_of_pos z (show (0 : Int) < m by omega)
  exact ⟨(z % (m : Int)).toNat, (Int.toNat_of_nonneg h1).symm, by omega⟩
theorem ixN_last {n : Nat} (h : 0 < n) : ixN n (-1) = some (n - 1) := by
  unfold ixN
  rw [if_neg (by decide), if_pos (by omega)]
  congr 1
  omega
section
variable {P : Program} {w : World} {K : PySem.W.Frag} {mg : Str → Option Value} {base : Heap} {f : Addr} {fd : FuncData}
/-! ### _law_draw -/
def spDraw : Sp := fun vs H Q _ => ∃ (b g p : Addr) (m : Nat), vs = [.ref b, nV m] ∧ Box H b g p ∧ 0 < m ∧ m ≤ 1000 ∧ ∀ d H', d < m → Keep b g H H' → Box H' b g p → Q (nV d) H'
theorem sc__law_draw : FnScope ["_law_box", "_law_many", "_law_great", "_law_digit", "_law_cell", "_law_mixed"] ["_law_box", "_law_many"] (defScope s_law_draw) := ⟨rfl, rfl, rfl, by decide +kernel, rfl, by decide +kernel, by decide +kernel⟩
theorem c__law_draw (F : FnP K "_law_draw" s_law_draw f fd) (g : mg "_law_draw" = some (.ref f)) (T : Bl mg) : Cal P w K mg base "_law_draw" 1 ["_law_box", "_law_many"] spDraw := by
  refine ⟨f, fd, F.ok sc__law_draw (fun vs H Q E h => ?_) (fun cdv A outer s H vs Q E hr h => ?_), g, F.kp, F.bindsN fun _ _ _ _ _ _ us hl => match us, hl with | [_, _], _ => rfl⟩
  · obtain ⟨_, _, _, _, rfl, _⟩ := h
    rfl
  · obtain ⟨b, g, p, m, rfl, B, m0, mk, q⟩ := h
    have nd := sc__law_draw.nd
    have hu := hu_of hr
    refine ⟨_, PSs.nox (pss_cons (ps_set (i := 2) nd rfl (Or.inl rfl) (pe_dget hu (pv 0) pe_str (fun _ _ => rfl)))
      (pss_cons (ps_while PassesOwn.never (pt_cmpR (op_neD hr.units) (pv 2) (pe_lst pa_nil) (nomark _))
        (pss_cons (ps_if (pt_cmpR op_gt (pe_ix ix_list (pv 2) (pe_un un_neg pe_int) (fun _ _ => rfl)) pe_int (nomark _)) (pss_cons (ps_set (i := 3) nd rfl (Or.inl rfl) (pe_op op_mod (pe_callTy call_int1 rfl T.int b_int (pa_cons (pe_ix ix_list (pv 2) (pe_un un_neg pe_int) (fun _ _ => rfl)) pa_nil)) (pv 1)))
          (pss_cons (ps_asg (pe_op op_fdiv (pe_callTy call_int1 rfl T.int b_int (pa_cons (pe_ix ix_list (pv 2) (pe_un un_neg pe_int) (fun _ _ => rfl)) pa_nil)) (pv 1)) (pg_sub (pv 2) (pe_un un_neg pe_int) set_list))
          (pss_one (ps_ret (pv 3))))) pss_nil)
        (pss_one (ps_expr (pe_bm0 PySem.F.plainAttrs_list PySem.F.slot_list_pop PySem.F.type_list_pop mt_pop (pv 2))))))
      (pss_cons (ps_dput hu (pv 0) pe_str (pe_op op_add (pe_dget hu (pv 0) pe_str (fun _ _ => rfl)) pe_int) rfl)
      (pss_cons (ps_set (i := 4) nd rfl (Or.inl rfl) (pe_ix ix_list (pe_dget hu (pv 0) pe_str (fun _ _ => rfl)) (pe_op op_mod (pe_callTy call_int1 rfl T.int b_int (pa_cons (pe_dget hu (pv 0) pe_str (fun _ _ => rfl)) pa_nil)) (pe_callB call_lenS rfl T.len b_len (pa_cons (pe_dget hu (pv 0) pe_str (fun _ _ => rfl)) pa_nil))) (fun _ _ => rfl)))
      (pss_cons (ps_set (i := 5) nd rfl (Or.inl rfl) (pe_op op_add (pe_op op_mul (pv 4) pe_int) (pe_op op_mul (pe_dget hu (pv 0) pe_str (fun _ _ => rfl)) pe_int)))
      (pss_cons (ps_set (i := 5) nd rfl (Or.inl rfl) (pe_op op_mod (pe_callTy call_int1 rfl T.int b_int (pa_cons (pv 5) pa_nil)) pe_int))
      (pss_cons (ps_set (i := 5) nd rfl (Or.inl rfl) (pe_op op_mod (pe_callTy call_int1 rfl T.int b_int (pa_cons (pe_op op_mul (pv 5) (pe_op op_add (pe_op op_fdivW (pv 5) pe_int) pe_int)) pa_nil)) pe_int))
      (pss_one (ps_ret (pe_op op_mod (pe_callTy call_int1 rfl T.int b_int (pa_cons (pe_op op_fdiv (pv 5) pe_int) pa_nil)) (pv 1))))))))))), ?_⟩
    obtain ⟨n, gr0, sm, hb0, hg0, hp0, ne, few, pg⟩ := B.ex
    have bg : b ≠ g := ne_of hb0 hg0 (by intro z; cases z)
    have bp : b ≠ p := ne_of hb0 hp0 (by intro z; cases z)
    have mpos : (0 : Int) < (m : Int) := by omega
    refine ⟨_, rfl, b, _, rfl, get_box (k := kG) hb0 (val_g g p n), ?_⟩
    refine ⟨fun c σ H2 => ∃ (gr : List Int) (v3 : Option V), gr.length = c ∧ σ = [some (.ref b), some (nV m), some (.ref g), v3, none, none] ∧ Keep b g H H2 ∧ H2 b = some (.dK (boxK g p n)) ∧ H2 g = some (.lst (gr.map V.int)) ∧ H2 p = some (.lst (sm.map V.int)),
      ⟨gr0.length, gr0, none, rfl, rfl, Keep.refl b g H, hb0, hg0, hp0⟩, ?_⟩
    rintro c σ H2 ⟨gr, v3, rfl, rfl, k2, hb, hg, hp⟩
    refine ⟨_, rfl, by show 0 ≤ sizeLine; decide, fun e he => ?_⟩
    have se := same_upd (o := .lst []) he
    have hb' := se _ _ hb
    have hg' := se _ _ hg
    have hp' := se _ _ hp
    have k3 : Keep b g H (upd H2 e (.lst [])) := k2.trans (keep_of se)
    refine q_neL (ms := gr) (ns := []) (SqL.of hg') (SqL.of upd_same) ⟨_, rfl, ?_⟩
    generalize upd H2 e (.lst []) = H3 at hb' hg' hp' k3 ⊢
    by_cases hn : gr = []
    · -- the great ones are used up: a mixed small cell
      rw [decide_eq_true hn]
      refine iteF ?_
      refine ⟨_, rfl, b, _, rfl, get_box (k := kT) hb' (val_t g p n), _, _, rfl, rfl, _, rfl, b, _, rfl, DPut.k (k := kT) hb' (small1000 (by show 3 ≤ 1000; omega)), ?_⟩
      rw [put_t]
      have hb4 : upd H3 b (.dK (boxK g p (n + 1))) b = some (.dK (boxK g p (n + 1))) := upd_same
      have hg4 : upd H3 b (.dK (boxK g p (n + 1))) g = some (.lst (gr.map V.int)) := by rw [upd_ne bg.symm]; exact hg'
      have hp4 : upd H3 b (.dK (boxK g p (n + 1))) p = some (.lst (sm.map V.int)) := by rw [upd_ne bp.symm]; exact hp'
      have k4 : Keep b g H (upd H3 b (.dK (boxK g p (n + 1)))) := k3.trans fun c o h h1 _ => by rw [upd_ne h1]; exact h
      generalize upd H3 b (.dK (boxK g p (n + 1))) = H4 at hb4 hg4 hp4 k4 ⊢
      have len : 0 < (sm.map V.int).length := by rw [List.length_map]; exact List.length_pos_iff.mpr ne
      obtain ⟨d, hd, hlt⟩ := mod_nat (n + 1) len
      rw [List.length_map] at hlt
      refine ⟨_, rfl, b, _, rfl, get_box (k := kS) hb4 (val_s g p (n + 1)), _, rfl, b, _, rfl, get_box (k := kT) hb4 (val_t g p (n + 1)), .inl ⟨_, rfl, _, rfl, b, _, rfl, get_box (k := kS) hb4 (val_s g p (n + 1)), p, _, rfl, .inl (SqL.of hp4), _, _, rfl, rfl, by omega,
        p, _, _, .int sm[d], rfl, rfl, SqL.of hp4, (by rw [hd]; exact at_map (List.getElem?_eq_getElem hlt)), ?_⟩⟩
      refine ⟨_, rfl, _, _, rfl, rfl, .inr ⟨by decide, by decide⟩, _, rfl, b, _, rfl, get_box (k := kT) hb4 (val_t g p (n + 1)), _, _, rfl, rfl, .inr ⟨by decide, by decide⟩, _, _, rfl, rfl, ?_⟩
      refine ⟨_, rfl, .inl ⟨_, rfl, _, _, rfl, rfl, (by show (0 : Int) < 18446744073709551557; decide), ?_⟩⟩
      dsimp only
      generalize sm[d] * 6364136223846793005 + (n + 1) * 1442695040888963407 = z1
      have a1 := Int.emod_nonneg z1 (show (18446744073709551557 : Int) ≠ 0 by decide)
      have a2 := Int.emod_lt_of_pos z1 (show (0 : Int) < 18446744073709551557 by decide)
      generalize z1 % 18446744073709551557 = z2 at a1 a2 ⊢
      refine ⟨_, rfl, _, rfl, _, _, rfl, rfl, ⟨by show (0 : Int) < 4294967296; decide, by show (4294967296 : Int).natAbs.log2 < 9000; decide⟩, _, _, rfl, rfl, _, _, rfl, rfl, .inl ⟨by omega, by omega⟩, .inl ⟨_, rfl, _, _, rfl, rfl, (by show (0 : Int) < 18446744073709551557; decide), ?_⟩⟩
      dsimp only
      generalize z2 * (z2 / 4294967296 + 17) % 18446744073709551557 = z3
      refine ⟨_, rfl, _, _, rfl, rfl, ⟨by show (0 : Int) < 65536; decide, by show (65536 : Int) < 1073741824; decide⟩, .inl ⟨_, rfl, _, rfl, _, _, rfl, rfl, mpos, ?_⟩⟩
      obtain ⟨r, hr, hrm⟩ := mod_nat (z3 / 65536) m0
      dsimp only
      rw [hr]
      exact q r H4 hrm k4 ⟨n + 1, gr, sm, hb4, hg4, hp4, ne, few, pg⟩
    · rw [decide_eq_false hn]
      refine iteT ?_
      have e1 := List.dropLast_concat_getLast hn
      have last : atI (gr.map V.int) (-1) = some (.int (gr.getLast hn)) := by
        have e2 := congrArg (List.map V.int) e1.symm
        rw [List.map_append] at e2
        rw [e2]
        exact atI_last _ _
      have len : 0 < gr.length := List.length_pos_iff.mpr hn
      generalize gr.getLast hn = z at last
      refine ⟨fun σ' H' => ∃ (gr' : List Int) (v3 : Option V), gr'.length < gr.length ∧ σ' = [some (.ref b), some (nV m), some (.ref g), v3, none, none] ∧ Keep b g H H' ∧ H' b = some (.dK (boxK g p n)) ∧ H' g = some (.lst (gr'.map V.int)) ∧ H' p = some (.lst (sm.map V.int)),
        fun σ' H' ⟨gr', v3, h1, h2⟩ => ⟨gr'.length, h1, gr', v3, rfl, h2⟩, ?_⟩
      refine ⟨_, rfl, 1, rfl, g, _, -1, _, rfl, rfl, SqL.of hg', last, _, _, rfl, rfl, _, rfl, ?_⟩
      refine ite2 (fun _ => ?_) (fun _ => ?_)
      · -- the digit
        refine ⟨_, rfl, 1, rfl, g, _, -1, _, rfl, rfl, SqL.of hg', last, .inl ⟨_, rfl, _, rfl, _, _, rfl, rfl, mpos, ?_⟩⟩
        obtain ⟨d, hd, hdm⟩ := mod_nat z m0
        dsimp only
        rw [hd]
        refine ⟨_, rfl, 1, rfl, g, _, -1, _, rfl, rfl, SqL.of hg', last, .inl ⟨_, rfl, _, rfl, _, _, rfl, rfl, ⟨mpos, by omega⟩, ?_⟩⟩
        refine ⟨_, rfl, 1, rfl, g, _, -1, gr.length - 1, rfl, rfl, hg', by rw [List.length_map]; exact ixN_last len, ?_⟩
        refine ⟨_, rfl, q d _ hdm (k3.trans fun c o h _ h2 => by rw [upd_ne h2]; exact h) ⟨n, gr.set (gr.length - 1) (z / (m : Int)), sm, ?_, ?_, ?_, ne, few, pg⟩⟩
        · rw [upd_ne bg]
          exact hb'
        · rw [upd_same, List.map_set]
        · rw [upd_ne pg]
          exact hp'
      · -- pop
        refine ⟨_, rfl, .inl ⟨rfl, _, SqL.of hg'⟩, ?_⟩
        have hl : (gr.map V.int)[(gr.map V.int).length - 1]? = some (V.int gr[gr.length - 1]) := by
          rw [List.length_map, List.getElem?_map, List.getElem?_eq_getElem (show gr.length - 1 < gr.length by omega)]
          rfl
        refine ⟨g, _, _, rfl, rfl, hg', hl, ?_⟩
        refine ⟨gr.dropLast, v3, by rw [List.length_dropLast]; omega, rfl, k3.trans fun c o h _ h2 => (by rw [upd_ne h2]; exact h), ?_, ?_, ?_⟩
        · rw [upd_ne bg]
          exact hb'
        · rw [upd_same, List.map_dropLast]
        · rw [upd_ne pg]
          exact hp'
/-! ### _law_one -/
def spOne : Sp := fun vs H Q _ => ∃ (b g p a : Addr) (xs : List V), vs = [.ref b, .ref a] ∧ Box H b g p ∧ (H a = some (.lst xs) ∨ H a = some (.tup xs)) ∧ a ≠ g ∧ xs ≠ [] ∧ xs.length ≤ 1000 ∧ ∀ x H', x ∈ xs → Keep b g H H' → Box H' b g p → Q x H'
theorem sc__law_one : FnScope ["_law_box", "_law_items"] ["_law_box", "_law_items"] (defScope s_law_one) := ⟨rfl, rfl, rfl, by decide +kernel, rfl, by decide +kernel, by decide +kernel⟩
theorem c__law_one (F : FnP K "_law_one" s_law_one f fd) (g : mg "_law_one" = some (.ref f)) (T : Bl mg) (cDr : Cal P w K mg base "_law_draw" 1 ["_law_box", "_law_many"] spDraw) : Cal P w K mg base "_law_one" 2 ["_law_box", "_law_items"] spOne := by
  refine ⟨f, fd, F.ok sc__law_one (fun vs H Q E h => ?_) (fun cdv A outer s H vs Q E hr h => ?_), g, F.kp, F.bindsN fun _ _ _ _ _ _ us hl => match us, hl with | [_, _], _ => rfl⟩
  · obtain ⟨_, _, _, _, _, rfl, _⟩ := h
    rfl
  · obtain ⟨b, g, p, a, xs, rfl, B, ha, ag, ne, few, q⟩ := h
    have nd := sc__law_one.nd
    have hu := hu_of hr
    refine ⟨_, PSs.nox (pss_one (ps_ret (pe_ix ix_seq (pv 1) (pe_cal cDr hr (pa_cons (pv 0) (pa_cons (pe_callB call_lenS rfl T.len b_len (pa_cons (pv 1) pa_nil)) pa_nil))) (fun _ _ => rfl)))), ?_⟩
    have ab : a ≠ b := ha.elim (fun h => B.lst h) fun h => (B.tup h).1
    refine ⟨_, rfl, _, rfl, _, rfl, a, xs, rfl, ha.imp (fun h => SqL.of h) (fun h => SqT.of h), b, g, p, xs.length, rfl, B, List.length_pos_iff.mpr ne, few, fun d H1 hd k1 B1 => ?_⟩
    have hx : xs[d]? = some xs[d] := List.getElem?_eq_getElem hd
    have hm : xs[d] ∈ xs := List.getElem_mem hd
    rcases ha with h | h
    · exact .inl ⟨a, xs, _, _, rfl, rfl, SqL.of (k1 _ _ h ab ag), atI_nat hx, q _ _ hm k1 B1⟩
    · exact .inr (.inl ⟨a, xs, _, _, rfl, rfl, SqT.of (k1 _ _ h ab ag), atI_nat hx, q _ _ hm k1 B1⟩)
end
end K15
namespace K15
open PySem PySem.Spec PyProof.Rows L2
theorem oV_map_none (t : List (Option Nat)) (x : Option Nat) : t.map oV ++ [oV x] = (t ++ [x]).map oV := by
  rw [List.map_append]
  rfl
section
variable {P : Program} {w : World} {K : PySem.W.Frag} {mg : Str → Option Value} {base : Heap} {f : Addr} {fd : FuncData}
/-! ### _law_sizes -/
def spSizes : Sp := fun vs H Q _ => ∃ (b g q : Addr), vs = [.ref b, nV 36, nV 4] ∧ Box H b g q ∧ ∀ p H' szs, Keep b g H H' → Box H' b g q → NsAt H' p szs → 1 ≤ szs.length → szs.length ≤ 4 → (∀ s ∈ szs, 2 ≤ s ∧ s ≤ 6) → Q (.ref p) H'
theorem sc__law_sizes : FnScope ["_law_box", "_law_most", "_law_many", "_law_sizes_here", "_law_room", "_law_k"] ["_law_box", "_law_most", "_law_many"] (defScope s_law_sizes) := ⟨rfl, rfl, rfl, by decide +kernel, rfl, by decide +kernel, by decide +kernel⟩
theorem c__law_sizes (F : FnP K "_law_sizes" s_law_sizes f fd) (g : mg "_law_sizes" = some (.ref f)) (T : Bl mg) (cDr : Cal P w K mg base "_law_draw" 1 ["_law_box", "_law_many"] spDraw) : Cal P w K mg base "_law_sizes" 2 ["_law_box", "_law_most", "_law_many"] spSizes := by
  refine ⟨f, fd, F.ok sc__law_sizes (fun vs H Q E h => ?_) (fun cdv A outer s H vs Q E hr h => ?_), g, F.kp, F.bindsN fun _ _ _ _ _ _ us hl => match us, hl with | [_, _, _], _ => rfl⟩
  · obtain ⟨_, _, _, rfl, _⟩ := h
    rfl
  · obtain ⟨b, g, q, rfl, B, kq⟩ := h
    have nd := sc__law_sizes.nd
    have hu := hu_of hr
    refine ⟨_, PSs.nox (pss_cons (ps_par (i := 3) (j := 4) rfl nd rfl rfl (by decide) rfl rfl (pa_cons (pe_lst pa_nil) (pa_cons (pv 1) pa_nil)) (by rfl))
      (pss_cons (ps_for PassesOwn.never rfl (pi_range1 rfl T.range (pa_cons (pe_op op_add pe_int (pe_cal cDr hr (pa_cons (pv 0) (pa_cons (pv 2) pa_nil)))) pa_nil)) (pg_name (i := 5) nd rfl (Or.inl rfl))
        (pss_one (ps_if (pt_cmpR op_ge (pv 4) pe_int (nomark _)) (pss_cons (ps_expr (pe_bm PySem.F.plainAttrs_list PySem.F.slot_list_append PySem.F.type_list_append mt_append (pv 3) (pa_cons (pe_op op_add pe_int (pe_cal cDr hr (pa_cons (pv 0) (pa_cons (pe_callB (call_min2 rfl) rfl T.min b_min (pa_cons pe_int (pa_cons (pe_op op_sub (pv 4) pe_int) pa_nil))) pa_nil)))) pa_nil)))
          (pss_one (ps_set (i := 4) nd rfl (Or.inl rfl) (pe_op op_fdiv (pv 4) (pe_ix ix_list (pv 3) (pe_un un_neg pe_int) (fun _ _ => rfl)))))) pss_nil)))
      (pss_one (ps_ret (pe_callTy call_tupS rfl T.tuple b_tuple (pa_cons (pv 3) pa_nil)))))), ?_⟩
    refine ⟨by show 0 ≤ sizeLine; decide, fun z hz => ⟨_, rfl, _, _, rfl, ?_⟩⟩
    have nz := B.new hz
    have sz := same_upd (o := .lst []) hz
    refine ⟨_, rfl, _, rfl, b, g, q, 4, rfl, B.on sz, by omega, by omega, fun d H1 hd k1 B1 => ?_⟩
    have z1 := k1 z _ upd_same nz.1 nz.2.1
    have K1 : Keep b g H H1 := (keep_of sz).trans k1
    refine ⟨_, _, rfl, rfl, _, rfl, by omega, by omega, ?_⟩
    refine for_range (lo := 0) (n := ((1 : Int) + (d : Int)).toNat) (fun i σ H2 => ∃ (szs : List Nat) (room : Int) (v5 : Option V), σ = [some (.ref b), some (nV 36), some (nV 4), some (.ref z), some (.int room), v5] ∧ Keep b g H H2 ∧ Box H2 b g q ∧ H2 z = some (.lst (szs.map nV)) ∧
        szs.length ≤ i ∧ room ≤ 36 ∧ (szs = [] → room = 36 ∧ i = 0) ∧ ∀ s ∈ szs, 2 ≤ s ∧ s ≤ 6)
      ⟨[], 36, none, rfl, K1, B1, z1, Nat.le_refl _, by omega, fun _ => ⟨rfl, rfl⟩, fun _ h => by cases h⟩ ?_ ?_
    · rintro i σ H2 hi ⟨szs, room, v5, rfl, k2, B2, z2, l2, r2, e2, a2⟩
      have hi4 : i < 4 := by omega
      refine ⟨_, rfl, _, _, rfl, rfl, _, rfl, ?_⟩
      refine ite2 (fun c => ?_) (fun c => ?_)
      · have c : (2 : Int) ≤ room := of_decide_eq_true c
        obtain ⟨m, hm, m1, m5⟩ : ∃ m : Nat, (if room - 1 < 5 then room - 1 else 5) = (m : Int) ∧ 0 < m ∧ m ≤ 5 := by
          by_cases h : room - 1 < 5
          · rw [if_pos h]
            exact ⟨(room - 1).toNat, by omega, by omega, by omega⟩
          · rw [if_neg h]
            exact ⟨5, rfl, by omega, by omega⟩
        refine ⟨_, rfl, .inl ⟨rfl, _, SqL.of z2⟩, _, rfl, _, rfl, _, _, rfl, rfl, _, _, rfl, ?_⟩
        dsimp only
        rw [hm]
        refine ⟨b, g, q, m, rfl, B2, m1, by omega, fun d2 H3 hd2 k3 B3 => ⟨_, _, rfl, rfl, ?_⟩⟩
        have z3 := k3 z _ z2 nz.1 nz.2.1
        have eadd : V.int (2 + (d2 : Int)) = nV (2 + d2) := congrArg V.int (by omega)
        refine ⟨z, _, _, rfl, rfl, z3, small1000 (by rw [List.length_map]; omega), ?_⟩
        dsimp only
        have em : szs.map nV ++ [V.int (2 + (d2 : Int))] = (szs ++ [2 + d2]).map nV := by rw [eadd, List.map_append]; rfl
        rw [em]
        have z4 : upd H3 z (.lst ((szs ++ [2 + d2]).map nV)) z = some (.lst ((szs ++ [2 + d2]).map nV)) := upd_same
        have k4 : Keep b g H (upd H3 z (.lst ((szs ++ [2 + d2]).map nV))) := (k2.trans k3).put hz
        have B4 : Box (upd H3 z (.lst ((szs ++ [2 + d2]).map nV))) b g q := B3.put nz
        generalize upd H3 z (.lst ((szs ++ [2 + d2]).map nV)) = H4 at z4 k4 B4 ⊢
        have hl : atI ((szs ++ [2 + d2]).map nV) (-1) = some (nV (2 + d2)) := by
          rw [List.map_append]
          exact atI_last _ _
        refine ⟨_, rfl, _, rfl, 1, rfl, z, _, -1, _, rfl, rfl, SqL.of z4, hl, _, _, rfl, rfl, ⟨by omega, by omega⟩, ?_⟩
        refine ⟨szs ++ [2 + d2], _, _, rfl, k4, B4, z4, by rw [List.length_append]; show szs.length + 1 ≤ i + 1; omega, ?_, fun h => absurd h (by simp), fun s hs => ?_⟩
        · have h1 : room / ((2 + d2 : Nat) : Int) ≤ room := Int.ediv_le_self _ (by omega)
          exact Int.le_trans h1 r2
        · rcases List.mem_append.mp hs with hs | hs
          · exact a2 s hs
          · rw [List.mem_singleton.mp hs]
            omega
      · have c : ¬ (2 : Int) ≤ room := fun h => c (decide_eq_true h)
        refine ⟨szs, room, _, rfl, k2, B2, z2, by omega, r2, fun h => ?_, a2⟩
        have := (e2 h).1
        omega
    · rintro σ H2 ⟨szs, room, v5, rfl, k2, B2, z2, l2, r2, e2, a2⟩
      refine ⟨_, rfl, z, _, rfl, .inl ⟨SqL.of z2, fun p hp => ?_⟩⟩
      have ne : szs ≠ [] := fun h => by
        have := (e2 h).2
        omega
      refine kq p _ szs (k2.trans (keep_of (same_upd hp))) (B2.on (same_upd hp)) upd_same (List.length_pos_iff.mpr ne) (by omega) a2
/-! ### _law_table -/
def spTable : Sp := fun vs H Q _ => ∃ (b g q : Addr) (s t : Nat), vs = [.ref b, nV s, nV t] ∧ Box H b g q ∧ 2 ≤ s ∧ s ≤ 6 ∧ 2 ≤ t ∧ t ≤ 6 ∧
  ∀ (p : Addr) (H' : Hp) (tab : List (Option Nat)), Keep b g H H' → Box H' b g q → H' p = some (.tup (tab.map oV)) → tab.length = s → (∀ v, some v ∈ tab → v < t) → Q (.ref p) H'
theorem at_two {x y : V} {n : Nat} (h : n < 2) : atI [x, y] (n : Int) = some (if n = 0 then x else y) := by
  have e : n = 0 ∨ n = 1 := by omega
  rcases e with rfl | rfl <;> rfl
theorem sc__law_table : FnScope ["_law_box", "_law_one_here", "_law_other", "_law_way", "_law_by", "_law_k"] ["_law_box", "_law_one_here", "_law_other"] (defScope s_law_table) := ⟨rfl, rfl, rfl, by decide +kernel, rfl, by decide +kernel, by decide +kernel⟩
theorem c__law_table (F : FnP K "_law_table" s_law_table f fd) (g : mg "_law_table" = some (.ref f)) (T : Bl mg) (cDr : Cal P w K mg base "_law_draw" 1 ["_law_box", "_law_many"] spDraw) (cOne : Cal P w K mg base "_law_one" 2 ["_law_box", "_law_items"] spOne) : Cal P w K mg base "_law_table" 3 ["_law_box", "_law_one_here", "_law_other"] spTable := by
  refine ⟨f, fd, F.ok sc__law_table (fun vs H Q E h => ?_) (fun cdv A outer s H vs Q E hr h => ?_), g, F.kp, F.bindsN fun _ _ _ _ _ _ us hl => match us, hl with | [_, _, _], _ => rfl⟩
  · obtain ⟨_, _, _, _, _, rfl, _⟩ := h
    rfl
  · obtain ⟨b, g, q, s, t, rfl, B, s2, s6, t2, t6, kq⟩ := h
    have nd := sc__law_table.nd
    have hu := hu_of hr
    refine ⟨_, PSs.nox (pss_cons (ps_asg (pe_tup (pa_cons (pe_cal cDr hr (pa_cons (pv 0) (pa_cons pe_int pa_nil))) (pa_cons (pe_cal cDr hr (pa_cons (pv 0) (pa_cons (pv 2) pa_nil))) pa_nil))) (pg_tup rfl (pgs_cons (pg_name (i := 3) nd rfl (Or.inr rfl)) (pgs_cons (pg_name (i := 4) nd rfl (Or.inr rfl)) pgs_nil))))
      (pss_cons (ps_if (pt_cmpR op_eq (pv 3) pe_int (nomark _)) (pss_one (ps_ret (pe_op op_repT (pe_tup (pa_cons (pv 4) pa_nil)) (pv 1)))) pss_nil)
      (pss_cons (ps_if (pt_cmpR op_eq (pv 3) pe_int (nomark _)) (pss_one (ps_ret (pe_callTy call_tupS rfl T.tuple b_tuple (pa_cons (pe_lc (own := [("_law_k", 5)]) (g := gName 5) (tt := tYes) (te := (tOp (rI (fun _ j => 0 < j) fun i j => .int (i % j)) (tCB _ (tCons (tVar 5) tNil)) (tVar 2))) rfl nd (pi_range1 rfl T.range (pa_cons (pv 1) pa_nil)) (blkOk_by (N := ["_law_box", "_law_one_here", "_law_other", "_law_way", "_law_by", "_law_k"]) (sc := defScope s_law_table) (by decide +kernel)) (fun _ _ _ _ _ => (pg_name (i := 5) nd rfl (Or.inl rfl))) (fun _ _ _ _ _ => pts_nil) (fun _ _ _ _ _ => (pe_op op_mod (pe_callTy call_int1 rfl T.int b_int (pa_cons (pv 5) pa_nil)) (pv 2)))) pa_nil)))) pss_nil)
      (pss_cons (ps_if (pt_cmpR op_eq (pv 3) pe_int (nomark _)) (pss_one (ps_ret (pe_callTy call_tupS rfl T.tuple b_tuple (pa_cons (pe_lc (own := [("_law_k", 5)]) (g := gName 5) (tt := tYes) (te := (tOp (rI (fun _ j => 0 < j) fun i j => .int (i % j)) (tCB _ (tCons (tOp (rI0 fun i j => .int (i + j)) (tVar 5) (tVar 4)) tNil)) (tVar 2))) rfl nd (pi_range1 rfl T.range (pa_cons (pv 1) pa_nil)) (blkOk_by (N := ["_law_box", "_law_one_here", "_law_other", "_law_way", "_law_by", "_law_k"]) (sc := defScope s_law_table) (by decide +kernel)) (fun _ _ _ _ _ => (pg_name (i := 5) nd rfl (Or.inl rfl))) (fun _ _ _ _ _ => pts_nil) (fun _ _ _ _ _ => (pe_op op_mod (pe_callTy call_int1 rfl T.int b_int (pa_cons (pe_op op_add (pv 5) (pv 4)) pa_nil)) (pv 2)))) pa_nil)))) pss_nil)
      (pss_one (ps_ret (pe_callTy call_tupS rfl T.tuple b_tuple (pa_cons (pe_lc (own := [("_law_k", 5)]) (g := gName 5) (tt := tYes) (te := (tCall spOne [] E0 (tCons (tVar 0) (tCons (tLst (tCons (tCall spDraw [] E0 (tCons (tVar 0) (tCons (tVar 2) tNil))) (tCons (tOp (rIxL _) (tLst (tCons (tC .non) (tCons (tVar 4) tNil))) (tOp (rI0 fun i j => .int (i - j)) (tVar 3) (tC (.int 3)))) tNil))) tNil)))) rfl nd (pi_range1 rfl T.range (pa_cons (pv 1) pa_nil)) (blkOk_by (N := ["_law_box", "_law_one_here", "_law_other", "_law_way", "_law_by", "_law_k"]) (sc := defScope s_law_table) (by decide +kernel)) (fun _ _ _ _ _ => (pg_name (i := 5) nd rfl (Or.inl rfl))) (fun _ _ _ _ _ => pts_nil) (fun _ _ _ _ _ => (pe_cal cOne hr (pa_cons (pv 0) (pa_cons (pe_lst (pa_cons (pe_cal cDr hr (pa_cons (pv 0) (pa_cons (pv 2) pa_nil))) (pa_cons (pe_ix ix_list (pe_lst (pa_cons pe_non (pa_cons (pv 4) pa_nil))) (pe_op op_sub (pv 3) pe_int) (fun _ _ => rfl)) pa_nil))) pa_nil))))) pa_nil)))))))), ?_⟩
    refine ⟨_, rfl, b, g, q, 5, rfl, B, by omega, by omega, fun y H1 hy k1 B1 => ?_⟩
    refine ⟨_, rfl, _, rfl, b, g, q, t, rfl, B1, by omega, by omega, fun v H2 hv k2 B2 => ⟨by show 2 ≤ sizeLine; decide, fun pr hpr => ?_⟩⟩
    have sp := same_upd (o := .tup [nV y, nV v]) hpr
    refine ⟨pr, _, rfl, SqT.of upd_same, rfl, _, _, rfl, _, _, rfl, rfl, ?_⟩
    have k3 : Keep b g H (upd H2 pr (.tup [nV y, nV v])) := (k1.trans k2).trans (keep_of sp)
    have B3 := B2.on sp
    generalize upd H2 pr (.tup [nV y, nV v]) = H3 at k3 B3 ⊢
    refine ⟨_, rfl, rfl, _, rfl, ?_⟩
    refine ite2 (fun c => ?_) (fun c0 => ?_)
    · -- one value
      refine ⟨_, rfl, by show 1 ≤ sizeLine; decide, fun o ho => ⟨_, rfl, o, _, _, rfl, rfl, SqT.of upd_same, by simp, by omega, by omega, by show 1 ≤ 1000; omega, fun p hp => ?_⟩⟩
      have so := same_upd (o := .tup [nV v]) ho
      have sp := same_upd (o := .tup (List.replicate ((s : Int)).toNat [nV v]).flatten) hp
      refine kq p _ (List.replicate s (some v)) (k3.trans (keep_of (so.trans sp))) (B3.on (so.trans sp)) ?_ List.length_replicate fun u hu => ?_
      · rw [upd_same]
        have e : (List.replicate ((s : Int)).toNat [nV v]).flatten = (List.replicate s (some v)).map oV := by
          show (List.replicate s [nV v]).flatten = _
          clear s2 s6 kq sp hp
          induction s with
          | zero => rfl
          | succ n ih => rw [List.replicate_succ, List.replicate_succ, List.flatten_cons, List.map_cons, ih]; rfl
        rw [e]
      · have h := (List.mem_replicate.mp hu).2
        cases h
        exact hv
    refine ⟨_, rfl, rfl, _, rfl, ?_⟩
    refine ite2 (fun c => ?_) (fun c1 => ?_)
    · -- a copy
      refine ⟨_, rfl, _, rfl, by omega, by omega, fun D hD => ?_⟩
      refine lcR (fun i => some (nV (i % t))) (by show s ≤ 1000; omega) hD (fun i H4 hi s4 R R0 kR k0 => ?_) fun H4 s4 e4 => ?_
      · refine ⟨rfl, qY ⟨_, rfl, .inl ⟨_, rfl, _, rfl, _, _, rfl, rfl, by omega, kR _ _ (Same.refl _) ?_⟩⟩⟩
        rfl
      · refine ⟨D, _, rfl, .inl ⟨SqL.of e4, fun p hp => ?_⟩⟩
        have sp := same_upd (o := .tup ((List.range ((s : Int)).toNat).filterMap fun i => some (nV (i % t)))) hp
        refine kq p _ ((List.range s).map fun i => some (i % t)) (k3.trans (keep_of (s4.trans sp))) (B3.on (s4.trans sp)) ?_ (by rw [List.length_map, List.length_range]) fun u hu => ?_
        · rw [upd_same, fm_some, List.map_map]
          rfl
        · obtain ⟨i, _, h⟩ := List.mem_map.mp hu
          cases h
          exact Nat.mod_lt _ (by omega)
    refine ⟨_, rfl, rfl, _, rfl, ?_⟩
    refine ite2 (fun c => ?_) (fun c2 => ?_)
    · -- a shift
      refine ⟨_, rfl, _, rfl, by omega, by omega, fun D hD => ?_⟩
      refine lcR (fun i => some (nV ((i + v) % t))) (by show s ≤ 1000; omega) hD (fun i H4 hi s4 R R0 kR k0 => ?_) fun H4 s4 e4 => ?_
      · refine ⟨rfl, qY ⟨_, rfl, _, rfl, _, _, rfl, rfl, .inl ⟨_, rfl, _, rfl, _, _, rfl, rfl, by omega, kR _ _ (Same.refl _) ?_⟩⟩⟩
        rfl
      · refine ⟨D, _, rfl, .inl ⟨SqL.of e4, fun p hp => ?_⟩⟩
        have sp := same_upd (o := .tup ((List.range ((s : Int)).toNat).filterMap fun i => some (nV ((i + v) % t)))) hp
        refine kq p _ ((List.range s).map fun i => some ((i + v) % t)) (k3.trans (keep_of (s4.trans sp))) (B3.on (s4.trans sp)) ?_ (by rw [List.length_map, List.length_range]) fun u hu => ?_
        · rw [upd_same, fm_some, List.map_map]
          rfl
        · obtain ⟨i, _, h⟩ := List.mem_map.mp hu
          cases h
          exact Nat.mod_lt _ (by omega)
    -- drawn values
    have y34 : y = 3 ∨ y = 4 := by
      have h0 : ¬ y = 0 := fun e => c0 (by rw [e]; rfl)
      have h1 : ¬ y = 1 := fun e => c1 (by rw [e]; rfl)
      have h2 : ¬ y = 2 := fun e => c2 (by rw [e]; rfl)
      omega
    refine ⟨_, rfl, _, rfl, by omega, by omega, fun D hD => ?_⟩
    obtain nD := B3.new hD
    refine lc_range (fun i H4 => Keep b g H3 H4 ∧ Box H4 b g q ∧ ∃ tab : List (Option Nat), H4 D = some (.lst (tab.map oV)) ∧ tab.length = i ∧ ∀ u, some u ∈ tab → u < t)
      ⟨keep_of (same_upd hD), B3.put nD, [], upd_same, rfl, fun _ h => by cases h⟩ ?_ ?_
    · rintro i H4 hi ⟨k4, B4, tab, e4, l4, a4⟩
      have hi : i < s := hi
      rw [Int.zero_add]
      refine ⟨rfl, qY ⟨_, rfl, _, rfl, _, rfl, b, g, q, t, rfl, B4, by omega, by omega, fun u H5 hu k5 B5 => ?_⟩⟩
      refine ⟨_, rfl, by show 2 ≤ sizeLine; decide, fun l2 hl2 => ⟨_, rfl, _, _, rfl, rfl, l2, _, _, if y = 3 then V.non else nV v, rfl, rfl, SqL.of upd_same, ?_, ?_⟩⟩
      · rcases y34 with rfl | rfl <;> rfl
      have sl2 := same_upd (o := .lst [.non, nV v]) hl2
      refine ⟨by show 2 ≤ sizeLine; decide, fun l3 hl3 => ?_⟩
      have sl3 := same_upd (o := .lst [nV u, if y = 3 then V.non else nV v]) hl3
      have B7 := B5.on (sl2.trans sl3)
      have nl3 := (B5.on sl2).new hl3
      refine ⟨b, g, q, l3, _, rfl, B7, .inl upd_same, nl3.2.1, by simp, by show 2 ≤ 1000; omega, fun x H8 hx k8 B8 => ?_⟩
      obtain ⟨o, rfl, ho⟩ : ∃ o : Option Nat, x = oV o ∧ ∀ z, o = some z → z < t := by
        rcases List.mem_cons.mp hx with rfl | hx
        · exact ⟨some u, rfl, fun z e => by cases e; exact hu⟩
        · rw [List.mem_singleton.mp hx]
          by_cases h : y = 3
          · rw [if_pos h]
            exact ⟨none, rfl, fun z e => by cases e⟩
          · rw [if_neg h]
            exact ⟨some v, rfl, fun z e => by cases e; exact hv⟩
      have e5 := k5 D _ e4 nD.1 nD.2.1
      have e8 := k8 D _ ((sl2.trans sl3) _ _ e5) nD.1 nD.2.1
      refine ⟨_, e8, small1000 (by rw [List.length_map]; omega), ?_, B8.put nD, tab ++ [o], ?_, by rw [List.length_append, l4]; rfl, fun z hz => ?_⟩
      · exact (((k4.trans k5).trans (keep_of (sl2.trans sl3))).trans k8).put hD
      · rw [upd_same, oV_map_none]
      · rcases List.mem_append.mp hz with hz | hz
        · exact a4 z hz
        · exact ho z (List.mem_singleton.mp hz).symm
    · rintro H4 ⟨k4, B4, tab, e4, l4, a4⟩
      refine ⟨D, _, rfl, .inl ⟨SqL.of e4, fun p hp => ?_⟩⟩
      exact kq p _ tab ((k3.trans k4).trans (keep_of (same_upd hp))) (B4.on (same_upd hp)) upd_same l4 a4
end
end K15
namespace K15
open PySem PySem.Spec PyProof.Rows L2
/-! ### the links that the loop has drawn -/
structure Fine (szs xs : List Nat) (r t : Nat) (Ls : List Lnk) : Prop where
  all : ∀ L ∈ Ls, L.src < szs.length ∧ L.tgt < t ∧ L.src ≠ L.tgt ∧ L.tgt ≠ r ∧ L.tab.length = at0 szs L.src ∧ (∀ v, some v ∈ L.tab → v < at0 szs L.tgt) ∧ loudL L xs = false
  nd : (Ls.map Lnk.tgt).Nodup
theorem Fine.rev {szs xs : List Nat} {r t : Nat} {Ls : List Lnk} (h : Fine szs xs r t Ls) : Fine szs xs r t Ls.reverse :=
  ⟨fun L hL => h.all L (List.mem_reverse.mp hL), by rw [List.map_reverse]; exact List.pairwise_reverse.mpr (h.nd.imp fun a e => a e.symm)⟩
theorem Fine.next {szs xs : List Nat} {r t : Nat} {Ls : List Lnk} (h : Fine szs xs r t Ls) : Fine szs xs r (t + 1) Ls :=
  ⟨fun L hL => by obtain ⟨h1, h2, h3⟩ := h.all L hL; exact ⟨h1, by omega, h3⟩, h.nd⟩
theorem Fine.add {szs xs : List Nat} {r t : Nat} {Ls : List Lnk} (h : Fine szs xs r t Ls) {L : Lnk} (e : L.tgt = t) (hL : L.src < szs.length ∧ L.src ≠ L.tgt ∧ L.tgt ≠ r ∧ L.tab.length = at0 szs L.src ∧ (∀ v, some v ∈ L.tab → v < at0 szs L.tgt) ∧ loudL L xs = false) :
    Fine szs xs r (t + 1) (Ls ++ [L]) := by
  refine ⟨fun M hM => ?_, ?_⟩
  · rcases List.mem_append.mp hM with hM | hM
    · exact h.next.all M hM
    · rw [List.mem_singleton.mp hM]
      exact ⟨hL.1, by omega, hL.2⟩
  · rw [List.map_append]
    refine List.nodup_append.mpr ⟨h.nd, by simp, fun a ha b hb => ?_⟩
    obtain ⟨M, hM, rfl⟩ := List.mem_map.mp ha
    have hb' : b = L.tgt := List.mem_singleton.mp hb
    have := (h.all M hM).2.1
    omega
theorem sizes_at {szs : List Nat} (h : ∀ s ∈ szs, 2 ≤ s ∧ s ≤ 6) {i : Nat} (hi : i < szs.length) : 2 ≤ at0 szs i ∧ at0 szs i ≤ 6 := h _ (List.mem_of_getElem? (at0_get hi))
theorem Fine.tree {szs xs : List Nat} {r : Nat} {Ls : List Lnk} (h : Fine szs xs r szs.length Ls) (n1 : 1 ≤ szs.length) (n4 : szs.length ≤ 4) (sz : ∀ s ∈ szs, 2 ≤ s ∧ s ≤ 6) (hr : r < szs.length) : Tree ⟨szs, Ls⟩ r ∧ loud ⟨szs, Ls⟩ xs = [] := by
  have mem : ∀ k, k < Fm.m ⟨szs, Ls⟩ → lk ⟨szs, Ls⟩ k ∈ Ls := fun k hk => List.mem_of_getElem? (lk_get hk)
  have hm : Ls.length ≤ 4 := by
    have q := nodup_le (m := szs.length) h.nd fun k hk => by
      obtain ⟨M, hM, rfl⟩ := List.mem_map.mp hk
      exact (h.all M hM).2.1
    rw [List.length_map] at q
    omega
  refine ⟨⟨⟨n1, n4, hm, fun i hi => sizes_at sz hi, fun k hk => (h.all _ (mem k hk)).1, fun k hk => (h.all _ (mem k hk)).2.1, fun k hk => (h.all _ (mem k hk)).2.2.1, fun k hk => (h.all _ (mem k hk)).2.2.2.2.1, fun k hk => (h.all _ (mem k hk)).2.2.2.2.2.1⟩, hr,
    fun k hk => (h.all _ (mem k hk)).2.2.2.1, fun j k hj hk e => ?_⟩, ?_⟩
  · have q1 : (Ls.map Lnk.tgt)[j]? = some (lk ⟨szs, Ls⟩ j).tgt := by rw [List.getElem?_map, show Ls[j]? = some (lk ⟨szs, Ls⟩ j) from lk_get hj]; rfl
    have q2 : (Ls.map Lnk.tgt)[k]? = some (lk ⟨szs, Ls⟩ k).tgt := by rw [List.getElem?_map, show Ls[k]? = some (lk ⟨szs, Ls⟩ k) from lk_get hk]; rfl
    exact nd_ix h.nd q1 (by rw [q2, e])
  · cases e : loud ⟨szs, Ls⟩ xs with
    | nil => rfl
    | cons k l =>
      obtain ⟨hk, hl⟩ := mem_loud.mp (show k ∈ loud ⟨szs, Ls⟩ xs by rw [e]; exact List.mem_cons_self)
      rw [(h.all _ (mem k hk)).2.2.2.2.2.2] at hl
      cases hl
theorem src_ne {n t d : Nat} (ht : t < n) (hd : d < n - 1) : (t + 1 + d) % n ≠ t := by
  by_cases h : t + 1 + d < n
  · rw [Nat.mod_eq_of_lt h]
    omega
  · rw [Nat.mod_eq_sub_mod (by omega), Nat.mod_eq_of_lt (by omega)]
    omega
theorem at0_mem {szs : List Nat} {i s : Nat} (h : szs[i]? = some s) : at0 szs i = s := at0_of h
/-- a link's tuple -/
def LAt (H : Hp) (v : V) (L : Lnk) : Prop := ∃ a t : Addr, v = .ref a ∧ H a = some (.tup [nV L.src, nV L.tgt, .ref t, .int 0]) ∧ H t = some (.tup (L.tab.map oV))
theorem LAt.on {H H' : Hp} {v : V} {L : Lnk} (s : Tups H H') (h : LAt H v L) : LAt H' v L := by
  obtain ⟨a, t, h1, h2, h3⟩ := h
  exact ⟨a, t, h1, s _ _ h2, s _ _ h3⟩
/-- what stands while the links are drawn -/
structure Mid (H0 H : Hp) (b g q sA xA lA : Addr) (szs xs : List Nat) (ps : List (V × Lnk)) : Prop where
  keep : Keep b g H0 H
  box : Box H b g q
  hs : NsAt H sA szs
  hx : NsAt H xA xs
  hl : H lA = some (.lst (ps.map (·.1)))
  la : ∀ p ∈ ps, LAt H p.1 p.2
section
variable {H0 H H' : Hp} {b g q sA xA lA : Addr} {szs xs : List Nat} {ps : List (V × Lnk)}
theorem Mid.on (M : Mid H0 H b g q sA xA lA szs xs ps) (nl : lA ≠ b ∧ lA ≠ g ∧ lA ≠ q) (k : Keep b g H H') (B : Box H' b g q) : Mid H0 H' b g q sA xA lA szs xs ps :=
  have t := k.tups M.box
  ⟨M.keep.trans k, B, M.hs.on t, M.hx.on t, k _ _ M.hl nl.1 nl.2.1, fun p hp => (M.la p hp).on t⟩
theorem Mid.same (M : Mid H0 H b g q sA xA lA szs xs ps) (s : Same H H') : Mid H0 H' b g q sA xA lA szs xs ps :=
  have t := tups_of s
  ⟨M.keep.trans (keep_of s), M.box.on s, M.hs.on t, M.hx.on t, s _ _ M.hl, fun p hp => (M.la p hp).on t⟩
/-- the links' list is written -/
theorem Mid.lst {ps' : List (V × Lnk)} (M : Mid H0 H b g q sA xA lA szs xs ps) (nl : lA ≠ b ∧ lA ≠ g ∧ lA ≠ q) (h0 : H0 lA = none) (h : ∀ p ∈ ps', LAt H p.1 p.2) : Mid H0 (upd H lA (.lst (ps'.map (·.1)))) b g q sA xA lA szs xs ps' :=
  have t := tups_lst (ys := ps'.map (·.1)) M.hl
  ⟨M.keep.put h0, M.box.put nl, M.hs.on t, M.hx.on t, upd_same, fun p hp => (h p hp).on t⟩
end
section
variable {P : Program} {w : World} {K : PySem.W.Frag} {mg : Str → Option Value} {base : Heap} {f : Addr} {fd : FuncData}
def spTree : Sp := fun vs H Q _ => ∃ (b g q : Addr), vs = [.ref b] ∧ Box H b g q ∧ ∀ (p fA xA : Addr) (F : Fm) (xs : List Nat) (r : Nat) (H' : Hp), Keep b g H H' → Box H' b g q → H' p = some (.tup [.ref fA, .ref xA, nV r]) → FmAt H' fA F → NsAt H' xA xs → Tree F r → Fil F xs → loud F xs = [] → Q (.ref p) H'
theorem sc__law_tree : FnScope ["_law_box", "_law_sizes_here", "_law_filling", "_law_root", "_law_links", "_law_target", "_law_source", "_law_table_here", "_law_size"] ["_law_box"] (defScope s_law_tree) := ⟨rfl, rfl, rfl, by decide +kernel, rfl, by decide +kernel, by decide +kernel⟩
theorem c__law_tree (F : FnP K "_law_tree" s_law_tree f fd) (g : mg "_law_tree" = some (.ref f)) (T : Bl mg) (cDr : Cal P w K mg base "_law_draw" 1 ["_law_box", "_law_many"] spDraw) (cOne : Cal P w K mg base "_law_one" 2 ["_law_box", "_law_items"] spOne) (cSz : Cal P w K mg base "_law_sizes" 2 ["_law_box", "_law_most", "_law_many"] spSizes) (cTb : Cal P w K mg base "_law_table" 3 ["_law_box", "_law_one_here", "_law_other"] spTable) : Cal P w K mg base "_law_tree" 4 ["_law_box"] spTree := by
  refine ⟨f, fd, F.ok sc__law_tree (fun vs H Q E h => ?_) (fun cdv A outer s H vs Q E hr h => ?_), g, F.kp, F.bindsN fun _ _ _ _ _ _ us hl => match us, hl with | [_], _ => rfl⟩
  · obtain ⟨_, _, _, rfl, _⟩ := h
    rfl
  · obtain ⟨b, g, q, rfl, B, kq⟩ := h
    have nd := sc__law_tree.nd
    have hu := hu_of hr
    refine ⟨_, PSs.nox (pss_cons (ps_set (i := 1) nd rfl (Or.inl rfl) (pe_cal cSz hr (pa_cons (pv 0) (pa_cons pe_int (pa_cons pe_int pa_nil)))))
      (pss_cons (ps_set (i := 2) nd rfl (Or.inl rfl) (pe_callTy call_tupS rfl T.tuple b_tuple (pa_cons (pe_lc (own := [("_law_size", 8)]) (g := gName 8) (tt := tYes) (te := (tCall spDraw [] E0 (tCons (tVar 0) (tCons (tVar 8) tNil)))) rfl nd (pi_tup (pv 1)) (blkOk_by (N := ["_law_box", "_law_sizes_here", "_law_filling", "_law_root", "_law_links", "_law_target", "_law_source", "_law_table_here", "_law_size"]) (sc := defScope s_law_tree) (by decide +kernel)) (fun _ _ _ _ _ => (pg_name (i := 8) nd rfl (Or.inl rfl))) (fun _ _ _ _ _ => pts_nil) (fun _ _ _ _ _ => (pe_cal cDr hr (pa_cons (pv 0) (pa_cons (pv 8) pa_nil))))) pa_nil)))
      (pss_cons (ps_par (i := 3) (j := 4) rfl nd rfl rfl (by decide) rfl rfl (pa_cons (pe_cal cDr hr (pa_cons (pv 0) (pa_cons (pe_callB call_lenS rfl T.len b_len (pa_cons (pv 1) pa_nil)) pa_nil))) (pa_cons (pe_lst pa_nil) pa_nil)) (by rfl))
      (pss_cons (ps_for PassesOwn.never rfl (pi_range1 rfl T.range (pa_cons (pe_callB call_lenS rfl T.len b_len (pa_cons (pv 1) pa_nil)) pa_nil)) (pg_name (i := 5) nd rfl (Or.inl rfl))
        (pss_cons (ps_set (i := 6) nd rfl (Or.inl rfl) (pe_op op_mod (pe_callTy call_int1 rfl T.int b_int (pa_cons (pe_op op_add (pe_op op_add (pv 5) pe_int) (pe_cal cDr hr (pa_cons (pv 0) (pa_cons (pe_callB (call_max2 rfl) rfl T.max b_max (pa_cons pe_int (pa_cons (pe_op op_sub (pe_callB call_lenS rfl T.len b_len (pa_cons (pv 1) pa_nil)) pe_int) pa_nil))) pa_nil)))) pa_nil)) (pe_callB call_lenS rfl T.len b_len (pa_cons (pv 1) pa_nil))))
        (pss_one (ps_if (PW.pt (pw_and (pt_cmpR op_ne (pv 5) (pv 3) (nomark _)) (pw_and1 (pt_cmpR op_gt (pe_cal cDr hr (pa_cons (pv 0) (pa_cons pe_int pa_nil))) pe_int (nomark _))))) (pss_cons (ps_set (i := 7) nd rfl (Or.inl rfl) (pe_callTy call_list_of rfl T.list b_list (pa_cons (pe_cal cTb hr (pa_cons (pv 0) (pa_cons (pe_ix ix_tup (pv 1) (pv 6) (fun _ _ => rfl)) (pa_cons (pe_ix ix_tup (pv 1) (pv 5) (fun _ _ => rfl)) pa_nil)))) pa_nil)))
          (pss_cons (ps_asg (pe_cal cOne hr (pa_cons (pv 0) (pa_cons (pe_lst (pa_cons pe_non (pa_cons (pe_ix ix_tup (pv 2) (pv 5) (fun _ _ => rfl)) (pa_cons (pe_ix ix_tup (pv 2) (pv 5) (fun _ _ => rfl)) pa_nil)))) pa_nil))) (pg_sub (pv 7) (pe_ix ix_tup (pv 2) (pv 6) (fun _ _ => rfl)) set_list))
          (pss_one (ps_expr (pe_bm PySem.F.plainAttrs_list PySem.F.slot_list_append PySem.F.type_list_append mt_append (pv 4) (pa_cons (pe_tup (pa_cons (pv 6) (pa_cons (pv 5) (pa_cons (pe_callTy call_tupS rfl T.tuple b_tuple (pa_cons (pv 7) pa_nil)) (pa_cons pe_int pa_nil))))) pa_nil)))))) pss_nil))))
      (pss_cons (ps_if (pt_cmpR op_eq (pe_cal cDr hr (pa_cons (pv 0) (pa_cons pe_int pa_nil))) pe_int (nomark _)) (pss_one (ps_expr (pe_bm0 PySem.F.plainAttrs_list PySem.F.slot_list_reverse PySem.F.type_list_reverse mt_reverse (pv 4)))) pss_nil)
      (pss_one (ps_ret (pe_tup (pa_cons (pe_tup (pa_cons (pv 1) (pa_cons (pe_callTy call_tupS rfl T.tuple b_tuple (pa_cons (pv 4) pa_nil)) pa_nil))) (pa_cons (pv 2) (pa_cons (pv 3) pa_nil))))))))))), ?_⟩
    refine ⟨_, rfl, b, g, q, rfl, B, fun sA H1 szs k1 B1 hs1 n1 n4 sz => ?_⟩
    -- the filling
    refine ⟨_, rfl, sA, rfl, ⟨_, SqT.of hs1⟩, fun D hD => ?_⟩
    have nD := B1.new hD
    refine lc_tup (K := K) (a := sA) (xs := szs.map nV) (fun i H4 => Keep b g H1 H4 ∧ Box H4 b g q ∧ ∃ ys : List Nat, H4 D = some (.lst (ys.map nV)) ∧ ys.length = i ∧ ∀ j, j < i → at0 ys j < at0 szs j)
      ⟨keep_of (same_upd hD), B1.put nD, [], upd_same, rfl, fun j h => by omega⟩ (fun i H4 _ ⟨k4, B4, _⟩ => SqT.of ((k4.tups B1) _ _ hs1)) ?_ ?_
    · rintro i x H4 hx ⟨k4, B4, ys, e4, l4, a4⟩
      obtain ⟨hi, rfl⟩ := nV_get hx
      have h26 := sizes_at sz hi
      refine ⟨rfl, qY ⟨_, rfl, _, rfl, b, g, q, at0 szs i, rfl, B4, by omega, by omega, fun d H5 hd k5 B5 => ?_⟩⟩
      refine ⟨_, k5 D _ e4 nD.1 nD.2.1, small1000 (by rw [List.length_map]; omega), (k4.trans k5).put hD, B5.put nD, ys ++ [d], ?_, by rw [List.length_append, l4]; rfl, fun j hj => ?_⟩
      · rw [upd_same, List.map_append]
        rfl
      · by_cases h : j < i
        · have e : at0 (ys ++ [d]) j = at0 ys j := by
            unfold at0
            rw [List.getD_eq_getElem?_getD, List.getD_eq_getElem?_getD, List.getElem?_append_left (by omega)]
          rw [e]
          exact a4 j h
        · have ej : j = i := by omega
          subst ej
          have e : at0 (ys ++ [d]) j = d := at0_of (by rw [← l4, List.getElem?_append_right (Nat.le_refl _), Nat.sub_self]; rfl)
          rw [e]
          exact hd
    rintro H2 ⟨k2, B2, xs, e2, l2, a2⟩
    rw [List.length_map] at l2 a2
    refine ⟨D, _, rfl, .inl ⟨SqL.of e2, fun xA hxA => ?_⟩⟩
    have hs2 : NsAt H2 sA szs := hs1.on (k2.tups B1)
    have sx := same_upd (o := .tup (xs.map nV)) hxA
    have hs3 := hs2.on (tups_of sx)
    have hx3 : NsAt (upd H2 xA (.tup (xs.map nV))) xA xs := upd_same
    have k3 : Keep b g H (upd H2 xA (.tup (xs.map nV))) := (k1.trans k2).trans (keep_of sx)
    have B3 := B2.on sx
    generalize upd H2 xA (.tup (xs.map nV)) = H3 at hs3 hx3 k3 B3 ⊢
    -- the root, the list of links
    refine ⟨_, rfl, _, rfl, sA, _, rfl, .inr (SqT.of hs3), b, g, q, szs.length, ?_, B3, by omega, by omega, fun r H4 hr k4 B4 => ?_⟩
    · show [V.ref b, V.int ((szs.map nV).length : Nat)] = _
      rw [List.length_map]
    refine ⟨by show 0 ≤ sizeLine; decide, fun lA hlA => ⟨_, _, rfl, ?_⟩⟩
    have nl := B4.new hlA
    have h0l : H lA = none := by
      cases e : H lA with
      | none => rfl
      | some o => rw [(k3.trans k4) lA o e nl.1 nl.2.1] at hlA; cases hlA
    have M0 : Mid H (upd H4 lA (.lst [])) b g q sA xA lA szs xs [] := by
      have t := k4.tups B3
      have s := same_upd (o := .lst []) hlA
      exact ⟨(k3.trans k4).trans (keep_of s), B4.on s, (hs3.on t).on (tups_of s), (hx3.on t).on (tups_of s), upd_same, fun _ h => by cases h⟩
    generalize upd H4 lA (.lst []) = H5 at M0 ⊢
    -- what is behind the loop
    have fin : ∀ (ps : List (V × Lnk)) (v5 v6 v7 : Option V) (H6 : Hp), Mid H H6 b g q sA xA lA szs xs ps → Fine szs xs r szs.length (ps.map (·.2)) →
        tTup (tCons (tTup (tCons (tVar 1) (tCons (tCB (rTupOf K) (tCons (tVar 4) tNil)) tNil))) (tCons (tVar 2) (tCons (tVar 3) tNil))) [some (.ref b), some (.ref sA), some (.ref xA), some (nV r), some (.ref lA), v5, v6, v7, none] H6 Q := fun ps v5 v6 v7 H6 M6 fi => by
      refine ⟨_, rfl, _, rfl, lA, _, rfl, .inl ⟨SqL.of M6.hl, fun u hu => ⟨by show 2 ≤ sizeLine; decide, fun fA hfA => ⟨_, rfl, _, rfl, by show 3 ≤ sizeLine; decide, fun p hp => ?_⟩⟩⟩⟩
      have s1 := same_upd (o := .tup (ps.map (·.1))) hu
      have s2 := same_upd (o := .tup [.ref sA, .ref u]) hfA
      have s3 := same_upd (o := .tup [.ref fA, .ref xA, nV r]) hp
      have M := M6.same (s1.trans (s2.trans s3))
      obtain ⟨tr, lo⟩ := fi.tree n1 n4 sz hr
      refine kq p fA xA ⟨szs, ps.map (·.2)⟩ xs r _ M.keep M.box upd_same ⟨sA, u, ps.map (·.1), s3 _ _ upd_same, M.hs, s3 _ _ (s2 _ _ upd_same), ?_, fun k hk => ?_⟩ M.hx tr ⟨l2, fun i hi => a2 i hi⟩ lo
      · show (ps.map (·.1)).length = (ps.map (·.2)).length
        rw [List.length_map, List.length_map]
      · have hk' : k < ps.length := by
          have h : k < (ps.map (·.2)).length := hk
          rw [List.length_map] at h
          exact h
        have ek : ps[k]? = some ps[k] := List.getElem?_eq_getElem hk'
        have el : lk ⟨szs, ps.map (·.2)⟩ k = ps[k].2 := lk_of (show (ps.map (·.2))[k]? = some ps[k].2 by rw [List.getElem?_map, ek]; rfl)
        obtain ⟨a, t, h1, h2, h3⟩ := M.la ps[k] (List.getElem_mem hk')
        refine ⟨a, t, ?_, by rw [el]; exact h2, by rw [el]; exact h3⟩
        rw [List.getElem?_map, ek]
        exact congrArg some h1
    refine ⟨_, rfl, sA, _, rfl, .inr (SqT.of M0.hs), _, rfl, by omega, by rw [List.length_map]; omega, ?_⟩
    refine for_range (lo := 0) (n := (((szs.map nV).length : Int)).toNat) (fun t σ H6 => ∃ (ps : List (V × Lnk)) (v5 v6 v7 : Option V), σ = [some (.ref b), some (.ref sA), some (.ref xA), some (nV r), some (.ref lA), v5, v6, v7, none] ∧ Mid H H6 b g q sA xA lA szs xs ps ∧ Fine szs xs r t (ps.map (·.2)) ∧ ps.length ≤ t)
      ⟨[], none, none, none, rfl, M0, ⟨fun _ h => (by cases h), List.nodup_nil⟩, Nat.le_refl _⟩ ?_ ?_
    · rintro t σ H6 ht ⟨ps, v5, v6, v7, rfl, M6, fi, lp⟩
      have ht : t < szs.length := by
        rw [List.length_map] at ht
        exact ht
      rw [Int.zero_add]
      obtain ⟨m, hm, m0, m4⟩ : ∃ m : Nat, (if ((szs.length : Int) - 1) > 1 then (szs.length : Int) - 1 else 1) = (m : Int) ∧ 0 < m ∧ (2 ≤ szs.length → m = szs.length - 1) := by
        by_cases h : ((szs.length : Int) - 1) > 1
        · rw [if_pos h]
          exact ⟨szs.length - 1, by omega, by omega, fun _ => rfl⟩
        · rw [if_neg h]
          exact ⟨1, rfl, by omega, fun _ => by omega⟩
      have m5 : m ≤ 1000 := by
        by_cases h : 2 ≤ szs.length
        · have := m4 h
          omega
        · have e : szs.length = 1 := by omega
          rw [e] at hm
          have : (if ((1 : Nat) : Int) - 1 > 1 then ((1 : Nat) : Int) - 1 else 1) = (1 : Int) := by decide
          omega
      refine ⟨_, rfl, _, _, rfl, rfl, _, rfl, _, rfl, sA, _, rfl, .inr (SqT.of M6.hs), _, _, rfl, rfl, _, _, rfl, ?_⟩
      dsimp only
      rw [List.length_map, hm]
      refine ⟨b, g, q, m, rfl, M6.box, m0, m5, fun d H7 hd k7 B7 => ⟨_, _, rfl, rfl, .inl ⟨_, rfl, ?_⟩⟩⟩
      have M7 := M6.on nl k7 B7
      refine ⟨_, rfl, sA, _, rfl, .inr (SqT.of M7.hs), _, _, rfl, rfl, by rw [List.length_map]; omega, ?_⟩
      dsimp only
      rw [List.length_map]
      obtain ⟨s, hs, hsn⟩ := mod_nat ((t : Int) + 1 + (d : Int)) (show 0 < szs.length by omega)
      rw [hs]
      refine ⟨_, rfl, _, rfl, rfl, _, rfl, ?_⟩
      dsimp only
      rw [dec_nV]
      by_cases c : t = r
      · rw [decide_eq_true c]
        exact iteF (iteF ⟨ps, _, _, _, rfl, M7, fi.next, by omega⟩)
      rw [decide_eq_false c]
      have st : s ≠ t := by
        have n2 : 2 ≤ szs.length := by omega
        have hd' : d < szs.length - 1 := by
          have := m4 n2
          omega
        have e : ((t + 1 + d) % szs.length : Nat) = s := by
          have h : (((t + 1 + d) % szs.length : Nat) : Int) = (s : Int) := by
            rw [← hs]
            rfl
          exact Int.ofNat.inj h
        rw [← e]
        exact src_ne ht hd'
      refine iteT ?_
      refine ⟨_, rfl, b, g, q, 5, rfl, B7, by omega, by omega, fun d2 H8 hd2 k8 B8 => ⟨_, _, rfl, rfl, _, rfl, ?_⟩⟩
      have M8 := M7.on nl k8 B8
      refine ite2 (fun c2 => ?_) (fun c2 => ?_)
      rotate_left
      · exact ⟨ps, _, _, _, rfl, M8, fi.next, by omega⟩
      -- a link
      have zs := sizes_at sz hsn
      have zt := sizes_at sz ht
      have xs1 : at0 xs s < at0 szs s := a2 s hsn
      have xt1 : at0 xs t < at0 szs t := a2 t ht
      have hsx : s < xs.length := by omega
      have htx : t < xs.length := by omega
      refine ⟨_, rfl, _, rfl, _, rfl, sA, _, _, _, rfl, rfl, SqT.of M8.hs, at_nV hsn, _, rfl, _, rfl, sA, _, _, _, rfl, rfl, SqT.of M8.hs, at_nV ht, b, g, q, at0 szs s, at0 szs t, rfl, B8, zs.1, zs.2, zt.1, zt.2, fun tt H9 tab k9 B9 htt ltab vtab => ?_⟩
      have M9 := M8.on nl k9 B9
      refine ⟨tt, _, rfl, .inr (SqT.of htt), fun tl htl => ?_⟩
      have ntl := B9.new htl
      have stl := same_upd (o := .lst (tab.map oV)) htl
      have M10 := M9.same stl
      have e10 : upd H9 tl (.lst (tab.map oV)) tl = some (.lst (tab.map oV)) := upd_same
      have lAtl : lA ≠ tl := ne_of_none M9.hl htl
      generalize upd H9 tl (.lst (tab.map oV)) = H10 at M10 e10 ⊢
      refine ⟨_, rfl, _, rfl, _, rfl, xA, _, _, _, rfl, rfl, SqT.of M10.hx, at_nV htx, _, rfl, _, rfl, xA, _, _, _, rfl, rfl, SqT.of M10.hx, at_nV htx, by show 3 ≤ sizeLine; decide, fun ol hol => ?_⟩
      have nol := M10.box.new hol
      have sol := same_upd (o := .lst [.non, nV (at0 xs t), nV (at0 xs t)]) hol
      have M11 := M10.same sol
      refine ⟨b, g, q, ol, _, rfl, M11.box, .inl upd_same, nol.2.1, by simp, by show 3 ≤ 1000; omega, fun y H12 hy k12 B12 => ?_⟩
      have M12 := M11.on nl k12 B12
      have e12 := k12 tl _ (sol _ _ e10) ntl.1 ntl.2.1
      obtain ⟨o, rfl, ho⟩ : ∃ o : Option Nat, y = oV o ∧ (o = none ∨ o = some (at0 xs t)) := by
        rcases List.mem_cons.mp hy with rfl | hy
        · exact ⟨none, rfl, .inl rfl⟩
        · rcases List.mem_cons.mp hy with rfl | hy
          · exact ⟨some (at0 xs t), rfl, .inr rfl⟩
          · rw [List.mem_singleton.mp hy]
            exact ⟨some (at0 xs t), rfl, .inr rfl⟩
      have hj : at0 xs s < tab.length := by omega
      refine ⟨_, rfl, _, rfl, _, rfl, xA, _, _, _, rfl, rfl, SqT.of M12.hx, at_nV hsx, tl, _, _, at0 xs s, rfl, rfl, e12, ixN_at (by rw [List.length_map]; exact hj), ?_⟩
      have eset : (tab.map oV).set (at0 xs s) (oV o) = (tab.set (at0 xs s) o).map oV := by rw [List.map_set]
      rw [eset]
      have h0tl : H tl = none := by
        cases e : H tl with
        | none => rfl
        | some o => rw [M9.keep tl o e ntl.1 ntl.2.1] at htl; cases htl
      have M13 : Mid H (upd H12 tl (.lst ((tab.set (at0 xs s) o).map oV))) b g q sA xA lA szs xs ps := by
        have t := tups_lst (ys := (tab.set (at0 xs s) o).map oV) e12
        exact ⟨M12.keep.put h0tl, M12.box.put ntl, M12.hs.on t, M12.hx.on t, by rw [upd_ne lAtl]; exact M12.hl, fun p hp => (M12.la p hp).on t⟩
      have e13 : upd H12 tl (.lst ((tab.set (at0 xs s) o).map oV)) tl = some (.lst ((tab.set (at0 xs s) o).map oV)) := upd_same
      generalize upd H12 tl (.lst ((tab.set (at0 xs s) o).map oV)) = H13 at M13 e13 ⊢
      refine ⟨_, rfl, .inl ⟨rfl, _, SqL.of M13.hl⟩, _, rfl, _, rfl, _, rfl, tl, _, rfl, .inl ⟨SqL.of e13, fun ta hta => ⟨by show 4 ≤ sizeLine; decide, fun la hla => ?_⟩⟩⟩
      have sta := same_upd (o := .tup ((tab.set (at0 xs s) o).map oV)) hta
      have sla := same_upd (o := .tup [nV s, nV t, .ref ta, .int 0]) hla
      have M15 := M13.same (sta.trans sla)
      refine ⟨lA, _, _, rfl, rfl, M15.hl, small1000 (by rw [List.length_map]; omega), ?_⟩
      have hL : LAt (upd (upd H13 ta (.tup ((tab.set (at0 xs s) o).map oV))) la (.tup [nV s, nV t, .ref ta, .int 0])) (.ref la) ⟨s, t, tab.set (at0 xs s) o⟩ := ⟨la, ta, rfl, upd_same, sla _ _ upd_same⟩
      have emap : ps.map (·.1) ++ [V.ref la] = (ps ++ [((V.ref la, ⟨s, t, tab.set (at0 xs s) o⟩) : V × Lnk)]).map (·.1) := by rw [List.map_append]; rfl
      rw [emap]
      refine ⟨ps ++ [(V.ref la, ⟨s, t, tab.set (at0 xs s) o⟩)], _, _, _, rfl, M15.lst nl h0l fun p hp => ?_, ?_, by rw [List.length_append]; show ps.length + 1 ≤ t + 1; omega⟩
      · rcases List.mem_append.mp hp with hp | hp
        · exact M15.la p hp
        · rw [List.mem_singleton.mp hp]
          exact hL
      · rw [List.map_append]
        refine fi.add rfl ⟨hsn, st, c, by show (tab.set _ _).length = _; rw [List.length_set]; exact ltab, fun v hv => ?_, ?_⟩
        · rcases List.mem_or_eq_of_mem_set hv with h | h
          · exact vtab v h
          · rcases ho with e | e
            · rw [e] at h; cases h
            · rw [e] at h
              cases h
              exact xt1
        · have ew : wishOf ⟨s, t, tab.set (at0 xs s) o⟩ xs = o := by
            unfold wishOf
            show (tab.set (at0 xs s) o).getD (at0 xs s) none = o
            rw [List.getD_eq_getElem?_getD, List.getElem?_set_self hj]
            rfl
          rcases ho with e | e
          · unfold loudL
            rw [ew, e]
          · exact loud_not (ew.trans e) rfl
    · rintro σ H6 ⟨ps, v5, v6, v7, rfl, M6, fi, lp⟩
      have e : (((szs.map nV).length : Int)).toNat = szs.length := by rw [List.length_map]; rfl
      rw [e] at fi
      refine ⟨_, rfl, b, g, q, 2, rfl, M6.box, by omega, by omega, fun d H7 hd k7 B7 => ⟨rfl, _, rfl, ?_⟩⟩
      have M7 := M6.on nl k7 B7
      refine ite2 (fun _ => ?_) (fun _ => ?_)
      · refine ⟨_, rfl, .inl ⟨rfl, _, SqL.of M7.hl⟩, lA, _, rfl, rfl, M7.hl, ?_⟩
        have er : (ps.map (·.1)).reverse = ps.reverse.map (·.1) := List.map_reverse.symm
        rw [er]
        exact fin ps.reverse _ _ _ _ (M7.lst nl h0l fun p hp => M7.la p (List.mem_reverse.mp hp)) (by rw [List.map_reverse]; exact fi.rev)
      · exact fin ps _ _ _ _ M7 fi
end
end K15
namespace K15
open PySem PySem.Spec PyProof.Rows L2
theorem fm_none (n : Nat) : (List.range n).filterMap (fun _ => (none : Option V)) = [] := by
  induction n with
  | zero => rfl
  | succ n ih => rw [List.range_succ, List.filterMap_append, ih]; rfl
theorem cast_nil {ps : List Nat} : decide (ps.map (fun n : Nat => (n : Int)) = []) = decide (ps = []) := by
  cases ps <;> rfl
section
variable {P : Program} {w : World} {K : PySem.W.Frag} {mg : Str → Option Value} {base : Heap} {f : Addr} {fd : FuncData}
def spLaw (K : PySem.W.Frag) : Sp := fun vs H Q _ => ∃ (a : Addr) (ns : List Int), vs = [.ref a] ∧ SqL K H a (ns.map V.int) ∧ ns.length ≤ 63 ∧ ∀ H', Q (.bl true) H'
theorem sc_law : FnScope ["_law_script", "_law_box", "_law_turn", "_law_form_here", "_law_filling", "_law_root", "_law_moment", "_law_step", "_law_loud", "_law_link_here", "_law_after", "_law_target", "_law_one_here", "_law_other", "_law_k"] ["_law_script"] (defScope slaw) := ⟨rfl, rfl, rfl, by decide +kernel, rfl, by decide +kernel, by decide +kernel⟩
theorem c_law (F : FnP K "law" slaw f fd) (g : mg "law" = some (.ref f)) (T : Bl mg) (cOp : Cal P w K mg base "_law_opened" 1 ["_law_script"] (spOpen K)) (cTr : Cal P w K mg base "_law_tree" 4 ["_law_box"] spTree) (cDr : Cal P w K mg base "_law_draw" 1 ["_law_box", "_law_many"] spDraw) (cOne : Cal P w K mg base "_law_one" 2 ["_law_box", "_law_items"] spOne) (cC : Cal P w K mg base "is_calm" 5 ["form", "filling"] spCalm) (cBe : Cal P w K mg base "begin" 5 ["form", "filling", "edit"] spBegin) (cLL : Cal P w K mg base "loud_links" 4 ["form", "filling"] spLouds) (cIm : Cal P w K mg base "is_moment" 3 ["form", "value"] spIsMo) (cFi : Cal P w K mg base "fire" 4 ["form", "value", "link"] spFire) (cFr : Cal P w K mg base "field_ring" 3 ["form"] spRing) :
    FnOk P w K mg base CX0 6 f fd ["_law_script"] (spLaw K) := by
  refine F.ok sc_law (fun vs H Q E h => ?_) (fun cdv A outer s H vs Q E hr h => ?_)
  · obtain ⟨_, _, rfl, _⟩ := h
    rfl
  · obtain ⟨a, ns, rfl, hS, few, kq⟩ := h
    have nd := sc_law.nd
    have hu := hu_of hr
    refine ⟨_, PSs.nox (pss_cons (ps_set (i := 1) nd rfl (Or.inl rfl) (pe_cal cOp hr (pa_cons (pv 0) pa_nil)))
      (pss_cons (ps_for PassesOwn.never rfl (pi_range1 rfl T.range (pa_cons pe_int pa_nil)) (pg_name (i := 2) nd rfl (Or.inl rfl))
        (pss_cons (ps_asg (pe_cal cTr hr (pa_cons (pv 1) pa_nil)) (pg_tup rfl (pgs_cons (pg_name (i := 3) nd rfl (Or.inl rfl)) (pgs_cons (pg_name (i := 4) nd rfl (Or.inl rfl)) (pgs_cons (pg_name (i := 5) nd rfl (Or.inl rfl)) pgs_nil)))))
        (pss_cons (ps_if (pt_cmpR op_notBl (pe_cal cC hr (pa_cons (pv 3) (pa_cons (pv 4) pa_nil))) pe_bl (nomark _)) (pss_one (ps_ret pe_bl)) pss_nil)
        (pss_cons (ps_set (i := 6) nd rfl (Or.inr rfl) (pe_cal cBe hr (pa_cons (pv 3) (pa_cons (pv 4) (pa_cons (pe_tup (pa_cons (pv 5) (pa_cons (pe_cal cDr hr (pa_cons (pv 1) (pa_cons (pe_ix ix_tup (pe_ix ix_tup (pv 3) pe_int (fun _ _ => rfl)) (pv 5) (fun _ _ => rfl)) pa_nil))) pa_nil))) pa_nil)))))
        (pss_cons (ps_for PassesOwn.never rfl (pi_range1 rfl T.range (pa_cons pe_int pa_nil)) (pg_name (i := 7) nd rfl (Or.inl rfl))
          (pss_cons (ps_set (i := 8) nd rfl (Or.inl rfl) (pe_cal cLL hr (pa_cons (pv 3) (pa_cons (pe_ix ix_tup (pv 6) pe_int (fun _ _ => rfl)) pa_nil))))
          (pss_cons (ps_if (PW.pt (pw_or (pt_not (pt_val (pe_cal cIm hr (pa_cons (pv 3) (pa_cons (pv 6) pa_nil))))) (pw_or1 (pt_cmpR (op_neD hr.units) (pe_lc (own := [("_law_k", 14)]) (g := gName 14) (tt := (tTest (tOp (rIn _ true) (tVar 14) (tOp (rIxT _) (tVar 6) (tC (.int 2)))))) (te := (tVar 14)) rfl nd (pi_tup (pv 8)) (blkOk_by (N := ["_law_script", "_law_box", "_law_turn", "_law_form_here", "_law_filling", "_law_root", "_law_moment", "_law_step", "_law_loud", "_law_link_here", "_law_after", "_law_target", "_law_one_here", "_law_other", "_law_k"]) (sc := defScope slaw) (by decide +kernel)) (fun _ _ _ _ _ => (pg_name (i := 14) nd rfl (Or.inl rfl))) (fun _ _ _ _ _ => pts_one (pt_cmpR op_notIn_seq (pv 14) (pe_ix ix_tup (pv 6) pe_int (fun _ _ => rfl)) rfl)) (fun _ _ _ _ _ => (pv 14))) (pe_lst pa_nil) (nomark _))))) (pss_one (ps_ret pe_bl)) pss_nil)
          (pss_one (ps_if (pt_cmpR (op_neD hr.units) (pe_ix ix_tup (pv 6) pe_int (fun _ _ => rfl)) (pe_tup pa_nil) (nomark _)) (pss_cons (ps_set (i := 9) nd rfl (Or.inl rfl) (pe_cal cOne hr (pa_cons (pv 1) (pa_cons (pe_ix ix_tup (pv 6) pe_int (fun _ _ => rfl)) pa_nil))))
            (pss_cons (ps_par (i := 10) (j := 11) rfl nd rfl rfl (by decide) rfl rfl (pa_cons (pe_cal cFi hr (pa_cons (pv 3) (pa_cons (pv 6) (pa_cons (pv 9) pa_nil)))) (pa_cons (pe_ix ix_tup (pe_ix ix_tup (pe_ix ix_tup (pv 3) pe_int (fun _ _ => rfl)) (pv 9) (fun _ _ => rfl)) pe_int (fun _ _ => rfl)) pa_nil)) (by rfl))
            (pss_cons (ps_par (i := 12) (j := 13) rfl nd rfl rfl (by decide) rfl rfl (pa_cons (pe_callTy call_list_of rfl T.list b_list (pa_cons (pe_ix ix_tup (pv 6) pe_int (fun _ _ => rfl)) pa_nil)) (pa_cons (pe_callTy call_list_of rfl T.list b_list (pa_cons (pe_ix ix_tup (pv 10) pe_int (fun _ _ => rfl)) pa_nil)) pa_nil)) (by rfl))
            (pss_cons (ps_asg (pe_tup (pa_cons pe_int (pa_cons pe_int pa_nil))) (pg_tup rfl (pgs_cons (pg_sub (pv 12) (pv 11) set_list) (pgs_cons (pg_sub (pv 13) (pv 11) set_list) pgs_nil))))
            (pss_cons (ps_if (PW.pt (pw_or (pt_cmpR (op_neD hr.units) (pv 12) (pv 13) (nomark _)) (pw_or (pt_cmpR op_ne (pe_ix ix_tup (pv 10) pe_int (fun _ _ => rfl)) (pe_ix ix_tup (pv 6) pe_int (fun _ _ => rfl)) (nomark _)) (pw_or1 (pt_cmpR (op_neD hr.units) (pe_ix ix_tup (pv 10) pe_int (fun _ _ => rfl)) (pe_tup pa_nil) (nomark _)))))) (pss_one (ps_ret pe_bl)) pss_nil)
            (pss_one (ps_set (i := 6) nd rfl (Or.inr rfl) (pv 10)))))))) pss_nil)))))
        (pss_cons (ps_if (PW.pt (pw_and (pt_cmpR (op_eqD hr.units) (pe_ix ix_tup (pv 6) pe_int (fun _ _ => rfl)) (pe_tup pa_nil) (nomark _)) (pw_and1 (pt_not (pt_val (pe_cal cC hr (pa_cons (pv 3) (pa_cons (pe_ix ix_tup (pv 6) pe_int (fun _ _ => rfl)) pa_nil)))))))) (pss_one (ps_ret pe_bl)) pss_nil)
        (pss_one (ps_if (PW.pt (pw_and (pt_cmpR op_eq (pe_ix ix_tup (pe_cal cFr hr (pa_cons (pv 3) pa_nil)) pe_int (fun _ _ => rfl)) pe_str (nomark _)) (pw_and1 (pt_cmpR (op_neD hr.units) (pe_ix ix_tup (pv 6) pe_int (fun _ _ => rfl)) (pe_tup pa_nil) (nomark _))))) (pss_one (ps_ret pe_bl)) pss_nil))))))))
      (pss_one (ps_ret pe_bl)))), ?_⟩
    refine ⟨_, rfl, a, ns, rfl, hS, few, fun b g q H1 s1 B1 => ?_⟩
    refine ⟨12, rfl, by decide, by decide, for_range (lo := 0) (n := 12) (fun _ σ H2 => ∃ v2 v3 v4 v5 v6 v7 v8 v9 v10 v11 v12 v13 : Option V, σ = [some (.ref a), some (.ref b), v2, v3, v4, v5, v6, v7, v8, v9, v10, v11, v12, v13, none] ∧ Box H2 b g q)
      ⟨none, none, none, none, none, none, none, none, none, none, none, none, rfl, B1⟩ ?_ ?_⟩
    rotate_left
    · rintro σ H2 ⟨v2, v3, v4, v5, v6, v7, v8, v9, v10, v11, v12, v13, rfl, B2⟩
      exact kq H2
    rintro turn σ H2 _ ⟨v2, v3, v4, v5, v6, v7, v8, v9, v10, v11, v12, v13, rfl, B2⟩
    refine ⟨_, rfl, b, g, q, rfl, B2, fun p fA xA F xs r H3 k3 B3 hp hA hx tr fi lo => ⟨p, _, rfl, SqT.of hp, rfl, _, _, rfl, _, _, rfl, _, _, rfl, rfl, ?_⟩⟩
    have G := tr.good
    have hrn := tr.root
    have m4 := G.m4
    -- the filling is calm
    refine ⟨_, rfl, _, rfl, fA, xA, F, xs, rfl, hA, hx, G, fi, fun H4 s4 => ⟨_, _, rfl, rfl, _, rfl, iteNS (decide_eq_true lo) ?_⟩⟩
    have t4 := tups_of s4
    -- the run begins
    refine ⟨_, rfl, _, rfl, _, rfl, _, rfl, q_sizes (hA.on t4) rfl fun s hs => ⟨_, rfl, s, _, _, _, rfl, rfl, SqT.of hs, at_nV hrn, b, g, q, at0 F.sizes r, rfl, B3.on s4, by have := (G.sz r hrn).1; omega, by have := (G.sz r hrn).2; omega, fun v H5 hv k5 B5 => ?_⟩⟩
    have t5 := k5.tups (B3.on s4)
    refine ⟨by show 2 ≤ sizeLine; decide, fun e he => ?_⟩
    have se := same_upd (o := .tup [nV r, nV v]) he
    have A5 := ((hA.on t4).on t5).on (tups_of se)
    have X5 := ((hx.on t4).on t5).on (tups_of se)
    refine ⟨fA, xA, e, F, xs, r, v, rfl, A5, X5, upd_same, G, fi, hrn, hv, fun H6 mo s6 hm6 => ?_⟩
    have B6 := (B5.on se).on s6
    have A6 := A5.on (tups_of s6)
    have R0 : Run F r (beg F xs r v).1 (beg F xs r v).2 [] := by
      unfold beg
      by_cases c : at0 xs r = v
      · rw [if_pos c]
        exact run_begin_same fi lo
      · rw [if_neg c]
        exact run_begin tr fi lo hv
    generalize (beg F xs r v).1 = ys0 at hm6 R0
    generalize (beg F xs r v).2 = ps0 at hm6 R0
    refine ⟨30, rfl, by decide, by decide, for_range (lo := 0) (n := 30) (fun i σ H7 => ∃ (ms : Addr) (ys ps D : List Nat) (v7 v8 v9 v10 v11 v12 v13 : Option V),
        σ = [some (.ref a), some (.ref b), some (.int (0 + (turn : Int))), some (.ref fA), some (.ref xA), some (nV r), some (.ref ms), v7, v8, v9, v10, v11, v12, v13, none] ∧ Box H7 b g q ∧ FmAt H7 fA F ∧ MoAt H7 ms r ys ps ∧ Run F r ys ps D ∧ (ps = [] ∨ D.length = i))
      ⟨mo, ys0, ps0, [], _, _, _, _, _, _, _, rfl, B6, A6, hm6, R0, .inr rfl⟩ ?_ ?_⟩
    · rintro i σ H7 hi ⟨ms, ys, ps, D, v7, v8, v9, v10, v11, v12, v13, rfl, B7, A7, M7, R7, c7⟩
      obtain ⟨y, pd, sp, hm, hy, hpd, hsp⟩ := M7.ex
      -- the loud links
      refine ⟨_, rfl, _, rfl, ms, _, 1, .ref y, rfl, rfl, SqT.of hm, rfl, fA, y, F, ys, rfl, A7, hy, G, R7.fil, fun H8 lp s8 hlp => ?_⟩
      have t8 := tups_of s8
      refine ⟨_, rfl, _, rfl, fA, ms, F, r, ys, ps, rfl, A7.on t8, M7.on t8, G, hrn, R7.fil, R7.asc, R7.lt, fun H9 s9 => ⟨true, rfl, iteF ?_⟩⟩
      have t89 := tups_of (s8.trans s9)
      have hlp9 := hlp.on (tups_of s9)
      have ll : (loud F ys).length ≤ 1000 := by
        have h1 := List.length_filter_le (fun k => loudL (lk F k) ys) (List.range F.m)
        rw [List.length_range] at h1
        have h2 : (loud F ys).length ≤ F.m := h1
        omega
      refine ⟨_, rfl, lp, rfl, ⟨_, SqT.of hlp9⟩, fun D1 hD1 => ?_⟩
      refine lcT (fun _ => none) (by rw [List.length_map]; exact ll) (SqT.of hlp9) hD1 (fun j z H10 hz s10 RR RR0 kR k0 => ?_) fun H10 s10 e10 => ?_
      · obtain ⟨hj, rfl⟩ := nV_get hz
        have t10 := tups_of ((s8.trans s9).trans s10)
        refine ⟨rfl, _, rfl, _, rfl, ms, _, 2, .ref pd, rfl, rfl, SqT.of (t10 _ _ hm), rfl, pd, _, rfl, .inr (SqT.of (t10 _ _ hpd)), rfl, flat_nV ps, _, rfl, ?_⟩
        have hin : at0 (loud F ys) j ∈ ps := R7.whole _ (List.mem_of_getElem? (at0_get hj))
        show (if (!inV (nV (at0 (loud F ys) j)) (ps.map nV)) = true then _ else _)
        rw [in_nV, decide_eq_true hin]
        exact iteF (k0 _ (Same.refl _) rfl)
      rw [fm_none] at e10
      refine ⟨by show 0 ≤ sizeLine; decide, fun e1 he1 => ?_⟩
      have se1 := same_upd (o := .lst []) he1
      refine q_neL (ms := []) (ns := []) (SqL.of (se1 _ _ e10)) (SqL.of upd_same) ⟨_, rfl, iteF ?_⟩
      have s711 := (s8.trans s9).trans (s10.trans se1)
      have B11 := B7.on s711
      have A11 := A7.on (tups_of s711)
      have M11 := M7.on (tups_of s711)
      have hm := s711 _ _ hm
      have hy : NsAt _ y ys := hy.on (tups_of s711)
      have hpd : NsAt _ pd ps := hpd.on (tups_of s711)
      have hsp := s711 _ _ hsp
      generalize upd H10 e1 (.lst []) = H11 at B11 A11 M11 hm hy hpd hsp ⊢
      clear s711 se1 he1 e10 s10 hD1 hlp9 t89 s9 t8 hlp s8
      -- is a link pending?
      refine ⟨_, rfl, ms, _, 2, .ref pd, rfl, rfl, SqT.of hm, rfl, by show 0 ≤ sizeLine; decide, fun e2 he2 => ?_⟩
      have se2 := same_upd (o := .tup []) he2
      have hpd2 := hpd.on (tups_of se2)
      refine q_neT (ms := ps.map fun n : Nat => (n : Int)) (ns := []) (SqT.of (by rw [← map_nV]; exact hpd2)) (SqT.of upd_same) ⟨_, rfl, ?_⟩
      rw [cast_nil]
      have B12 := B11.on se2
      have A12 := A11.on (tups_of se2)
      have M12 := M11.on (tups_of se2)
      have hm := se2 _ _ hm
      have hy : NsAt _ y ys := hy.on (tups_of se2)
      have hsp := se2 _ _ hsp
      generalize upd H11 e2 (.tup []) = H12 at B12 A12 M12 hm hy hpd2 hsp ⊢
      clear hpd se2 he2 M11 A11 B11
      by_cases hps : ps = []
      · rw [decide_eq_true hps]
        exact iteF ⟨ms, ys, ps, D, _, _, _, _, _, _, _, rfl, B12, A12, M12, R7, .inl hps⟩
      rw [decide_eq_false hps]
      refine iteT ?_
      have hD : D.length = i := c7.resolve_left hps
      have lps := asc_len R7.asc R7.lt
      -- one of them fires
      refine ⟨_, rfl, _, rfl, ms, _, 2, .ref pd, rfl, rfl, SqT.of hm, rfl, b, g, q, pd, ps.map nV, rfl, B12, .inr hpd2, (B12.tup hpd2).2.1, fun z => hps (List.map_eq_nil_iff.mp z), by rw [List.length_map]; omega, fun x H13 hx13 k13 B13 => ?_⟩
      obtain ⟨k, hk, rfl⟩ := List.mem_map.mp hx13
      have t13 := k13.tups B12
      have A13 := A12.on t13
      have hkm := R7.lt k hk
      refine ⟨_, rfl, _, rfl, _, rfl, fA, ms, F, r, ys, ps, k, rfl, A13, M12.on t13, G, hrn, R7.fil, R7.asc, R7.lt, hk, fun H14 am ys' ps' s14 aft ma => ?_⟩
      obtain ⟨R14, hset⟩ := run_step tr R7 hk aft
      have t14 := tups_of s14
      have A14 := A13.on t14
      refine q_part 1 A14 hkm rfl rfl (fun t => rfl) ⟨_, _, rfl, ?_⟩
      obtain ⟨y', pd', sp', hm', hy', hpd', hsp'⟩ := ma.ex
      have hm := t14 _ _ (t13 _ _ hm)
      have hy : NsAt H14 y ys := (hy.on t13).on t14
      have B14 := B13.on s14
      -- nothing but its target has changed
      refine ⟨_, rfl, ms, _, 1, .ref y, rfl, rfl, SqT.of hm, rfl, y, _, rfl, .inr (SqT.of hy), fun l1 hl1 => ?_⟩
      have sl1 := same_upd (o := .lst (ys.map nV)) hl1
      refine ⟨_, rfl, am, _, 1, .ref y', rfl, rfl, SqT.of (sl1 _ _ hm'), rfl, y', _, rfl, .inr (SqT.of (sl1 _ _ hy')), fun l2 hl2 => ⟨_, _, rfl, ?_⟩⟩
      have sl2 := same_upd (o := .lst (ys'.map nV)) hl2
      have l12 : l1 ≠ l2 := ne_of_none (upd_same (H := H14) (a := l1) (o := .lst (ys.map nV))) hl2
      refine ⟨by show 2 ≤ sizeLine; decide, fun z hz => ?_⟩
      have sz := same_upd (o := .tup [.int 0, .int 0]) hz
      have tgn := G.tgt k hkm
      have s17 := sl1.trans (sl2.trans sz)
      have e1 : upd (upd (upd H14 l1 (.lst (ys.map nV))) l2 (.lst (ys'.map nV))) z (.tup [.int 0, .int 0]) l1 = some (.lst (ys.map nV)) := sz _ _ (sl2 _ _ upd_same)
      have e2 : upd (upd (upd H14 l1 (.lst (ys.map nV))) l2 (.lst (ys'.map nV))) z (.tup [.int 0, .int 0]) l2 = some (.lst (ys'.map nV)) := sz _ _ upd_same
      have ez : upd (upd (upd H14 l1 (.lst (ys.map nV))) l2 (.lst (ys'.map nV))) z (.tup [.int 0, .int 0]) z = some (.tup [.int 0, .int 0]) := upd_same
      have n1 := B14.new hl1
      have n2 := (B14.on sl1).new hl2
      have B17 := B14.on s17
      have A17 := A14.on (tups_of s17)
      have ma17 := ma.on (tups_of s17)
      have hm17 := s17 _ _ hm
      have hm'17 := s17 _ _ hm'
      have hsp'17 := s17 _ _ hsp'
      generalize upd (upd (upd H14 l1 (.lst (ys.map nV))) l2 (.lst (ys'.map nV))) z (.tup [.int 0, .int 0]) = H17 at e1 e2 ez B17 A17 ma17 hm17 hm'17 hsp'17 ⊢
      refine ⟨z, _, rfl, SqT.of ez, rfl, _, _, rfl, _, rfl, _, rfl, l1, _, _, (lk F k).tgt, rfl, rfl, e1, ixN_at (by rw [List.length_map, R7.fil.len]; exact tgn), ?_⟩
      have eset1 : (ys.map nV).set (lk F k).tgt (.int 0) = (ys.set (lk F k).tgt 0).map nV := by rw [List.map_set]; rfl
      rw [eset1]
      have tu1 := tups_lst (ys := (ys.set (lk F k).tgt 0).map nV) e1
      refine ⟨_, _, rfl, _, rfl, _, rfl, l2, _, _, (lk F k).tgt, rfl, rfl, (by rw [upd_ne l12.symm]; exact e2), ixN_at (by rw [List.length_map, R14.fil.len]; exact tgn), rfl, ?_⟩
      have eset2 : (ys'.map nV).set (lk F k).tgt (.int 0) = (ys'.set (lk F k).tgt 0).map nV := by rw [List.map_set]; rfl
      rw [eset2]
      have e2' : upd H17 l1 (.lst ((ys.set (lk F k).tgt 0).map nV)) l2 = some (.lst (ys'.map nV)) := by rw [upd_ne l12.symm]; exact e2
      have tu2 := tups_lst (ys := (ys'.set (lk F k).tgt 0).map nV) e2'
      have B19 := (B17.put (o := .lst ((ys.set (lk F k).tgt 0).map nV)) n1).put (o := .lst ((ys'.set (lk F k).tgt 0).map nV)) n2
      have A19 := (A17.on tu1).on tu2
      have ma19 := (ma17.on tu1).on tu2
      have hm19 := tu2 _ _ (tu1 _ _ hm17)
      have hm'19 := tu2 _ _ (tu1 _ _ hm'17)
      have hsp'19 := tu2 _ _ (tu1 _ _ hsp'17)
      have f1 : upd (upd H17 l1 (.lst ((ys.set (lk F k).tgt 0).map nV))) l2 (.lst ((ys'.set (lk F k).tgt 0).map nV)) l1 = some (.lst ((ys.set (lk F k).tgt 0).map nV)) := by rw [upd_ne l12]; exact upd_same
      have f2 : upd (upd H17 l1 (.lst ((ys.set (lk F k).tgt 0).map nV))) l2 (.lst ((ys'.set (lk F k).tgt 0).map nV)) l2 = some (.lst ((ys'.set (lk F k).tgt 0).map nV)) := upd_same
      generalize upd (upd H17 l1 (.lst ((ys.set (lk F k).tgt 0).map nV))) l2 (.lst ((ys'.set (lk F k).tgt 0).map nV)) = H19 at B19 A19 ma19 hm19 hm'19 hsp'19 f1 f2 ⊢
      refine ⟨_, rfl, _, rfl, ?_⟩
      refine q_neL (ms := (ys.set (lk F k).tgt 0).map fun n : Nat => (n : Int)) (ns := (ys'.set (lk F k).tgt 0).map fun n : Nat => (n : Int)) (SqL.of (by rw [← map_nV]; exact f1)) (SqL.of (by rw [← map_nV]; exact f2)) ⟨_, rfl, ?_⟩
      rw [hset, decide_eq_true rfl]
      refine iteF ?_
      refine ⟨_, rfl, am, _, 0, nV r, rfl, rfl, SqT.of hm'19, rfl, _, rfl, ms, _, 0, nV r, rfl, rfl, SqT.of hm19, rfl, rfl, _, rfl, iteNS rfl ?_⟩
      refine ⟨_, rfl, am, _, 3, .ref sp', rfl, rfl, SqT.of hm'19, rfl, by show 0 ≤ sizeLine; decide, fun e3 he3 => ?_⟩
      have se3 := same_upd (o := .tup []) he3
      refine q_neT (ms := []) (ns := []) (SqT.of (se3 _ _ hsp'19)) (SqT.of upd_same) ⟨_, rfl, iteF ?_⟩
      exact ⟨_, rfl, am, ys', ps', k :: D, _, _, _, _, _, _, _, rfl, B19.on se3, A19.on (tups_of se3), ma19.on (tups_of se3), R14, .inr (by rw [List.length_cons, hD])⟩
    · -- the run is over
      rintro σ H7 ⟨ms, ys, ps, D, v7, v8, v9, v10, v11, v12, v13, rfl, B7, A7, M7, R7, c7⟩
      have hps : ps = [] := by
        rcases c7 with h | h
        · exact h
        · exact run_end R7 (by omega)
      subst hps
      obtain ⟨y, pd, sp, hm, hy, hpd, hsp⟩ := M7.ex
      refine ⟨_, rfl, ms, _, 2, .ref pd, rfl, rfl, SqT.of hm, rfl, by show 0 ≤ sizeLine; decide, fun e1 he1 => ?_⟩
      have se1 := same_upd (o := .tup []) he1
      refine q_eqT (ms := []) (ns := []) (SqT.of (se1 _ _ hpd)) (SqT.of upd_same) ⟨_, rfl, iteT ?_⟩
      have t1 := tups_of se1
      refine ⟨_, rfl, _, rfl, ms, _, 1, .ref y, rfl, rfl, SqT.of (t1 _ _ hm), rfl, fA, y, F, ys, rfl, A7.on t1, hy.on t1, G, R7.fil, fun H8 s8 => ⟨_, rfl, iteN (decide_eq_true (calm_end R7)) ?_⟩⟩
      have s18 := se1.trans s8
      have t18 := tups_of s18
      refine ⟨_, rfl, fA, F, rfl, A7.on t18, G, fun rp z u H9 s9 hrp => ?_⟩
      have s19 := s18.trans s9
      refine ⟨rp, _, 0, .str z, rfl, rfl, SqT.of hrp, rfl, rfl, _, rfl, ?_⟩
      have B9 := B7.on s19
      refine ite2 (fun _ => ?_) (fun _ => ?_)
      · refine ⟨_, rfl, ms, _, 2, .ref pd, rfl, rfl, SqT.of (s19 _ _ hm), rfl, by show 0 ≤ sizeLine; decide, fun e2 he2 => ?_⟩
        have se2 := same_upd (o := .tup []) he2
        refine q_neT (ms := []) (ns := []) (SqT.of (se2 _ _ (s19 _ _ hpd))) (SqT.of upd_same) ⟨_, rfl, iteF ?_⟩
        exact ⟨_, _, _, _, _, _, _, _, _, _, _, _, rfl, B9.on se2⟩
      · exact iteF ⟨_, _, _, _, _, _, _, _, _, _, _, _, rfl, B9⟩
end
end K15
namespace K15
open PySem PySem.Spec PyProof.Rows L2
theorem facts {P : Program} {w : World} {K : PySem.W.Frag} {h : Heap} {mg : Str → Option Value} {f : Addr} (X : K.In h) (G : h.Ns mainGlobals mg) (hfa : mg ("law" : Str) = some (.ref f)) (c : He.SaysD fa fn K) :
    ∃ fd : FuncData, (∀ (s : Shared) (v : Value), BindsTo s fd ⟨[v], []⟩ [("_law_script", v)]) ∧ ∀ base : Heap, K.In base → base.Ns mainGlobals mg → FnOk P w K mg base CX0 6 f fd ["_law_script"] (spLaw K) := by
  obtain ⟨fd_is_integer, F_is_integer⟩ := c.def_ 0 (d := dOf "is_integer" sis_integer) rfl
  have g_is_integer := He.glo_ok X G (c.fact 0 (f := .glo "is_integer") rfl)
  obtain ⟨fd_is_filling, F_is_filling⟩ := c.def_ 1 (d := dOf "is_filling" sis_filling) rfl
  have g_is_filling := He.glo_ok X G (c.fact 1 (f := .glo "is_filling") rfl)
  obtain ⟨fd_is_edit, F_is_edit⟩ := c.def_ 2 (d := dOf "is_edit" sis_edit) rfl
  have g_is_edit := He.glo_ok X G (c.fact 2 (f := .glo "is_edit") rfl)
  obtain ⟨fd_require_filling, F_require_filling⟩ := c.def_ 3 (d := dOf "require_filling" srequire_filling) rfl
  have g_require_filling := He.glo_ok X G (c.fact 3 (f := .glo "require_filling") rfl)
  obtain ⟨fd_wished, F_wished⟩ := c.def_ 4 (d := dOf "wished" swished) rfl
  have g_wished := He.glo_ok X G (c.fact 4 (f := .glo "wished") rfl)
  obtain ⟨fd_is_loud, F_is_loud⟩ := c.def_ 5 (d := dOf "is_loud" sis_loud) rfl
  have g_is_loud := He.glo_ok X G (c.fact 5 (f := .glo "is_loud") rfl)
  obtain ⟨fd_loud_links, F_loud_links⟩ := c.def_ 6 (d := dOf "loud_links" sloud_links) rfl
  have g_loud_links := He.glo_ok X G (c.fact 6 (f := .glo "loud_links") rfl)
  obtain ⟨fd_is_calm, F_is_calm⟩ := c.def_ 7 (d := dOf "is_calm" sis_calm) rfl
  have g_is_calm := He.glo_ok X G (c.fact 7 (f := .glo "is_calm") rfl)
  obtain ⟨fd_is_chain, F_is_chain⟩ := c.def_ 8 (d := dOf "is_chain" sis_chain) rfl
  have g_is_chain := He.glo_ok X G (c.fact 8 (f := .glo "is_chain") rfl)
  obtain ⟨fd_is_round, F_is_round⟩ := c.def_ 9 (d := dOf "is_round" sis_round) rfl
  have g_is_round := He.glo_ok X G (c.fact 9 (f := .glo "is_round") rfl)
  obtain ⟨fd_least_round, F_least_round⟩ := c.def_ 10 (d := dOf "least_round" sleast_round) rfl
  have g_least_round := He.glo_ok X G (c.fact 10 (f := .glo "least_round") rfl)
  obtain ⟨fd_ranks_of, F_ranks_of⟩ := c.def_ 11 (d := dOf "ranks_of" sranks_of) rfl
  have g_ranks_of := He.glo_ok X G (c.fact 11 (f := .glo "ranks_of") rfl)
  obtain ⟨fd_field_ring, F_field_ring⟩ := c.def_ 12 (d := dOf "field_ring" sfield_ring) rfl
  have g_field_ring := He.glo_ok X G (c.fact 12 (f := .glo "field_ring") rfl)
  obtain ⟨fd_is_once, F_is_once⟩ := c.def_ 13 (d := dOf "is_once" sis_once) rfl
  have g_is_once := He.glo_ok X G (c.fact 13 (f := .glo "is_once") rfl)
  obtain ⟨fd_is_shy, F_is_shy⟩ := c.def_ 14 (d := dOf "is_shy" sis_shy) rfl
  have g_is_shy := He.glo_ok X G (c.fact 14 (f := .glo "is_shy") rfl)
  obtain ⟨fd_links_from, F_links_from⟩ := c.def_ 15 (d := dOf "links_from" slinks_from) rfl
  have g_links_from := He.glo_ok X G (c.fact 15 (f := .glo "links_from") rfl)
  obtain ⟨fd_with_value, F_with_value⟩ := c.def_ 16 (d := dOf "with_value" swith_value) rfl
  have g_with_value := He.glo_ok X G (c.fact 16 (f := .glo "with_value") rfl)
  obtain ⟨fd_first_moment, F_first_moment⟩ := c.def_ 17 (d := dOf "first_moment" sfirst_moment) rfl
  have g_first_moment := He.glo_ok X G (c.fact 17 (f := .glo "first_moment") rfl)
  obtain ⟨fd_moment_after, F_moment_after⟩ := c.def_ 18 (d := dOf "moment_after" smoment_after) rfl
  have g_moment_after := He.glo_ok X G (c.fact 18 (f := .glo "moment_after") rfl)
  obtain ⟨fd_are_links, F_are_links⟩ := c.def_ 19 (d := dOf "are_links" sare_links) rfl
  have g_are_links := He.glo_ok X G (c.fact 19 (f := .glo "are_links") rfl)
  obtain ⟨fd_is_moment, F_is_moment⟩ := c.def_ 20 (d := dOf "is_moment" sis_moment) rfl
  have g_is_moment := He.glo_ok X G (c.fact 20 (f := .glo "is_moment") rfl)
  obtain ⟨fd_require_beginning, F_require_beginning⟩ := c.def_ 21 (d := dOf "require_beginning" srequire_beginning) rfl
  have g_require_beginning := He.glo_ok X G (c.fact 21 (f := .glo "require_beginning") rfl)
  obtain ⟨fd_begin, F_begin⟩ := c.def_ 22 (d := dOf "begin" sbegin) rfl
  have g_begin := He.glo_ok X G (c.fact 22 (f := .glo "begin") rfl)
  obtain ⟨fd_is_pending, F_is_pending⟩ := c.def_ 23 (d := dOf "is_pending" sis_pending) rfl
  have g_is_pending := He.glo_ok X G (c.fact 23 (f := .glo "is_pending") rfl)
  obtain ⟨fd_fire, F_fire⟩ := c.def_ 24 (d := dOf "fire" sfire) rfl
  have g_fire := He.glo_ok X G (c.fact 24 (f := .glo "fire") rfl)
  obtain ⟨fd__law_opened, F__law_opened⟩ := c.def_ 25 (d := dOf "_law_opened" s_law_opened) rfl
  have g__law_opened := He.glo_ok X G (c.fact 25 (f := .glo "_law_opened") rfl)
  obtain ⟨fd__law_draw, F__law_draw⟩ := c.def_ 26 (d := dOf "_law_draw" s_law_draw) rfl
  have g__law_draw := He.glo_ok X G (c.fact 26 (f := .glo "_law_draw") rfl)
  obtain ⟨fd__law_one, F__law_one⟩ := c.def_ 27 (d := dOf "_law_one" s_law_one) rfl
  have g__law_one := He.glo_ok X G (c.fact 27 (f := .glo "_law_one") rfl)
  obtain ⟨fd__law_sizes, F__law_sizes⟩ := c.def_ 28 (d := dOf "_law_sizes" s_law_sizes) rfl
  have g__law_sizes := He.glo_ok X G (c.fact 28 (f := .glo "_law_sizes") rfl)
  obtain ⟨fd__law_table, F__law_table⟩ := c.def_ 29 (d := dOf "_law_table" s_law_table) rfl
  have g__law_table := He.glo_ok X G (c.fact 29 (f := .glo "_law_table") rfl)
  obtain ⟨fd__law_tree, F__law_tree⟩ := c.def_ 30 (d := dOf "_law_tree" s_law_tree) rfl
  have g__law_tree := He.glo_ok X G (c.fact 30 (f := .glo "_law_tree") rfl)
  obtain ⟨fd_law, F_law⟩ := c.def_ 31 (d := dOf "law" slaw) rfl
  have T : Bl mg := ⟨He.free_ok X G (c.fact 32 (f := .free "len") rfl), He.free_ok X G (c.fact 33 (f := .free "isinstance") rfl), He.free_ok X G (c.fact 34 (f := .free "int") rfl), He.free_ok X G (c.fact 35 (f := .free "bool") rfl), He.free_ok X G (c.fact 36 (f := .free "tuple") rfl), He.free_ok X G (c.fact 37 (f := .free "all") rfl), He.free_ok X G (c.fact 38 (f := .free "zip") rfl), He.free_ok X G (c.fact 39 (f := .free "range") rfl), He.free_ok X G (c.fact 40 (f := .free "max") rfl), He.free_ok X G (c.fact 41 (f := .free "list") rfl), He.free_ok X G (c.fact 42 (f := .free "sorted") rfl), He.free_ok X G (c.fact 43 (f := .free "set") rfl), He.free_ok X G (c.fact 44 (f := .free "abs") rfl), He.free_ok X G (c.fact 45 (f := .free "min") rfl)⟩
  have e := hfa.symm.trans (He.glo_ok X G (c.fact 31 (f := .glo "law") rfl))
  cases e
  have b := FunD.bindsA (ps := ["_law_script"]) F_law fun _ _ _ _ _ _ us hl => match us, hl with | [_], _ => rfl
  refine ⟨fd_law, fun s v => b s [v] rfl, fun base _ _ => ?_⟩
  have cI := c_is_integer (P := P) (w := w) (base := base) F_is_integer g_is_integer T
  have cF := c_is_filling (P := P) (w := w) (base := base) F_is_filling g_is_filling T cI
  have cE := c_is_edit (P := P) (w := w) (base := base) F_is_edit g_is_edit T cI
  have cR := c_require_filling (P := P) (w := w) (base := base) F_require_filling g_require_filling cF
  have cW := c_wished (P := P) (w := w) (base := base) F_wished g_wished 
  have cL := c_is_loud (P := P) (w := w) (base := base) F_is_loud g_is_loud cW
  have cLL := c_loud_links (P := P) (w := w) (base := base) F_loud_links g_loud_links T cR cL
  have cC := c_is_calm (P := P) (w := w) (base := base) F_is_calm g_is_calm cLL
  have cCh := c_is_chain (P := P) (w := w) (base := base) F_is_chain g_is_chain T
  have cRo := c_is_round (P := P) (w := w) (base := base) F_is_round g_is_round 
  have cLr := c_least_round (P := P) (w := w) (base := base) F_least_round g_least_round T cRo cCh
  have cRk := c_ranks_of (P := P) (w := w) (base := base) F_ranks_of g_ranks_of T
  have cFr := c_field_ring (P := P) (w := w) (base := base) F_field_ring g_field_ring cLr cRk
  have cOn := c_is_once (P := P) (w := w) (base := base) F_is_once g_is_once 
  have cSh := c_is_shy (P := P) (w := w) (base := base) F_is_shy g_is_shy 
  have cLf := c_links_from (P := P) (w := w) (base := base) F_links_from g_links_from T
  have cWv := c_with_value (P := P) (w := w) (base := base) F_with_value g_with_value 
  have cFm := c_first_moment (P := P) (w := w) (base := base) F_first_moment g_first_moment cLf cWv
  have cMa := c_moment_after (P := P) (w := w) (base := base) F_moment_after g_moment_after T cW cOn cSh cLf cWv
  have cAr := c_are_links (P := P) (w := w) (base := base) F_are_links g_are_links T cI
  have cIm := c_is_moment (P := P) (w := w) (base := base) F_is_moment g_is_moment T cI cF cAr cOn
  have cRb := c_require_beginning (P := P) (w := w) (base := base) F_require_beginning g_require_beginning cR cE
  have cBe := c_begin (P := P) (w := w) (base := base) F_begin g_begin cRb cFm
  have cIp := c_is_pending (P := P) (w := w) (base := base) F_is_pending g_is_pending T
  have cFi := c_fire (P := P) (w := w) (base := base) F_fire g_fire cIm cIp cMa
  have cOp := c__law_opened (P := P) (w := w) (base := base) F__law_opened g__law_opened T
  have cDr := c__law_draw (P := P) (w := w) (base := base) F__law_draw g__law_draw T
  have cOne := c__law_one (P := P) (w := w) (base := base) F__law_one g__law_one T cDr
  have cSz := c__law_sizes (P := P) (w := w) (base := base) F__law_sizes g__law_sizes T cDr
  have cTb := c__law_table (P := P) (w := w) (base := base) F__law_table g__law_table T cDr cOne
  have cTr := c__law_tree (P := P) (w := w) (base := base) F__law_tree g__law_tree T cDr cOne cSz cTb
  exact c_law F_law (He.glo_ok X G (c.fact 31 (f := .glo "law") rfl)) T cOp cTr cDr cOne cC cBe cLL cIm cFi cFr
end K15
open PySem PySem.W PySem.Calls PyProof.Rows
theorem PySem.Challenge.cw_echofields_k15_whole_ends_of_trees_are_c_holds : PySem.Challenge.rw_echofields_k15_whole_ends_of_trees_are_c.Holds := by
  w_on; o_law
  refine HandSHeadRun.head_any (r := OpenLaw.row PySem.Challenge.rw_echofields_k15_whole_ends_of_trees_are_c) (q := view (OpenLaw.row PySem.Challenge.rw_echofields_k15_whole_ends_of_trees_are_c).prog [42]) (H := K15.hk) (ob := K15.ob) (M := 6000) (loose := K15.looseN) (d := HandSHeadRun.topDef (OpenLaw.row PySem.Challenge.rw_echofields_k15_whole_ends_of_trees_are_c).prog 42) (kwd := []) K15.ob_eq
    (by kernel_rfl) (fun s => by kernel_rfl) K15.run (by kernel_rfl) (by kernel_rfl) (by kernel_rfl) (by rfl) (by first | assumption | decide +kernel) (by decide +kernel) ⟨rfl, rfl, rfl, rfl, rfl, by decide +kernel⟩ ?hw ?hc
  case hw => w_witness2
  case hc =>
    refine L2.walk_ofE (l := PySem.Challenge.rw_echofields_k15_whole_ends_of_trees_are_c) (n := 63) (k := 6) (x := "_law_script") (CX := L2.CX0) rfl (by decide) (by kernel_rfl) ⟨rfl, by decide, by decide⟩ ?F (fun _ _ _ _ z => z)
    intro w mg fa h Y G hmg0
    obtain ⟨K, KX, c⟩ := Y
    have hmg : mg ("law" : PySem.Str) = some (.ref fa) := by
      have e : (HandSHeadRun.topDef (OpenLaw.row PySem.Challenge.rw_echofields_k15_whole_ends_of_trees_are_c).prog 42).name = ("law" : PySem.Str) := by kernel_rfl
      rw [← e]
      exact hmg0
    obtain ⟨fd, hb, hF⟩ := K15.facts (P := (PySem.Challenge.rw_echofields_k15_whole_ends_of_trees_are_c).prog) (w := w) KX G hmg c
    exact ⟨K, fd, K15.spLaw K, KX, hb, fun H a ns hl _ hS => ⟨a, ns, rfl, hS, hl, fun _ => rfl⟩, hF⟩
