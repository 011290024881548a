import PyProof.Rows.All
import Wide.All
import OpenK.AllK
import Wide.FinOn
import HandS.ForMost
import KE.DataEq
import HandS.TupAny
import HandS.TupMul
import HandS.Style
import HandS.Flow
import HandS.IsInst
import HandS.Deep
import HandS.SetFor
import HandS.More
import HandS.Small
import KE.SortData
import HandS.Conv
import HandS.TupLen
import PyProof.Rows.Chain
import HandS.Zip
import HandS.Rev
import HandS.Strs
import HandS.TupSets
import KE.OsSetLaws
import KE.GoesEnum
import HandS.DictComp
import HandS.TupLe
import KE.DataMinMax
import KE.KDictZip
import KE.GoesZip
import HandS.ListItems
import PySem.Challenge.RW_designweave_k22_whole_directed_terraces
set_option Elab.async false
set_option linter.all false
set_option maxRecDepth 100000
/-! Dw, part A: data, what represents it, the mutable cells. -/
namespace Dw
open PySem PySem.Spec PyProof.Rows L2

inductive D where
  | non | bl (b : Bool) | int (i : Int) | str (x : Str) | tup (xs : List D) | lst (xs : List D) | dct (t : Bool) (ks vs : List D) | frz (xs : List Int)
  deriving Inhabited

abbrev Ev := List (Option D)

mutual
/-- how deep lists and dicts lie in data; 0: it cannot change -/
def mdep : D → Nat
  | .tup xs => match mdeps xs with
    | 0 => 0
    | k + 1 => k + 2
  | .lst xs => mdeps xs + 1
  | .dct _ _ vs => mdeps vs + 1
  | _ => 0
def mdeps : List D → Nat
  | [] => 0
  | d :: ds => max (mdep d) (mdeps ds)
end

theorem mdep_mem : ∀ {ds : List D} {d : D}, d ∈ ds → mdep d ≤ mdeps ds
  | _ :: _, _, h => by
    rcases List.mem_cons.mp h with e | h
    · subst e; exact Nat.le_max_left _ _
    · exact Nat.le_trans (mdep_mem h) (Nat.le_max_right _ _)
theorem mdeps_le {ds : List D} {k : Nat} (h : ∀ d ∈ ds, mdep d ≤ k) : mdeps ds ≤ k := by
  induction ds with
  | nil => exact Nat.zero_le _
  | cons d ds ih => exact Nat.max_le.mpr ⟨h d List.mem_cons_self, ih fun x hx => h x (List.mem_cons_of_mem _ hx)⟩
theorem mdep_tup_le {ds : List D} {k : Nat} (h : mdep (.tup ds) ≤ k) : ∀ d ∈ ds, mdep d ≤ k - 1 := fun d hd => by
  have h1 := mdep_mem hd
  unfold mdep at h
  split at h
  · rename_i e; omega
  · rename_i j e; omega
theorem mdep_lst_le {ds : List D} {k : Nat} (h : mdep (.lst ds) ≤ k) : ∀ d ∈ ds, mdep d ≤ k - 1 := fun d hd => by
  have h1 := mdep_mem hd
  unfold mdep at h
  omega
theorem mdep_dct_le {t : Bool} {ks vs : List D} {k : Nat} (h : mdep (.dct t ks vs) ≤ k) : ∀ d ∈ vs, mdep d ≤ k - 1 := fun d hd => by
  have h1 := mdep_mem hd
  unfold mdep at h
  omega
theorem le_mdep_tup {ds : List D} {k : Nat} (h : ∀ d ∈ ds, mdep d ≤ k) : mdep (.tup ds) ≤ (if k = 0 then 0 else k + 1) := by
  have h1 := mdeps_le h
  unfold mdep
  split
  · exact Nat.zero_le _
  · rename_i j e
    rw [if_neg (by omega)]; omega
theorem le_mdep_lst {ds : List D} {k : Nat} (h : ∀ d ∈ ds, mdep d ≤ k) : mdep (.lst ds) ≤ k + 1 := by
  have h1 := mdeps_le h
  unfold mdep; omega
theorem le_mdep_dct {t : Bool} {ks vs : List D} {k : Nat} (h : ∀ d ∈ vs, mdep d ≤ k) : mdep (.dct t ks vs) ≤ k + 1 := by
  have h1 := mdeps_le h
  unfold mdep; omega

/-- a key of a dict as data -/
def kD : Key → D
  | .inl i => .int i
  | .inr x => .str x

/-- an object that may change -/
def isM : HO → Bool
  | .lst _ => true
  | .dK _ => true
  | .dT _ => true
  | _ => false

/-- a list that is never written: the script -/
def FrL (K : PySem.W.Frag) (H : Hp) (a : Addr) (xs : List Int) : Prop :=
  (∃ o, H a = some (.frz o (.lst (xs.map V.int)))) ∨
    ∃ (o : Obj) (its : Array Value) (n : Nat), K.lookup a = some o ∧ o.cls = .type "list" ∧ o.dict = none ∧ o.data = .seq its n ∧ its.size ≤ sizeLine ∧ Vals (xs.map V.int) its.toList
mutual
/-- v stands for the data d; fp: the cells that may change, in order -/
inductive Rep (K : PySem.W.Frag) (H : Hp) : D → V → List Addr → Prop
  | non : Rep K H .non .non []
  | bl (b : Bool) : Rep K H (.bl b) (.bl b) []
  | int (i : Int) : Rep K H (.int i) (.int i) []
  | str (x : Str) : Rep K H (.str x) (.str x) []
  | tup {a : Addr} {vs : List V} {ds : List D} {fp : List Addr} : H a = some (.tup vs) → Reps K H ds vs fp → Rep K H (.tup ds) (.ref a) fp
  | lst {a : Addr} {vs : List V} {ds : List D} {fp : List Addr} : H a = some (.lst vs) → Reps K H ds vs fp → Rep K H (.lst ds) (.ref a) (a :: fp)
  | frz {a : Addr} {xs : List Int} : FrL K H a xs → Rep K H (.frz xs) (.ref a) []
  | dK {a : Addr} {kvs : List (Key × V)} {ks ds : List D} {fp : List Addr} : H a = some (.dK kvs) → ks = kvs.map (fun p => kD p.1) → Reps K H ds (kvs.map (·.2)) fp → Rep K H (.dct false ks ds) (.ref a) (a :: fp)
  | dT {a : Addr} {kvs : List (List Key × V)} {ks ds : List D} {fp : List Addr} : H a = some (.dT kvs) → ks = kvs.map (fun p => D.tup (p.1.map kD)) → Reps K H ds (kvs.map (·.2)) fp → Rep K H (.dct true ks ds) (.ref a) (a :: fp)
inductive Reps (K : PySem.W.Frag) (H : Hp) : List D → List V → List Addr → Prop
  | nil : Reps K H [] [] []
  | cons {d : D} {v : V} {f : List Addr} {ds : List D} {vs : List V} {g : List Addr} : Rep K H d v f → Reps K H ds vs g → Reps K H (d :: ds) (v :: vs) (f ++ g)
end

section
variable {K : PySem.W.Frag} {H H' : Hp}

theorem Reps.length : ∀ {ds : List D} {vs : List V} {fp : List Addr}, Reps K H ds vs fp → ds.length = vs.length
  | _, _, _, .nil => rfl
  | _, _, _, .cons _ t => by rw [List.length_cons, List.length_cons, Reps.length t]

/-- cells in U, and all that cannot change, are kept -/
def Keep (U : Addr → Prop) (H H' : Hp) : Prop := ∀ a o, H a = some o → (isM o = true → U a) → H' a = some o
theorem Keep.of_same {U : Addr → Prop} (h : Same H H') : Keep U H H' := fun a o e _ => h a o e

theorem FrL.keep {U : Addr → Prop} (k : Keep U H H') {a : Addr} {xs : List Int} (h : FrL K H a xs) : FrL K H' a xs := h.imp (fun ⟨o, e⟩ => ⟨o, k a _ e fun z => nomatch z⟩) id
theorem FrL.sq {a : Addr} {xs : List Int} (h : FrL K H a xs) : SqL K H a (xs.map V.int) := h.elim (fun ⟨o, e⟩ => .inl (.inr ⟨o, e⟩)) .inr
mutual
theorem Rep.keep {U : Addr → Prop} (k : Keep U H H') : ∀ {d : D} {v : V} {fp : List Addr}, Rep K H d v fp → (∀ a ∈ fp, U a) → Rep K H' d v fp
  | _, _, _, .non, _ => .non
  | _, _, _, .bl b, _ => .bl b
  | _, _, _, .int i, _ => .int i
  | _, _, _, .str x, _ => .str x
  | _, _, _, .tup h r, u => .tup (k _ _ h fun z => by cases z) (Reps.keep k r u)
  | _, _, _, .lst h r, u => .lst (k _ _ h fun _ => u _ List.mem_cons_self) (Reps.keep k r fun a ha => u a (List.mem_cons_of_mem _ ha))
  | _, _, _, .frz h, _ => .frz (FrL.keep k h)
  | _, _, _, .dK h e r, u => .dK (k _ _ h fun _ => u _ List.mem_cons_self) e (Reps.keep k r fun a ha => u a (List.mem_cons_of_mem _ ha))
  | _, _, _, .dT h e r, u => .dT (k _ _ h fun _ => u _ List.mem_cons_self) e (Reps.keep k r fun a ha => u a (List.mem_cons_of_mem _ ha))
theorem Reps.keep {U : Addr → Prop} (k : Keep U H H') : ∀ {ds : List D} {vs : List V} {fp : List Addr}, Reps K H ds vs fp → (∀ a ∈ fp, U a) → Reps K H' ds vs fp
  | _, _, _, .nil, _ => .nil
  | _, _, _, .cons h r, u => .cons (Rep.keep k h fun a ha => u a (List.mem_append_left _ ha)) (Reps.keep k r fun a ha => u a (List.mem_append_right _ ha))
end
theorem Rep.same {d : D} {v : V} {fp : List Addr} (h : Same H H') (r : Rep K H d v fp) : Rep K H' d v fp := r.keep (U := fun _ => True) (.of_same h) fun _ _ => trivial
theorem Reps.same {d : List D} {v : List V} {fp : List Addr} (h : Same H H') (r : Reps K H d v fp) : Reps K H' d v fp := r.keep (U := fun _ => True) (.of_same h) fun _ _ => trivial

mutual
/-- the cells stand, and may change -/
theorem Rep.mem : ∀ {d : D} {v : V} {fp : List Addr}, Rep K H d v fp → ∀ a ∈ fp, ∃ o, H a = some o ∧ isM o = true
  | _, _, _, .non, _, h => nomatch h
  | _, _, _, .bl _, _, h => nomatch h
  | _, _, _, .int _, _, h => nomatch h
  | _, _, _, .str _, _, h => nomatch h
  | _, _, _, .frz _, _, h => nomatch h
  | _, _, _, .tup _ r, a, h => Reps.mem r a h
  | _, _, _, .lst e r, a, h => (List.mem_cons.mp h).elim (fun z => ⟨_, z ▸ e, rfl⟩) fun z => Reps.mem r a z
  | _, _, _, .dK e _ r, a, h => (List.mem_cons.mp h).elim (fun z => ⟨_, z ▸ e, rfl⟩) fun z => Reps.mem r a z
  | _, _, _, .dT e _ r, a, h => (List.mem_cons.mp h).elim (fun z => ⟨_, z ▸ e, rfl⟩) fun z => Reps.mem r a z
theorem Reps.mem : ∀ {ds : List D} {vs : List V} {fp : List Addr}, Reps K H ds vs fp → ∀ a ∈ fp, ∃ o, H a = some o ∧ isM o = true
  | _, _, _, .nil, _, h => nomatch h
  | _, _, _, .cons r t, a, h => (List.mem_append.mp h).elim (Rep.mem r a) (Reps.mem t a)
end
theorem Rep.alive {d : D} {v : V} {fp : List Addr} (r : Rep K H d v fp) {a : Addr} (h : a ∈ fp) : H a ≠ none := by
  obtain ⟨o, e, _⟩ := r.mem a h
  rw [e]; simp
theorem Reps.alive {d : List D} {v : List V} {fp : List Addr} (r : Reps K H d v fp) {a : Addr} (h : a ∈ fp) : H a ≠ none := by
  obtain ⟨o, e, _⟩ := r.mem a h
  rw [e]; simp

mutual
/-- data that cannot change has no cells -/
theorem Rep.imm : ∀ {d : D} {v : V} {fp : List Addr}, Rep K H d v fp → mdep d = 0 → fp = []
  | _, _, _, .non, _ => rfl
  | _, _, _, .bl _, _ => rfl
  | _, _, _, .int _, _ => rfl
  | _, _, _, .str _, _ => rfl
  | _, _, _, .frz _, _ => rfl
  | _, _, _, .tup _ r, h => Reps.imm r fun d hd => Nat.le_zero.mp (mdep_tup_le (Nat.le_of_eq h) d hd)
  | .lst ds, _, _, .lst _ _, h => by unfold mdep at h; omega
  | .dct _ _ _, _, _, .dK _ _ _, h => by unfold mdep at h; omega
  | .dct _ _ _, _, _, .dT _ _ _, h => by unfold mdep at h; omega
theorem Reps.imm : ∀ {ds : List D} {vs : List V} {fp : List Addr}, Reps K H ds vs fp → (∀ d ∈ ds, mdep d = 0) → fp = []
  | _, _, _, .nil, _ => rfl
  | _, _, _, .cons r t, h => by
    rw [Rep.imm r (h _ List.mem_cons_self), Reps.imm t fun d hd => h d (List.mem_cons_of_mem _ hd)]; rfl
end

theorem Reps.get : ∀ {ds : List D} {vs : List V} {fp : List Addr}, Reps K H ds vs fp → ∀ {n : Nat} {d : D}, ds[n]? = some d → ∃ v f, vs[n]? = some v ∧ Rep K H d v f ∧ ∀ a ∈ f, a ∈ fp
  | _, _, _, .nil, n, d, h => by simp at h
  | _, _, _, .cons r t, 0, d, h => by
    simp at h; subst h
    exact ⟨_, _, rfl, r, fun a ha => List.mem_append_left _ ha⟩
  | _, _, _, .cons r t, n + 1, d, h => by
    obtain ⟨v, f, h1, h2, h3⟩ := Reps.get t (n := n) (d := d) (by simpa using h)
    exact ⟨v, f, by simpa using h1, h2, fun a ha => List.mem_append_right _ (h3 a ha)⟩
theorem Reps.getV : ∀ {ds : List D} {vs : List V} {fp : List Addr}, Reps K H ds vs fp → ∀ {n : Nat} {v : V}, vs[n]? = some v → ∃ d f, ds[n]? = some d ∧ Rep K H d v f ∧ ∀ a ∈ f, a ∈ fp := by
  intro ds vs fp r n v h
  have hn : n < vs.length := (List.getElem?_eq_some_iff.mp h).1
  have hd : n < ds.length := by rw [r.length]; exact hn
  obtain ⟨v', f, h1, h2, h3⟩ := r.get (List.getElem?_eq_getElem hd)
  rw [h] at h1; cases h1
  exact ⟨_, f, List.getElem?_eq_getElem hd, h2, h3⟩
theorem Reps.append : ∀ {ds es : List D} {vs ws : List V} {f g : List Addr}, Reps K H ds vs f → Reps K H es ws g → Reps K H (ds ++ es) (vs ++ ws) (f ++ g)
  | _, _, _, _, _, _, .nil, s => s
  | _, _, _, _, _, _, .cons r t, s => by rw [List.append_assoc]; exact .cons r (Reps.append t s)
/-- parts of represented data, cell for cell -/
theorem Reps.imm_of {ds : List D} {vs : List V} {fp : List Addr} (r : Reps K H ds vs fp) (h : ∀ d ∈ ds, mdep d ≤ 0) : fp = [] := r.imm fun d hd => Nat.le_zero.mp (h d hd)
/-- by places -/
theorem Reps.of_get : ∀ {ds : List D} {vs : List V} {U : Addr → Prop}, ds.length = vs.length → (∀ (n : Nat) d v, ds[n]? = some d → vs[n]? = some v → ∃ f, Rep K H d v f ∧ ∀ a ∈ f, U a) → ∃ fp, Reps K H ds vs fp ∧ ∀ a ∈ fp, U a
  | [], [], _, _, _ => ⟨[], .nil, fun _ h => nomatch h⟩
  | [], _ :: _, _, h, _ => by simp at h
  | _ :: _, [], _, h, _ => by simp at h
  | d :: ds, v :: vs, U, h, g => by
    obtain ⟨f, r, u⟩ := g 0 d v rfl rfl
    obtain ⟨fp, t, w⟩ := Reps.of_get (ds := ds) (vs := vs) (U := U) (by simpa using h) fun n d v h1 h2 => g (n + 1) d v (by simpa using h1) (by simpa using h2)
    exact ⟨f ++ fp, .cons r t, fun a ha => (List.mem_append.mp ha).elim (u a) (w a)⟩
end
end Dw
/-! Dw, part B: modes of locals, the state relation, transitions, the judgement of expressions. -/
namespace Dw
open PySem PySem.Spec PyProof.Rows L2

/-- what is known of a local: nothing; it may be read (rs: own locals that it may share cells with); it is this frame's own; own, but locked -/
inductive Mode where
  | no | vw (k : Nat) (rs : List Nat) | ow (k : Nat) | lk (k : Nat)
  deriving DecidableEq, Inhabited
def Mode.k : Mode → Nat
  | .no => 0 | .vw k _ => k | .ow k => k | .lk k => k
def Mode.own : Mode → Bool
  | .ow _ => true | .lk _ => true | _ => false
def Mode.isNo : Mode → Bool
  | .no => true | _ => false
def md (G : List Mode) (i : Nat) : Mode := G.getD i .no

/-- lists and tuples have room -/
def szO : HO → Bool
  | .lst xs => decide (xs.length ≤ sizeLine)
  | .tup xs => decide (xs.length ≤ sizeLine)
  | .dK xs => decide (xs.length ≤ sizeLine)
  | .dT xs => decide (xs.length ≤ sizeLine)
  | _ => true
def Sz (H : Hp) : Prop := ∀ a o, H a = some o → szO o = true
/-- the heap grows -/
structure Ext (H H' : Hp) : Prop where
  same : Same H H'
  sz : Sz H → Sz H'
theorem Ext.refl (H : Hp) : Ext H H := ⟨Same.refl H, fun h => h⟩
theorem Ext.trans {H H1 H2 : Hp} (a : Ext H H1) (b : Ext H1 H2) : Ext H H2 := ⟨a.same.trans b.same, fun h => b.sz (a.sz h)⟩
theorem Sz.upd {H : Hp} {p : Addr} {o : HO} (h : Sz H) (ho : szO o = true) : Sz (upd H p o) := fun a u e => by
  by_cases q : a = p
  · subst q; rw [upd_same] at e; cases e; exact ho
  · rw [upd_ne q] at e; exact h a u e
theorem same_upd {H : Hp} {p : Addr} {o : HO} (h : H p = none) : Same H (upd H p o) := fun b x e => by
  rw [upd_ne (ne_of_none e h)]; exact e
theorem Ext.upd {H : Hp} {p : Addr} {o : HO} (h : H p = none) (ho : szO o = true) : Ext H (L2.upd H p o) := ⟨same_upd h, fun z => z.upd ho⟩

structure SR (K : PySem.W.Frag) (G : List Mode) (sl : Ev) (σ : L2.St) (H : Hp) (fs : Nat → List Addr) : Prop where
  len : sl.length = σ.length
  sz : Sz H
  val : ∀ i, md G i ≠ .no → ∃ d v, sl[i]? = some (some d) ∧ σ[i]? = some (some v) ∧ Rep K H d v (fs i) ∧ mdep d ≤ (md G i).k
  nd : ∀ i, (md G i).own = true → (fs i).Nodup
  dj : ∀ i j, (md G i).own = true → (md G j).own = true → i ≠ j → ∀ a ∈ fs i, a ∉ fs j
  vw : ∀ i k rs, md G i = .vw k rs → ∀ a ∈ fs i, ∀ j, (md G j).own = true → a ∈ fs j → j ∈ rs

section
variable {K : PySem.W.Frag} {G : List Mode} {sl : Ev} {σ : L2.St} {H : Hp} {fs : Nat → List Addr}
theorem own_ne_no {m : Mode} (h : m.own = true) : m ≠ .no := fun e => by subst e; cases h
theorem SR.mem (S : SR K G sl σ H fs) {i : Nat} (h : md G i ≠ .no) {a : Addr} (ha : a ∈ fs i) : ∃ o, H a = some o ∧ isM o = true := by
  obtain ⟨d, v, _, _, r, _⟩ := S.val i h
  exact r.mem a ha
theorem SR.alive (S : SR K G sl σ H fs) {i : Nat} (h : md G i ≠ .no) {a : Addr} (ha : a ∈ fs i) : H a ≠ none := by
  obtain ⟨o, e, _⟩ := S.mem h ha
  rw [e]; simp
/-- all stays, the heap grows -/
theorem SR.same {H' : Hp} (S : SR K G sl σ H fs) (e : Ext H H') : SR K G sl σ H' fs :=
  ⟨S.len, e.sz S.sz, fun i h => let ⟨d, v, h1, h2, r, m⟩ := S.val i h; ⟨d, v, h1, h2, r.same e.same, m⟩, S.nd, S.dj, S.vw⟩
theorem SR.lt (S : SR K G sl σ H fs) {i : Nat} (h : md G i ≠ .no) : i < sl.length := by
  obtain ⟨d, v, h1, _⟩ := S.val i h
  exact (List.getElem?_eq_some_iff.mp h1).1
end

/-! ### views fall when a root is written -/
def killM (M : List Nat) (m : Mode) : Mode := match m with
  | .vw (k + 1) rs => if rs.any (fun r => M.contains r) then .no else .vw (k + 1) rs
  | m => m
def kill (M : List Nat) (G : List Mode) : List Mode := match M with
  | [] => G
  | _ => G.map (killM M)
theorem killM_nil (m : Mode) : killM [] m = m := by
  unfold killM
  split
  · rename_i k rs
    have : (rs.any fun r => ([] : List Nat).contains r) = false := by
      rw [List.any_eq_false]; intro x _; simp
    rw [this]; rfl
  · rfl
theorem md_kill {M : List Nat} {G : List Mode} {i : Nat} : md (kill M G) i = killM M (md G i) := by
  unfold kill
  split
  · rw [killM_nil]
  · unfold md
    rw [List.getD_eq_getElem?_getD, List.getD_eq_getElem?_getD, List.getElem?_map]
    cases h : G[i]? with
    | none => rfl
    | some m => rfl
theorem killM_own {M : List Nat} {m : Mode} : (killM M m).own = m.own := by
  unfold killM
  split
  · split <;> rfl
  · rfl
theorem own_kill {M : List Nat} {G : List Mode} {i : Nat} : (md (kill M G) i).own = (md G i).own := by rw [md_kill, killM_own]
theorem killM_ne {M : List Nat} {m : Mode} (h : killM M m ≠ .no) : killM M m = m := by
  unfold killM at h ⊢
  split
  · rename_i k rs
    split
    · rename_i e
      simp only [e, if_true] at h
      exact absurd rfl h
    · rfl
  · rfl
theorem killM_vw {M : List Nat} {m : Mode} {k : Nat} {rs : List Nat} (h : killM M m = .vw k rs) : m = .vw k rs ∧ (k ≠ 0 → ∀ r ∈ rs, r ∉ M) := by
  have e := killM_ne (M := M) (m := m) (by rw [h]; simp)
  rw [h] at e
  subst e
  refine ⟨rfl, fun hk r hr hm => ?_⟩
  cases k with
  | zero => exact hk rfl
  | succ k =>
    unfold killM at h
    have : (rs.any fun r => M.contains r) = true := List.any_eq_true.mpr ⟨r, hr, by simpa using hm⟩
    simp only [this, if_true] at h
    cases h
theorem kill_ow {M : List Nat} {G : List Mode} {i k : Nat} (h : md G i = .ow k) : md (kill M G) i = .ow k := by rw [md_kill, h]; rfl
theorem kill_lk {M : List Nat} {G : List Mode} {i k : Nat} (h : md G i = .lk k) : md (kill M G) i = .lk k := by rw [md_kill, h]; rfl
theorem of_kill_own {M : List Nat} {G : List Mode} {i : Nat} (h : (md (kill M G) i).own = true) : md (kill M G) i = md G i := by
  have e := own_ne_no h
  rw [md_kill] at e ⊢
  exact killM_ne e

/-! ### transitions of an expression: the own locals in M may be written -/
structure Tr (M : List Nat) (sl : Ev) (fs : Nat → List Addr) (H : Hp) (sl' : Ev) (fs' : Nat → List Addr) (H' : Hp) : Prop where
  t1 : ∀ a o, H a = some o → (∀ j ∈ M, a ∉ fs j) → H' a = some o
  t2 : ∀ a, H' a = none → H a = none
  t3 : ∀ j, j ∉ M → fs' j = fs j ∧ sl'[j]? = sl[j]?
  t4 : ∀ j ∈ M, ∀ a ∈ fs' j, (∃ i ∈ M, a ∈ fs i) ∨ H a = none
theorem Same.alive {H H' : Hp} (e : Same H H') {a : Addr} (h : H' a = none) : H a = none := e.free h
theorem Tr.pure {sl : Ev} {fs : Nat → List Addr} {H H' : Hp} (e : Same H H') : Tr [] sl fs H sl fs H' :=
  ⟨fun a o h _ => e a o h, fun _ h => e.free h, fun _ _ => ⟨rfl, rfl⟩, fun _ h => nomatch h⟩
theorem Tr.same {sl sl' : Ev} {fs fs' : Nat → List Addr} {H H' : Hp} (T : Tr [] sl fs H sl' fs' H') : Same H H' ∧ fs' = fs ∧ ∀ j : Nat, sl'[j]? = sl[j]? :=
  ⟨fun a o h => T.t1 a o h fun _ z => (nomatch z), funext fun j => (T.t3 j (fun z => nomatch z)).1, fun j => (T.t3 j (fun z => nomatch z)).2⟩
theorem Tr.trans {K : PySem.W.Frag} {G : List Mode} {M N : List Nat} {sl sl1 sl2 : Ev} {fs fs1 fs2 : Nat → List Addr} {H H1 H2 : Hp} (T : Tr M sl fs H sl1 fs1 H1) (U : Tr N sl1 fs1 H1 sl2 fs2 H2) :
    Tr (M ++ N) sl fs H sl2 fs2 H2 where
  t1 := fun a o h hn => by
    have h1 := T.t1 a o h fun j hj => hn j (List.mem_append_left _ hj)
    refine U.t1 a o h1 fun j hj ha => ?_
    by_cases hm : j ∈ M
    · rcases T.t4 j hm a ha with ⟨i, hi, q⟩ | q
      · exact hn i (List.mem_append_left _ hi) q
      · rw [h] at q; cases q
    · rw [(T.t3 j hm).1] at ha
      exact hn j (List.mem_append_right _ hj) ha
  t2 := fun a h => T.t2 a (U.t2 a h)
  t3 := fun j hj => by
    have h1 := T.t3 j fun z => hj (List.mem_append_left _ z)
    have h2 := U.t3 j fun z => hj (List.mem_append_right _ z)
    exact ⟨h2.1.trans h1.1, h2.2.trans h1.2⟩
  t4 := fun j hj a ha => by
    -- where a stood behind the first
    have back : a ∈ fs1 j ∨ (∃ i ∈ N, a ∈ fs1 i) ∨ H1 a = none := by
      by_cases hn : j ∈ N
      · rcases U.t4 j hn a ha with q | q
        · exact .inr (.inl q)
        · exact .inr (.inr q)
      · rw [(U.t3 j hn).1] at ha; exact .inl ha
    have one : ∀ i, i ∈ M ++ N → a ∈ fs1 i → (∃ i ∈ M ++ N, a ∈ fs i) ∨ H a = none := fun i hi q => by
      by_cases hm : i ∈ M
      · rcases T.t4 i hm a q with ⟨l, hl, z⟩ | z
        · exact .inl ⟨l, List.mem_append_left _ hl, z⟩
        · exact .inr z
      · rw [(T.t3 i hm).1] at q
        exact .inl ⟨i, hi, q⟩
    rcases back with q | ⟨i, hi, q⟩ | q
    · exact one j hj q
    · exact one i (List.mem_append_right _ hi) q
    · exact .inr (T.t2 a q)

/-! ### an expression's result -/
inductive RM where
  | vw (k : Nat) (rs : List Nat) | ow (k : Nat)
  deriving DecidableEq
def RM.k : RM → Nat
  | .vw k _ => k | .ow k => k
def RM.rs : RM → List Nat
  | .vw _ rs => rs | .ow _ => []
/-- a cell that some local reaches, or a new one -/
def Kn (G : List Mode) (fs : Nat → List Addr) (H : Hp) (a : Addr) : Prop := (∃ i, md G i ≠ .no ∧ a ∈ fs i) ∨ H a = none
/-- the cells fp of a result that came by a transition -/
def RMok (G : List Mode) (M : List Nat) (fs : Nat → List Addr) (H : Hp) (fs' : Nat → List Addr) (fp : List Addr) : RM → Prop
  | .vw _ rs => (∀ a ∈ fp, ∀ j, (md G j).own = true → a ∈ fs' j → j ∈ rs) ∧ ∀ a ∈ fp, Kn G fs H a
  | .ow _ => fp.Nodup ∧ (∀ a ∈ fp, H a = none ∨ ∃ j ∈ M, a ∈ fs j) ∧ ∀ a ∈ fp, ∀ j, (md G j).own = true → a ∉ fs' j

/-- what is told of the values behind an expression -/
structure Out (K : PySem.W.Frag) (G : List Mode) (M : List Nat) (sl : Ev) (σ : L2.St) (H : Hp) (fs : Nat → List Addr) (m : RM) (d : D) (sl' : Ev) (v : V) (H' : Hp) (fs' : Nat → List Addr) (fp : List Addr) : Prop where
  sr : SR K (kill M G) sl' σ H' fs'
  tr : Tr M sl fs H sl' fs' H'
  rep : Rep K H' d v fp
  dep : mdep d ≤ m.k
  ok : RMok G M fs H fs' fp m

/-- e is read by f: data out, the locals in M written -/
structure DE (X : Cx) (G : List Mode) (e : Expr) (m : RM) (M : List Nat) (f : Ev → Option (D × Ev)) : Prop where
  hM : ∀ j ∈ M, ∃ k, md G j = .ow k
  run : ∃ t, PE X e t ∧ ∀ sl σ H fs d sl' (Q : VK), SR X.K G sl σ H fs → f sl = some (d, sl') → (∀ v H' fs' fp, Out X.K G M sl σ H fs m d sl' v H' fs' fp → Q v H') → t σ H Q
def lift (g : Ev → Option D) : Ev → Option (D × Ev) := fun sl => (g sl).map fun d => (d, sl)
theorem lift_some {g : Ev → Option D} {sl sl' : Ev} {d : D} : lift g sl = some (d, sl') ↔ g sl = some d ∧ sl' = sl := by
  unfold lift
  cases h : g sl with
  | none => simp
  | some x => simp; intro _; exact eq_comm
/-- nothing is written -/
abbrev PD (X : Cx) (G : List Mode) (e : Expr) (m : RM) (g : Ev → Option D) : Prop := DE X G e m [] (lift g)

/-- a result without a written local, told plainly -/
structure OutP (K : PySem.W.Frag) (G : List Mode) (H : Hp) (fs : Nat → List Addr) (m : RM) (d : D) (v : V) (H' : Hp) (fp : List Addr) : Prop where
  same : Ext H H'
  rep : Rep K H' d v fp
  dep : mdep d ≤ m.k
  ok : RMok G [] fs H fs fp m
theorem PD.mk {X : Cx} {G : List Mode} {e : Expr} {m : RM} {g : Ev → Option D}
    (h : ∃ t, PE X e t ∧ ∀ sl σ H fs d (Q : VK), SR X.K G sl σ H fs → g sl = some d → (∀ v H' fp, OutP X.K G H fs m d v H' fp → Q v H') → t σ H Q) : PD X G e m g := by
  obtain ⟨t, ht, hr⟩ := h
  refine ⟨(fun _ z => nomatch z), t, ht, fun sl σ H fs d sl' Q S hf hq => ?_⟩
  obtain ⟨hg, rfl⟩ := lift_some.mp hf
  exact hr sl' σ H fs d Q S hg fun v H' fp O => hq v H' fs fp ⟨S.same O.same, .pure O.same.same, O.rep, O.dep, O.ok⟩
theorem PD.use {X : Cx} {G : List Mode} {e : Expr} {m : RM} {g : Ev → Option D} (h : PD X G e m g) :
    ∃ t, PE X e t ∧ ∀ sl σ H fs d (Q : VK), SR X.K G sl σ H fs → g sl = some d → (∀ v H' fp, OutP X.K G H fs m d v H' fp → Q v H') → t σ H Q := by
  obtain ⟨t, ht, hr⟩ := h.run
  refine ⟨t, ht, fun sl σ H fs d Q S hg hq => hr sl σ H fs d sl Q S (lift_some.mpr ⟨hg, rfl⟩) fun v H' fs' fp O => ?_⟩
  obtain ⟨e1, e2, _⟩ := O.tr.same
  subst e2
  exact hq v H' fp ⟨⟨e1, fun _ => O.sr.sz⟩, O.rep, O.dep, O.ok⟩

/-- the result's mode, weakened -/
def leR (m n : RM) : Bool := match m, n with
  | .vw k rs, .vw l ss => decide (k ≤ l) && (decide (k = 0) || rs.all (fun r => ss.contains r))
  | .ow k, .ow l => decide (k ≤ l)
  | .ow k, .vw l _ => decide (k ≤ l)
  | .vw k _, .ow l => decide (k = 0)
theorem leR_k {m n : RM} (h : leR m n = true) : m.k ≤ n.k := by
  unfold leR at h
  cases m <;> cases n <;> simp at h <;> simp [RM.k] <;> omega
theorem leR_ok {G : List Mode} {M : List Nat} {fs : Nat → List Addr} {H : Hp} {fs' : Nat → List Addr} {fp : List Addr} {m n : RM} (h : leR m n = true) (hM : ∀ j ∈ M, ∃ k, md G j = .ow k) (im : m.k = 0 → fp = []) (o : RMok G M fs H fs' fp m) : RMok G M fs H fs' fp n := by
  cases m with
  | vw k rs =>
    cases n with
    | vw l ss =>
      refine ⟨fun a ha j hj haj => ?_, o.2⟩
      simp only [leR, Bool.and_eq_true, Bool.or_eq_true, decide_eq_true_eq, List.all_eq_true] at h
      rcases h.2 with z | z
      · rw [im z] at ha; cases ha
      · have := z j (o.1 a ha j hj haj)
        simpa using this
    | ow l =>
      simp only [leR, decide_eq_true_eq] at h
      have e := im h
      subst e
      exact ⟨List.nodup_nil, (fun _ z => nomatch z), (fun _ z => nomatch z)⟩
  | ow k =>
    cases n with
    | vw l ss => exact ⟨fun a ha j hj haj => absurd haj (o.2.2 a ha j hj), fun a ha => (o.2.1 a ha).elim .inr fun ⟨j, hj, q⟩ => .inl ⟨j, (let ⟨k, hk⟩ := hM j hj; by rw [hk]; simp), q⟩⟩
    | ow l => exact o
theorem Out.im {K : PySem.W.Frag} {G : List Mode} {M : List Nat} {sl : Ev} {σ : L2.St} {H : Hp} {fs : Nat → List Addr} {m : RM} {d : D} {sl' : Ev} {v : V} {H' : Hp} {fs' : Nat → List Addr} {fp : List Addr}
    (O : Out K G M sl σ H fs m d sl' v H' fs' fp) (h : m.k = 0) : fp = [] := O.rep.imm (by have := O.dep; omega)
theorem DE.weak {X : Cx} {G : List Mode} {e : Expr} {m n : RM} {M : List Nat} {f : Ev → Option (D × Ev)} (h : DE X G e m M f) (l : leR m n = true) : DE X G e n M f := by
  refine ⟨h.hM, ?_⟩
  obtain ⟨t, ht, hr⟩ := h.run
  exact ⟨t, ht, fun sl σ H fs d sl' Q S hf hq => hr sl σ H fs d sl' Q S hf fun v H' fs' fp O =>
    hq v H' fs' fp ⟨O.sr, O.tr, O.rep, Nat.le_trans O.dep (leR_k l), leR_ok l h.hM O.im O.ok⟩⟩
/-- another reading of the same -/
theorem DE.congr {X : Cx} {G : List Mode} {e : Expr} {m : RM} {M : List Nat} {f f' : Ev → Option (D × Ev)} (h : DE X G e m M f) (l : f' = f) : DE X G e m M f' := by rw [l]; exact h
end Dw
/-! Dw, part C: expressions: names, constants, two in a row, operations by values. -/
namespace Dw
open PySem PySem.Spec PyProof.Rows L2

theorem killM_append {M N : List Nat} {m : Mode} : killM N (killM M m) = killM (M ++ N) m := by
  cases m with
  | no => rfl
  | ow k => rfl
  | lk k => rfl
  | vw k rs =>
    cases k with
    | zero => rfl
    | succ k =>
      by_cases h1 : (rs.any fun r => M.contains r) = true
      · have h2 : (rs.any fun r => (M ++ N).contains r) = true := by
          rw [List.any_eq_true] at h1 ⊢
          obtain ⟨x, hx, q⟩ := h1
          exact ⟨x, hx, by simp at q ⊢; exact .inl q⟩
        simp only [killM, h1, h2, if_true]
      · have h1' : (rs.any fun r => M.contains r) = false := by simpa using h1
        by_cases h2 : (rs.any fun r => N.contains r) = true
        · have h3 : (rs.any fun r => (M ++ N).contains r) = true := by
            rw [List.any_eq_true] at h2 ⊢
            obtain ⟨x, hx, q⟩ := h2
            exact ⟨x, hx, by simp at q ⊢; exact .inr q⟩
          simp only [killM, h1', h2, h3, if_true, if_false, Bool.false_eq_true]
        · have h2' : (rs.any fun r => N.contains r) = false := by simpa using h2
          have h3 : (rs.any fun r => (M ++ N).contains r) = false := by
            rw [List.any_eq_false] at h1' h2' ⊢
            intro x hx
            have a := h1' x hx
            have b := h2' x hx
            simp at a b ⊢
            exact ⟨a, b⟩
          simp only [killM, h1', h2', h3, if_false, Bool.false_eq_true]
theorem kill_kill {M N : List Nat} {G : List Mode} : kill N (kill M G) = kill (M ++ N) G := by
  have e : ∀ (M : List Nat) (G : List Mode), kill M G = G.map (killM M) := fun M G => by
    cases M with
    | nil => unfold kill; rw [show killM [] = id from funext killM_nil, List.map_id]
    | cons _ _ => rfl
  rw [e, e, e, List.map_map]
  congr 1
  funext m
  exact killM_append
theorem kill_nil {G : List Mode} : kill [] G = G := rfl

/-- a later expression that writes N leaves the result m alone -/
def apart (m : RM) (N : List Nat) : Bool := decide (m.k = 0) || m.rs.all (fun r => !N.contains r)
theorem apart_nil (m : RM) : apart m [] = true := by
  unfold apart
  have : (m.rs.all fun r => !([] : List Nat).contains r) = true := List.all_eq_true.mpr fun x _ => by simp
  rw [this, Bool.or_true]

section
variable {K : PySem.W.Frag} {G : List Mode} {sl sl1 sl2 : Ev} {σ : L2.St} {H H1 H2 : Hp} {fs fs1 fs2 : Nat → List Addr} {M N : List Nat}
/-- a result stands behind a later expression -/
theorem Out.later {m : RM} {d : D} {v : V} {fp : List Addr} (hM : ∀ j ∈ N, ∃ k, md (kill M G) j = .ow k) (O : Out K G M sl σ H fs m d sl1 v H1 fs1 fp) (T : Tr N sl1 fs1 H1 sl2 fs2 H2)
    (ap : apart m N = true) : Rep K H2 d v fp ∧ RMok G (M ++ N) fs H fs2 fp m := by
  -- the cells of fp are not written
  have off : ∀ a ∈ fp, ∀ j ∈ N, a ∉ fs1 j := fun a ha j hj haj => by
    obtain ⟨k, hk⟩ := hM j hj
    have ho : (md G j).own = true := by rw [← own_kill (M := M), hk]; rfl
    have rs0 : m.k ≠ 0 := fun z => by rw [O.im z] at ha; cases ha
    unfold apart at ap
    rw [Bool.or_eq_true, decide_eq_true_eq] at ap
    have ap := ap.resolve_left rs0
    cases hm : m with
    | vw l rs =>
      have ok := O.ok
      rw [hm] at ok ap
      have q := List.all_eq_true.mp ap j (ok.1 a ha j ho haj)
      simp at q
      exact q hj
    | ow l =>
      have ok := O.ok
      rw [hm] at ok
      exact ok.2.2 a ha j ho haj
  have keep : Keep (fun a => ∀ j ∈ N, a ∉ fs1 j) H1 H2 := fun a o e hm => T.t1 a o e fun j hj haj => by
    obtain ⟨k, hk⟩ := hM j hj
    obtain ⟨o', e', m'⟩ := O.sr.mem (own_ne_no (by rw [hk]; rfl)) haj
    rw [e] at e'; cases e'
    exact hm m' j hj haj
  refine ⟨O.rep.keep keep off, ?_⟩
  have back : ∀ a ∈ fp, ∀ j, (md G j).own = true → a ∈ fs2 j → a ∈ fs1 j := fun a ha j hj haj => by
    by_cases hn : j ∈ N
    · rcases T.t4 j hn a haj with ⟨i, hi, q⟩ | q
      · exact absurd q (off a ha i hi)
      · exact absurd q (O.rep.alive ha)
    · rw [(T.t3 j hn).1] at haj; exact haj
  have ok := O.ok
  cases m with
  | vw l rs => exact ⟨fun a ha j hj haj => ok.1 a ha j hj (back a ha j hj haj), ok.2⟩
  | ow l =>
    refine ⟨ok.1, fun a ha => ?_, fun a ha j hj haj => ok.2.2 a ha j hj (back a ha j hj haj)⟩
    rcases ok.2.1 a ha with q | ⟨j, hj, q⟩
    · exact .inl q
    · exact .inr ⟨j, List.mem_append_left _ hj, q⟩
theorem Kn.early (hM : ∀ j ∈ M, ∃ k, md G j = .ow k) (T : Tr M sl fs H sl1 fs1 H1) {a : Addr} (h : Kn (kill M G) fs1 H1 a) : Kn G fs H a := by
  have ne : ∀ i ∈ M, md G i ≠ .no := fun i hi => let ⟨k, hk⟩ := hM i hi; by rw [hk]; simp
  rcases h with ⟨i, hi, q⟩ | q
  · have n0 : md G i ≠ .no := fun z => hi (by rw [md_kill, z]; rfl)
    by_cases hm : i ∈ M
    · rcases T.t4 i hm a q with ⟨j, hj, z⟩ | z
      · exact .inl ⟨j, ne j hj, z⟩
      · exact .inr z
    · rw [(T.t3 i hm).1] at q
      exact .inl ⟨i, n0, q⟩
  · exact .inr (T.t2 a q)
/-- a later result, told from the start -/
theorem Out.early {m : RM} {d : D} {v : V} {fp : List Addr} (S : SR K G sl σ H fs) (hM : ∀ j ∈ M, ∃ k, md G j = .ow k) (T : Tr M sl fs H sl1 fs1 H1) (O : Out K (kill M G) N sl1 σ H1 fs1 m d sl2 v H2 fs2 fp) :
    RMok G (M ++ N) fs H fs2 fp m := by
  have ok := O.ok
  cases m with
  | vw l rs => exact ⟨fun a ha j hj haj => ok.1 a ha j (by rw [own_kill]; exact hj) haj, fun a ha => (ok.2 a ha).early hM T⟩
  | ow l =>
    refine ⟨ok.1, fun a ha => ?_, fun a ha j hj haj => ok.2.2 a ha j (by rw [own_kill]; exact hj) haj⟩
    rcases ok.2.1 a ha with q | ⟨j, hj, q⟩
    · exact .inl (T.t2 a q)
    · by_cases hm : j ∈ M
      · rcases T.t4 j hm a q with ⟨i, hi, z⟩ | z
        · exact .inr ⟨i, List.mem_append_left _ hi, z⟩
        · exact .inl z
      · rw [(T.t3 j hm).1] at q
        exact .inr ⟨j, List.mem_append_right _ hj, q⟩
/-- two own results stand apart -/
theorem Out.disj {m n : RM} {d e : D} {v u : V} {fp gp : List Addr} {k l : Nat} (O : Out K G M sl σ H fs (.ow k) d sl1 v H1 fs1 fp) (P : Out K (kill M G) N sl1 σ H1 fs1 (.ow l) e sl2 u H2 fs2 gp) (hN : ∀ j ∈ N, ∃ k, md (kill M G) j = .ow k) :
    ∀ a ∈ fp, a ∉ gp := fun a ha hg => by
  rcases P.ok.2.1 a hg with q | ⟨j, hj, q⟩
  · exact O.rep.alive ha q
  · obtain ⟨k', hk⟩ := hN j hj
    exact O.ok.2.2 a ha j (by rw [← own_kill (M := M), hk]; rfl) q
theorem hM_append (hM : ∀ j ∈ M, ∃ k, md G j = .ow k) (hN : ∀ j ∈ N, ∃ k, md (kill M G) j = .ow k) : ∀ j ∈ M ++ N, ∃ k, md G j = .ow k := fun j hj => by
  rcases List.mem_append.mp hj with h | h
  · exact hM j h
  · obtain ⟨k, hk⟩ := hN j h
    exact ⟨k, by rw [← of_kill_own (M := M) (by rw [hk]; rfl), hk]⟩
end

/-- what is told behind two expressions -/
structure Out2 (K : PySem.W.Frag) (G : List Mode) (M : List Nat) (sl : Ev) (σ : L2.St) (H : Hp) (fs : Nat → List Addr) (m n : RM) (d e : D) (sl' : Ev) (x y : V) (H' : Hp) (fs' : Nat → List Addr) (fp gp : List Addr) : Prop where
  sr : SR K (kill M G) sl' σ H' fs'
  tr : Tr M sl fs H sl' fs' H'
  ra : Rep K H' d x fp
  rb : Rep K H' e y gp
  da : mdep d ≤ m.k
  db : mdep e ≤ n.k
  oa : RMok G M fs H fs' fp m
  ob : RMok G M fs H fs' gp n
  dj : ∀ k l, m = .ow k → n = .ow l → ∀ a ∈ fp, a ∉ gp

section
variable {X : Cx} {G : List Mode} {a b : Expr} {ma mb : RM} {M N : List Nat} {fa fb : Ev → Option (D × Ev)}
theorem DE.two (A : DE X G a ma M fa) (B : DE X (kill M G) b mb N fb) (ap : apart ma N = true) :
    ∃ ta tb, PE X a ta ∧ PE X b tb ∧ ∀ sl σ H fs d sl1 e sl2 (Q : V → V → Hp → Prop), SR X.K G sl σ H fs → fa sl = some (d, sl1) → fb sl1 = some (e, sl2) →
      (∀ x y H' fs' fp gp, Out2 X.K G (M ++ N) sl σ H fs ma mb d e sl2 x y H' fs' fp gp → Q x y H') → ta σ H fun x H1 => tb σ H1 fun y H2 => Q x y H2 := by
  obtain ⟨ta, pa, ra⟩ := A.run
  obtain ⟨tb, pb, rb⟩ := B.run
  refine ⟨ta, tb, pa, pb, fun sl σ H fs d sl1 e sl2 Q S ha hb hq => ?_⟩
  refine ra sl σ H fs d sl1 _ S ha fun x H1 fs1 fp O => ?_
  refine rb sl1 σ H1 fs1 e sl2 _ O.sr hb fun y H2 fs2 gp P => ?_
  have L := O.later B.hM P.tr ap
  refine hq x y H2 fs2 fp gp ⟨by rw [← kill_kill]; exact P.sr, O.tr.trans (K := X.K) (G := G) P.tr, L.1, P.rep, O.dep, P.dep, L.2, P.early S A.hM O.tr, fun k l e1 e2 => ?_⟩
  subst e1; subst e2
  exact O.disj (m := .ow k) (n := .ow l) P B.hM
end

/-! ### names, constants -/
section
variable {X : Cx} {G : List Mode} {pos : Pos}
/-- the mode of a local's value where it is read -/
def rdM (i : Nat) : Mode → RM
  | .vw k rs => .vw k rs
  | .ow k => .vw k [i]
  | .lk k => .vw k [i]
  | .no => .vw 0 []
def eVar (i : Nat) : Ev → Option D := fun sl => (sl[i]?).join
theorem eVar_some {i : Nat} {sl : Ev} {d : D} (h : sl[i]? = some (some d)) : eVar i sl = some d := by unfold eVar; rw [h]; rfl
theorem pd_var {i : Nat} {x : Str} (hn : (md G i).isNo = false) (hN : X.N[i]? = some x) (hv : Vis X.env.scope x) (hd : (x == ("__debug__" : Str)) = false := by decide) (hcd : (x == ("__classdict__" : Str)) = false := by decide) :
    PD X G (.Name x pos) (rdM i (md G i)) (eVar i) := by
  refine PD.mk ⟨_, pe_var hN hv hd hcd, fun sl σ H fs d Q S hg hq => ?_⟩
  have ne : md G i ≠ .no := fun e => by rw [e] at hn; cases hn
  obtain ⟨d', v, h1, h2, r, dp⟩ := S.val i ne
  rw [eVar_some h1] at hg; cases hg
  refine ⟨v, h2, hq v H (fs i) ⟨Ext.refl H, r, ?_, ?_⟩⟩
  · cases h : md G i <;> rw [h] at dp ne <;> first | exact dp | exact absurd rfl ne
  · cases h : md G i with
    | no => exact absurd h ne
    | vw k rs => exact ⟨fun a ha j hj haj => S.vw i k rs h a ha j hj haj, fun a ha => .inl ⟨i, ne, ha⟩⟩
    | ow k =>
      refine ⟨fun a ha j hj haj => ?_, fun a ha => .inl ⟨i, ne, ha⟩⟩
      by_cases e : i = j
      · subst e; exact List.mem_cons_self
      · exact absurd haj (S.dj i j (by rw [h]; rfl) hj e a ha)
    | lk k =>
      refine ⟨fun a ha j hj haj => ?_, fun a ha => .inl ⟨i, ne, ha⟩⟩
      by_cases e : i = j
      · subst e; exact List.mem_cons_self
      · exact absurd haj (S.dj i j (by rw [h]; rfl) hj e a ha)
def eC (d : D) : Ev → Option D := fun _ => some d
theorem pd_const {e : Expr} {d : D} {v : V} (h : PE X e (tC v)) (r : ∀ H, Rep X.K H d v []) (m : mdep d = 0) : PD X G e (.vw 0 []) (eC d) := by
  refine PD.mk ⟨_, h, fun sl σ H fs d' Q S hg hq => ?_⟩
  cases hg
  exact hq v H [] ⟨Ext.refl H, r H, Nat.le_of_eq m, (fun _ z => nomatch z), (fun _ z => nomatch z)⟩
theorem pd_int {i j} : PD X G (.Constant (.int i) j pos) (.vw 0 []) (eC (.int i)) := pd_const pe_int (fun _ => .int i) rfl
theorem pd_bl {b j} : PD X G (.Constant (.bool b) j pos) (.vw 0 []) (eC (.bl b)) := pd_const pe_bl (fun _ => .bl b) rfl
theorem pd_non {j} : PD X G (.Constant .none j pos) (.vw 0 []) (eC .non) := pd_const pe_non (fun _ => .non) rfl
theorem pd_str {x j} : PD X G (.Constant (.str x) j pos) (.vw 0 []) (eC (.str x)) := pd_const pe_str (fun _ => .str x) rfl
/-- a constant of the module -/
theorem pd_glob {x : Str} {d : D} {v : V} {u : Value} (hg : Gl X x) (hm : X.mg x = some u) (r : RelV v u) (rp : ∀ H, Rep X.K H d v []) (m : mdep d = 0) (hd : (x == ("__debug__" : Str)) = false := by decide) :
    PD X G (.Name x pos) (.vw 0 []) (eC d) := pd_const (pe_glob hg hm r hd) rp m
end

/-! ### operations by values -/
/-- an operation on values that only makes new objects: op on the data; fr: the result's own cell, if it has one, is new -/
def VR (K : PySem.W.Frag) (r : List V → Hp → VK → Prop) (op : List D → Option D) (fr : Bool) : Prop :=
  ∀ (H : Hp) (vs : List V) (ds : List D) (fp : List Addr) (d : D) (Q : VK), Sz H → Reps K H ds vs fp → op ds = some d →
    (∀ v H' gp, Ext H H' → Rep K H' d v gp → (∀ a ∈ gp, a ∈ fp ∨ H a = none) → (fr = true → mdep d ≤ 1 → ∀ p ∈ gp, v = .ref p → H p = none) → Q v H') → r vs H Q
def VR2 (K : PySem.W.Frag) (r : R2) (op : D → D → Option D) (fr : Bool) : Prop :=
  ∀ (H : Hp) (x y : V) (d e : D) (fp gp : List Addr) (z : D) (Q : VK), Sz H → Rep K H d x fp → Rep K H e y gp → op d e = some z →
    (∀ v H' hp, Ext H H' → Rep K H' z v hp → (∀ a ∈ hp, a ∈ fp ∨ a ∈ gp ∨ H a = none) → (fr = true → mdep z ≤ 1 → ∀ p ∈ hp, v = .ref p → H p = none) → Q v H') → r x y H Q
def VR1 (K : PySem.W.Frag) (r : V → Hp → VK → Prop) (op : D → Option D) (fr : Bool) : Prop :=
  ∀ (H : Hp) (x : V) (d : D) (fp : List Addr) (z : D) (Q : VK), Sz H → Rep K H d x fp → op d = some z →
    (∀ v H' hp, Ext H H' → Rep K H' z v hp → (∀ a ∈ hp, a ∈ fp ∨ H a = none) → (fr = true → mdep z ≤ 1 → ∀ p ∈ hp, v = .ref p → H p = none) → Q v H') → r x H Q

/-- data at most one deep: at most its own cell -/
theorem Rep.one {K : PySem.W.Frag} {H : Hp} {d : D} {v : V} {fp : List Addr} (r : Rep K H d v fp) (h : mdep d ≤ 1) : fp = [] ∨ ∃ p, v = .ref p ∧ fp = [p] := by
  cases r with
  | non => exact .inl rfl
  | bl b => exact .inl rfl
  | int i => exact .inl rfl
  | str x => exact .inl rfl
  | frz h => exact .inl rfl
  | @tup a vs ds fp hs r => exact .inl (r.imm_of (mdep_tup_le h))
  | @lst a vs ds fp hs r => exact .inr ⟨a, rfl, by rw [r.imm_of (mdep_lst_le h)]⟩
  | @dK a kvs ks ds fp hs e r => exact .inr ⟨a, rfl, by rw [r.imm_of (mdep_dct_le h)]⟩
  | @dT a kvs ks ds fp hs e r => exact .inr ⟨a, rfl, by rw [r.imm_of (mdep_dct_le h)]⟩

section
variable {K : PySem.W.Frag} {G : List Mode} {M : List Nat} {fs fs' : Nat → List Addr} {H H1 H2 : Hp}
theorem RMok.nil (m : RM) : RMok G M fs H fs' [] m := by
  cases m with
  | vw k rs => exact ⟨(fun _ z => nomatch z), (fun _ z => nomatch z)⟩
  | ow k => exact ⟨List.nodup_nil, (fun _ z => nomatch z), (fun _ z => nomatch z)⟩
/-- what a result's cells are known by -/
theorem RMok.kn (hM : ∀ j ∈ M, ∃ k, md G j = .ow k) {m : RM} {fp : List Addr} (o : RMok G M fs H fs' fp m) : ∀ a ∈ fp, Kn G fs H a := by
  cases m with
  | vw k rs => exact o.2
  | ow k => exact fun a ha => (o.2.1 a ha).elim .inr fun ⟨j, hj, q⟩ => .inl ⟨j, (let ⟨k, hk⟩ := hM j hj; by rw [hk]; simp), q⟩
theorem RMok.rt {m : RM} {fp : List Addr} (o : RMok G M fs H fs' fp m) : ∀ a ∈ fp, ∀ j, (md G j).own = true → a ∈ fs' j → j ∈ m.rs := by
  cases m with
  | vw k rs => exact o.1
  | ow k => exact fun a ha j hj haj => absurd haj (o.2.2 a ha j hj)
/-- new cells behind a result -/
theorem fresh_off {σ : L2.St} {sl : Ev} (S : SR K (kill M G) sl σ H1 fs') {a : Addr} (h : H1 a = none) : ∀ j, (md G j).own = true → a ∉ fs' j := fun j hj haj =>
  S.alive (own_ne_no (by rw [own_kill]; exact hj)) haj h
theorem ok_own {σ : L2.St} {sl0 sl : Ev} (S : SR K (kill M G) sl σ H1 fs') (T : Tr M sl0 fs H sl fs' H1) {d : D} {v : V} {gp : List Addr} (r : Rep K H2 d v gp) (h : mdep d ≤ 1) (fr : ∀ p ∈ gp, v = .ref p → H1 p = none) : RMok G M fs H fs' gp (.ow 1) := by
  rcases r.one h with e | ⟨p, e1, e2⟩
  · subst e; exact ⟨List.nodup_nil, (fun _ z => nomatch z), (fun _ z => nomatch z)⟩
  · subst e2
    have n := fr p List.mem_cons_self e1
    refine ⟨by simp, fun a ha => ?_, fun a ha => ?_⟩
    · simp at ha; subst ha; exact .inl (T.t2 _ n)
    · simp at ha; subst ha; exact fresh_off S n
end

def bin2 (op : D → D → Option D) (fa fb : Ev → Option (D × Ev)) : Ev → Option (D × Ev) := fun sl =>
  (fa sl).bind fun p => (fb p.2).bind fun q => (op p.1 q.1).map fun z => (z, q.2)
theorem bin2_some {op : D → D → Option D} {fa fb : Ev → Option (D × Ev)} {sl sl' : Ev} {z : D} (h : bin2 op fa fb sl = some (z, sl')) : ∃ d sl1 e, fa sl = some (d, sl1) ∧ fb sl1 = some (e, sl') ∧ op d e = some z := by
  unfold bin2 at h
  cases h1 : fa sl with
  | none => rw [h1] at h; cases h
  | some p =>
    obtain ⟨d, sl1⟩ := p
    rw [h1] at h
    simp only [Option.bind_some] at h
    cases h2 : fb sl1 with
    | none => rw [h2] at h; cases h
    | some q =>
      obtain ⟨e, sl2⟩ := q
      rw [h2] at h
      simp only [Option.bind_some] at h
      cases h3 : op d e with
      | none => rw [h3] at h; cases h
      | some w =>
        rw [h3] at h
        simp only [Option.map_some, Option.some.injEq, Prod.mk.injEq] at h
        obtain ⟨rfl, rfl⟩ := h
        exact ⟨d, sl1, e, rfl, h2, h3⟩
def eBin (op : D → D → Option D) (ga gb : Ev → Option D) : Ev → Option D := fun sl => (ga sl).bind fun a => (gb sl).bind fun b => op a b
theorem bin2_lift {op : D → D → Option D} {ga gb : Ev → Option D} : lift (eBin op ga gb) = bin2 op (lift ga) (lift gb) := by
  funext sl
  unfold lift bin2 eBin
  cases h1 : ga sl with
  | none => simp [h1]
  | some a =>
    cases h2 : gb sl with
    | none => simp [h1, h2]
    | some b => simp [h1, h2]
def un1 (op : D → Option D) (fa : Ev → Option (D × Ev)) : Ev → Option (D × Ev) := fun sl => (fa sl).bind fun p => (op p.1).map fun z => (z, p.2)
theorem un1_some {op : D → Option D} {fa : Ev → Option (D × Ev)} {sl sl' : Ev} {z : D} (h : un1 op fa sl = some (z, sl')) : ∃ d, fa sl = some (d, sl') ∧ op d = some z := by
  unfold un1 at h
  cases h1 : fa sl with
  | none => rw [h1] at h; cases h
  | some p =>
    obtain ⟨d, sl1⟩ := p
    rw [h1] at h
    simp only [Option.bind_some] at h
    cases h3 : op d with
    | none => rw [h3] at h; cases h
    | some w =>
      rw [h3] at h
      simp only [Option.map_some, Option.some.injEq, Prod.mk.injEq] at h
      obtain ⟨rfl, rfl⟩ := h
      exact ⟨d, rfl, h3⟩
def eUn (op : D → Option D) (ga : Ev → Option D) : Ev → Option D := fun sl => (ga sl).bind op
theorem un1_lift {op : D → Option D} {ga : Ev → Option D} : lift (eUn op ga) = un1 op (lift ga) := by
  funext sl
  unfold lift un1 eUn
  cases h1 : ga sl with
  | none => simp [h1]
  | some a => simp [h1]

end Dw
/-! Dw, part D: operations by values: arithmetic, comparisons, sequences. -/
namespace Dw
open PySem PySem.Spec PyProof.Rows L2

/-! ### data for the kit's == -/
mutual
def toPy : D → PyData
  | .non => .none
  | .bl b => .bool b
  | .int i => .int i
  | .str x => .str x
  | .tup xs => .tuple (toPys xs)
  | .lst xs => .list (toPys xs)
  | .dct _ _ _ => .dict []
  | .frz _ => .dict []
def toPys : List D → List PyData
  | [] => []
  | d :: ds => toPy d :: toPys ds
end
theorem toPys_eq : ∀ ds : List D, toPys ds = ds.map toPy
  | [] => rfl
  | d :: ds => by unfold toPys; rw [toPys_eq ds]; rfl
/-- data that == compares: no dict, not deeper than 60 -/
def cmpOk (d : D) : Bool := (toPy d).plain && decide ((toPy d).depth ≤ 60)
def deq (d e : D) : Bool := PyData.eqv (toPy d) (toPy e)
section
variable {K : PySem.W.Frag} {H : Hp}
mutual
theorem Rep.dp : ∀ {d : D} {v : V} {fp : List Addr}, Rep K H d v fp → (toPy d).plain = true → Dp K H v (toPy d)
  | _, _, _, .non, _ => .non
  | _, _, _, .bl b, _ => .bl b
  | _, _, _, .int i, _ => .int i
  | _, _, _, .str x, _ => .str x
  | _, _, _, .tup h r, p => .tup (SqT.of h) (Reps.dp r (by simpa [toPy, PyData.plain] using p))
  | _, _, _, .lst h r, p => .lst (SqL.of h) (Reps.dp r (by simpa [toPy, PyData.plain] using p))
  | .frz _, _, _, .frz _, p => by simp [toPy, PyData.plain] at p
  | .dct _ _ _, _, _, .dK _ _ _, p => by simp [toPy, PyData.plain] at p
  | .dct _ _ _, _, _, .dT _ _ _, p => by simp [toPy, PyData.plain] at p
theorem Reps.dp : ∀ {ds : List D} {vs : List V} {fp : List Addr}, Reps K H ds vs fp → PyData.plainAll (toPys ds) = true → DpAll K H vs (toPys ds)
  | _, _, _, .nil, _ => .nil
  | _, _, _, .cons r t, p => by
    simp only [toPys, PyData.plainAll, Bool.and_eq_true] at p
    exact .cons (Rep.dp r p.1) (Reps.dp t p.2)
end
end
/-- a == b -/
def opEq (d e : D) : Option D := match d, e with
  | .int i, .int j => some (.bl (i == j))
  | d, e => if cmpOk d && cmpOk e then some (.bl (deq d e)) else none
def opNe (d e : D) : Option D := match d, e with
  | .int i, .int j => some (.bl (!(i == j)))
  | d, e => if cmpOk d && cmpOk e then some (.bl (!deq d e)) else none
theorem opEq_eq {d e z : D} (h : opEq d e = some z) : cmpOk d = true ∧ cmpOk e = true ∧ z = .bl (deq d e) := by
  unfold opEq at h
  split at h
  · cases h; exact ⟨rfl, rfl, rfl⟩
  · split at h
    · rename_i q
      cases h
      rw [Bool.and_eq_true] at q
      exact ⟨q.1, q.2, rfl⟩
    · cases h
theorem opNe_eq {d e z : D} (h : opNe d e = some z) : cmpOk d = true ∧ cmpOk e = true ∧ z = .bl (!deq d e) := by
  unfold opNe at h
  split at h
  · cases h; exact ⟨rfl, rfl, rfl⟩
  · split at h
    · rename_i q
      cases h
      rw [Bool.and_eq_true] at q
      exact ⟨q.1, q.2, rfl⟩
    · cases h
theorem cmpOk_and {d : D} (h : cmpOk d = true) : (toPy d).plain = true ∧ (toPy d).depth ≤ 60 := by
  unfold cmpOk at h
  rw [Bool.and_eq_true, decide_eq_true_eq] at h
  exact h

section
variable {X : Cx}
def rPEq (K : PySem.W.Frag) : R2 := fun x y H Q => ∃ d e : PyData, Dp K H x d ∧ Dp K H y e ∧ d.plain = true ∧ e.plain = true ∧ d.depth ≤ 60 ∧ Q (.bl (PyData.eqv d e)) H
def rPNe (K : PySem.W.Frag) : R2 := fun x y H Q => ∃ d e : PyData, Dp K H x d ∧ Dp K H y e ∧ d.plain = true ∧ e.plain = true ∧ d.depth ≤ 60 ∧ Q (.bl (!PyData.eqv d e)) H
theorem op_peq (hu : X.A.units + 64 < cLine) : OpR X (compareOp .Eq) (rPEq X.K) := by
  intro pins s σ H x y v u Q I rx ry h
  obtain ⟨d, e, hd, he, pd, pe, dd, q⟩ := h
  obtain ⟨as, r1⟩ := Dp.reads I d x v hd rx
  obtain ⟨bs, r2⟩ := Dp.reads I e y u he ry
  exact SeqAt.eq_plain r1 r2 pd pe (by have : min d.depth e.depth ≤ d.depth := Nat.min_le_left _ _; omega) ⟨.bl _, H, I, rfl, q⟩
theorem op_pne (hu : X.A.units + 64 < cLine) : OpR X (compareOp .NotEq) (rPNe X.K) := by
  intro pins s σ H x y v u Q I rx ry h
  obtain ⟨d, e, hd, he, pd, pe, dd, q⟩ := h
  obtain ⟨as, r1⟩ := Dp.reads I d x v hd rx
  obtain ⟨bs, r2⟩ := Dp.reads I e y u he ry
  exact SeqAt.ne_plain r1 r2 pd pe (by have : min d.depth e.depth ≤ d.depth := Nat.min_le_left _ _; omega) ⟨.bl _, H, I, rfl, q⟩
end
theorem fr_bl {H : Hp} {v : V} {b : Bool} (e : v = .bl b) : ∀ (p : Addr), p ∈ ([] : List Addr) → v = .ref p → H p = none := fun _ z => nomatch z
theorem vr_eq {K : PySem.W.Frag} : VR2 K (rPEq K) opEq false := fun H x y d e fp gp z Q sz ra rb h q => by
  obtain ⟨c1, c2, rfl⟩ := opEq_eq h
  obtain ⟨p1, p2⟩ := cmpOk_and c1
  obtain ⟨p3, _⟩ := cmpOk_and c2
  exact ⟨toPy d, toPy e, ra.dp p1, rb.dp p3, p1, p3, p2, q (.bl _) H [] (Ext.refl H) (.bl _) (fun _ z => nomatch z) fun z => nomatch z⟩
theorem vr_ne {K : PySem.W.Frag} : VR2 K (rPNe K) opNe false := fun H x y d e fp gp z Q sz ra rb h q => by
  obtain ⟨c1, c2, rfl⟩ := opNe_eq h
  obtain ⟨p1, p2⟩ := cmpOk_and c1
  obtain ⟨p3, _⟩ := cmpOk_and c2
  exact ⟨toPy d, toPy e, ra.dp p1, rb.dp p3, p1, p3, p2, q (.bl _) H [] (Ext.refl H) (.bl _) (fun _ z => nomatch z) fun z => nomatch z⟩

/-! ### ints -/
def opI (g : Int → Int → D) (d e : D) : Option D := match d, e with
  | .int i, .int j => some (g i j)
  | _, _ => none
theorem opI_some {g : Int → Int → D} {d e z : D} (h : opI g d e = some z) : ∃ i j, d = .int i ∧ e = .int j ∧ z = g i j := by
  unfold opI at h
  split at h
  · cases h; exact ⟨_, _, rfl, rfl, rfl⟩
  · cases h
theorem Rep.int_inv {K : PySem.W.Frag} {H : Hp} {i : Int} {v : V} {fp : List Addr} (h : Rep K H (.int i) v fp) : v = .int i ∧ fp = [] := by cases h; exact ⟨rfl, rfl⟩
def scD : V → Option D
  | .non => some .non
  | .bl b => some (.bl b)
  | .int i => some (.int i)
  | .str x => some (.str x)
  | _ => none
theorem scD_rep {K : PySem.W.Frag} {H : Hp} {v : V} {d : D} (h : scD v = some d) : Rep K H d v [] ∧ mdep d = 0 := by
  cases v <;> simp [scD] at h <;> subst h
  · exact ⟨.non, rfl⟩
  · exact ⟨.bl _, rfl⟩
  · exact ⟨.int _, rfl⟩
  · exact ⟨.str _, rfl⟩
/-- ints in, a plain value out -/
theorem vr_I0 {K : PySem.W.Frag} {g : Int → Int → V} {gd : Int → Int → D} (hg : ∀ i j, scD (g i j) = some (gd i j)) : VR2 K (rI0 g) (opI gd) false := fun H x y d e fp gp z Q sz ra rb h q => by
  obtain ⟨i, j, rfl, rfl, rfl⟩ := opI_some h
  obtain ⟨rfl, rfl⟩ := ra.int_inv
  obtain ⟨rfl, rfl⟩ := rb.int_inv
  exact ⟨i, j, rfl, rfl, q _ H [] (Ext.refl H) (scD_rep (hg i j)).1 (fun _ z => nomatch z) fun z => nomatch z⟩
/-- .. where a condition holds -/
def opIc (c : Int → Int → Bool) (g : Int → Int → D) (d e : D) : Option D := match d, e with
  | .int i, .int j => if c i j then some (g i j) else none
  | _, _ => none
theorem opIc_some {c : Int → Int → Bool} {g : Int → Int → D} {d e z : D} (h : opIc c g d e = some z) : ∃ i j, d = .int i ∧ e = .int j ∧ c i j = true ∧ z = g i j := by
  unfold opIc at h
  split at h
  · rename_i i j
    split at h
    · rename_i hc
      cases h; exact ⟨_, _, rfl, rfl, hc, rfl⟩
    · cases h
  · cases h
theorem vr_Ic {K : PySem.W.Frag} {C : Int → Int → Prop} {c : Int → Int → Bool} {g : Int → Int → V} {gd : Int → Int → D} (hc : ∀ i j, c i j = true → C i j) (hg : ∀ i j, scD (g i j) = some (gd i j)) : VR2 K (rI C g) (opIc c gd) false := fun H x y d e fp gp z Q sz ra rb h q => by
  obtain ⟨i, j, rfl, rfl, c1, rfl⟩ := opIc_some h
  obtain ⟨rfl, rfl⟩ := ra.int_inv
  obtain ⟨rfl, rfl⟩ := rb.int_inv
  exact ⟨i, j, rfl, rfl, hc i j c1, q _ H [] (Ext.refl H) (scD_rep (hg i j)).1 (fun _ z => nomatch z) fun z => nomatch z⟩
def opSub : D → D → Option D := opI fun i j => .int (i - j)
theorem vr_sub {K : PySem.W.Frag} : VR2 K (rI0 fun i j => .int (i - j)) opSub false := vr_I0 fun _ _ => rfl
def opMod : D → D → Option D := opIc (fun _ j => decide (0 < j)) fun i j => .int (i % j)
theorem vr_mod {K : PySem.W.Frag} : VR2 K (rI (fun _ j => 0 < j) fun i j => .int (i % j)) opMod false := vr_Ic (fun _ _ h => of_decide_eq_true h) fun _ _ => rfl
def opDiv : D → D → Option D := opIc (fun _ j => decide (0 < j) && decide (j < 1073741824)) fun i j => .int (i / j)
theorem vr_div {K : PySem.W.Frag} : VR2 K (rI CDiv fun i j => .int (i / j)) opDiv false := vr_Ic (fun _ _ h => by simpa [CDiv] using h) fun _ _ => rfl
def opPow : D → D → Option D := opIc (fun i j => decide (0 ≤ j) && decide (j ≤ 1000000) && decide (i.natAbs < 2 ^ 64)) fun i j => .int (i ^ j.toNat)
theorem vr_pow {K : PySem.W.Frag} : VR2 K (rI CPow fun i j => .int (i ^ j.toNat)) opPow false := vr_Ic (fun _ _ h => by simpa [CPow, and_assoc] using h) fun _ _ => rfl
def opShl : D → D → Option D := opIc (fun i j => decide (0 ≤ j) && decide (j ≤ 1000000) && decide (i.natAbs < 2 ^ 64)) fun i j => .int (i * 2 ^ j.toNat)
theorem vr_shl {K : PySem.W.Frag} : VR2 K (rI CPow fun i j => .int (i * 2 ^ j.toNat)) opShl false := vr_Ic (fun _ _ h => by simpa [CPow, and_assoc] using h) fun _ _ => rfl
def opXor : D → D → Option D := opI fun i j => .int (Builtin.bitXor i j)
theorem vr_xor {K : PySem.W.Frag} : VR2 K (rI0 fun i j => .int (Builtin.bitXor i j)) opXor false := vr_I0 fun _ _ => rfl
def opAnd : D → D → Option D := opI fun i j => .int (Builtin.bitAnd i j)
theorem vr_and {K : PySem.W.Frag} : VR2 K (rI0 fun i j => .int (Builtin.bitAnd i j)) opAnd false := vr_I0 fun _ _ => rfl

/-! ### +: ints, lists, tuples, texts -/
def opAdd (d e : D) : Option D := match d, e with
  | .int i, .int j => some (.int (i + j))
  | .lst xs, .lst ys => if xs.length + ys.length ≤ sizeLine then some (.lst (xs ++ ys)) else none
  | .tup xs, .tup ys => if xs.length + ys.length ≤ sizeLine then some (.tup (xs ++ ys)) else none
  | _, _ => none
def rAdd (K : PySem.W.Frag) : R2 := fun x y H Q => rI0 (fun i j => .int (i + j)) x y H Q ∨ rCat x y H Q ∨ rCatA K x y H Q
theorem op_addA {X : Cx} : OpR X (binaryOp .Add) (rAdd X.K) := by
  intro pins s σ H x y v u Q I rx ry h
  rcases h with h | h | h
  · exact op_add pins s σ H x y v u Q I rx ry h
  · exact op_cat pins s σ H x y v u Q I rx ry h
  · exact op_catA pins s σ H x y v u Q I rx ry h
theorem szO_lst {xs : List V} (h : xs.length ≤ sizeLine) : szO (.lst xs) = true := decide_eq_true h
theorem szO_tup {xs : List V} (h : xs.length ≤ sizeLine) : szO (.tup xs) = true := decide_eq_true h
/-- a list's own cell, if it is flat -/
theorem fr_new {K : PySem.W.Frag} {H H' : Hp} {d : D} {p : Addr} {hp : List Addr} (n : H p = none) : ∀ q ∈ hp, V.ref p = .ref q → H q = none := fun q _ e => by
  have e' := V.ref.inj e
  rw [← e']; exact n
/-- a new list of represented items -/
theorem new_lst {K : PySem.W.Frag} {H : Hp} {ds : List D} {vs : List V} {fp : List Addr} {p : Addr} (r : Reps K H ds vs fp) (n : H p = none) : Rep K (upd H p (.lst vs)) (.lst ds) (.ref p) (p :: fp) := .lst upd_same (r.same (same_upd n))
theorem new_tup {K : PySem.W.Frag} {H : Hp} {ds : List D} {vs : List V} {fp : List Addr} {p : Addr} (r : Reps K H ds vs fp) (n : H p = none) : Rep K (upd H p (.tup vs)) (.tup ds) (.ref p) fp := .tup upd_same (r.same (same_upd n))
theorem imm_tup_fp {K : PySem.W.Frag} {H : Hp} {ds : List D} {v : V} {fp : List Addr} (r : Rep K H (.tup ds) v fp) (h : mdep (.tup ds) ≤ 1) : fp = [] := by
  cases r with
  | tup hs r => exact r.imm_of (mdep_tup_le h)
theorem vr_add {K : PySem.W.Frag} : VR2 K (rAdd K) opAdd true := fun H x y d e fp gp z Q sz ra rb h q => by
  unfold opAdd at h
  split at h
  · rename_i i j
    cases h
    obtain ⟨rfl, rfl⟩ := ra.int_inv
    obtain ⟨rfl, rfl⟩ := rb.int_inv
    exact .inl ⟨i, j, rfl, rfl, q (.int (i + j)) H [] (Ext.refl H) (.int _) (fun _ z => nomatch z) fun _ _ _ z => nomatch z⟩
  · rename_i xs ys
    split at h
    · rename_i hl
      cases h
      cases ra with
      | lst h1 r1 =>
        cases rb with
        | lst h2 r2 =>
          have hl' := hl
          rw [r1.length, r2.length] at hl'
          refine .inr (.inl ⟨_, _, _, _, rfl, rfl, h1, h2, hl', fun p n => ?_⟩)
          refine q _ _ _ (Ext.upd n (szO_lst (by rw [List.length_append]; exact hl'))) (new_lst (r1.append r2) n) (fun a ha => ?_) fun _ _ => fr_new (K := K) (H' := H) (d := .non) n
          rcases List.mem_cons.mp ha with e | ha
          · exact .inr (.inr (e ▸ n))
          · rcases List.mem_append.mp ha with ha | ha
            · exact .inl (List.mem_cons_of_mem _ ha)
            · exact .inr (.inl (List.mem_cons_of_mem _ ha))
    · cases h
  · rename_i xs ys
    split at h
    · rename_i hl
      cases h
      cases ra with
      | tup h1 r1 =>
        cases rb with
        | tup h2 r2 =>
          have hl' := hl
          rw [r1.length, r2.length] at hl'
          refine .inr (.inr ⟨_, _, _, _, rfl, rfl, SqT.of h1, SqT.of h2, hl', fun e0 => ?_, fun n0 e1 => ?_, fun n0 n1 p n => ?_⟩)
          · have e := r1.length
            rw [e0] at e
            have e2 : xs = [] := List.eq_nil_of_length_eq_zero e
            subst e2
            cases r1
            exact q _ H gp (Ext.refl H) (.tup h2 r2) (fun a ha => .inr (.inl ha)) fun _ hm p hp => by rw [imm_tup_fp (.tup h2 r2) hm] at hp; cases hp
          · have e := r2.length
            rw [e1] at e
            have e2 : ys = [] := List.eq_nil_of_length_eq_zero e
            subst e2
            rw [List.append_nil] at q
            exact q _ H fp (Ext.refl H) (.tup h1 r1) (fun a ha => .inl ha) fun _ hm p hp => by rw [imm_tup_fp (.tup h1 r1) hm] at hp; cases hp
          · exact q _ _ _ (Ext.upd n (szO_tup (by rw [List.length_append]; exact hl'))) (new_tup (r1.append r2) n) (fun a ha => (List.mem_append.mp ha).elim .inl fun z => .inr (.inl z)) fun _ _ => fr_new (K := K) (H' := H) (d := .non) n
    · cases h
  · cases h
end Dw
/-! Dw, part E: more operations by values: *, places, slices, in, is, truth. -/
namespace Dw
open PySem PySem.Spec PyProof.Rows L2

/-! ### * -/
def smallI (i : Int) : Bool := decide (i.natAbs < 2 ^ 64)
theorem cmul_of {i j : Int} (h : (smallI i || smallI j) = true) : CMul i j := by
  unfold smallI at h
  rw [Bool.or_eq_true, decide_eq_true_eq, decide_eq_true_eq] at h
  rcases h with h | h
  · exact .inl ⟨by omega, by omega⟩
  · exact .inr ⟨by omega, by omega⟩
/-- n times the items -/
def repD : Nat → List D → List D
  | 0, _ => []
  | n + 1, xs => xs ++ repD n xs
def opMul (d e : D) : Option D := match d, e with
  | .int i, .int j => if smallI i || smallI j then some (.int (i * j)) else none
  | .lst xs, .int k => if smallI (k + k) && decide (xs.length * k.toNat ≤ sizeLine) then some (.lst (repD k.toNat xs)) else none
  | _, _ => none
def rMulA : R2 := fun x y H Q => rI CMul (fun i j => .int (i * j)) x y H Q ∨ rRep x y H Q
theorem op_mulA {X : Cx} : OpR X (binaryOp .Mult) rMulA := by
  intro pins s σ H x y v u Q I rx ry h
  rcases h with h | h
  · exact op_mul pins s σ H x y v u Q I rx ry h
  · exact op_rep pins s σ H x y v u Q I rx ry h
theorem Reps.rep {K : PySem.W.Frag} {H : Hp} {ds : List D} {vs : List V} {fp : List Addr} (r : Reps K H ds vs fp) : ∀ n : Nat, ∃ gp, Reps K H (repD n ds) (List.replicate n vs).flatten gp ∧ ∀ a ∈ gp, a ∈ fp
  | 0 => ⟨[], .nil, fun _ z => nomatch z⟩
  | n + 1 => by
    obtain ⟨gp, h1, h2⟩ := Reps.rep r n
    refine ⟨fp ++ gp, ?_, fun a ha => (List.mem_append.mp ha).elim id (h2 a)⟩
    rw [List.replicate_succ, List.flatten_cons]
    exact r.append h1
theorem vr_mul {K : PySem.W.Frag} : VR2 K rMulA opMul true := fun H x y d e fp gp z Q sz ra rb h q => by
  unfold opMul at h
  split at h
  · rename_i i j
    split at h
    · rename_i hc
      cases h
      obtain ⟨rfl, rfl⟩ := ra.int_inv
      obtain ⟨rfl, rfl⟩ := rb.int_inv
      exact .inl ⟨i, j, rfl, rfl, cmul_of hc, q (.int (i * j)) H [] (Ext.refl H) (.int _) (fun _ z => nomatch z) fun _ _ _ z => nomatch z⟩
    · cases h
  · rename_i xs k
    split at h
    · rename_i hc
      cases h
      rw [Bool.and_eq_true, decide_eq_true_eq] at hc
      obtain ⟨hk, hl⟩ := hc
      unfold smallI at hk
      rw [decide_eq_true_eq] at hk
      obtain ⟨rfl, rfl⟩ := rb.int_inv
      cases ra with
      | lst h1 r1 =>
        rename_i a vs fp0
        have hl' := hl
        rw [r1.length] at hl'
        refine .inr ⟨_, k, _, rfl, rfl, h1, by omega, by omega, hl', fun p n => ?_⟩
        obtain ⟨gp, r2, sub⟩ := r1.rep k.toNat
        refine q _ _ _ (Ext.upd n (szO_lst ?_)) (new_lst r2 n) (fun c hc => ?_) fun _ _ => fr_new (K := K) (H' := H) (d := .non) n
        · rw [PyProof.Rows.lm_len_rep_flat, Nat.mul_comm]; exact hl'
        · rcases List.mem_cons.mp hc with e | hc
          · exact .inr (.inr (e ▸ n))
          · exact .inl (List.mem_cons_of_mem _ (sub c hc))
    · cases h
  · cases h

/-! ### keys -/
def keyK : D → Option Key
  | .int i => some (.inl i)
  | .str x => some (.inr x)
  | _ => none
def keysK : List D → Option (List Key)
  | [] => some []
  | d :: ds => (keyK d).bind fun k => (keysK ds).map fun ks => k :: ks
theorem keyK_eq {d : D} {k : Key} (h : keyK d = some k) : d = kD k := by
  cases d <;> simp [keyK] at h <;> subst h <;> rfl
theorem keysK_eq : ∀ {ds : List D} {ks : List Key}, keysK ds = some ks → ds = ks.map kD
  | [], ks, h => by cases h; rfl
  | d :: ds, ks, h => by
    unfold keysK at h
    cases h1 : keyK d with
    | none => rw [h1] at h; cases h
    | some k =>
      rw [h1] at h
      cases h2 : keysK ds with
      | none => rw [h2] at h; cases h
      | some r =>
        rw [h2] at h
        cases h
        rw [keyK_eq h1, keysK_eq h2]; rfl
theorem Rep.key {K : PySem.W.Frag} {H : Hp} {k : Key} {v : V} {fp : List Addr} (r : Rep K H (kD k) v fp) : v = kV k := by
  cases k with
  | inl i => cases r; rfl
  | inr x => cases r; rfl
theorem Reps.keys {K : PySem.W.Frag} {H : Hp} : ∀ {ks : List Key} {vs : List V} {fp : List Addr}, Reps K H (ks.map kD) vs fp → vs = ks.map kV
  | [], _, _, r => by cases r; rfl
  | k :: ks, _, _, r => by
    cases r with
    | cons r t => rw [Rep.key r, Reps.keys t]; rfl
/-- == of keys -/
def keq : D → D → Bool
  | .int i, .int j => i == j
  | .str x, .str y => x == y
  | _, _ => false
def keqs : List D → List D → Bool
  | [], [] => true
  | d :: ds, e :: es => keq d e && keqs ds es
  | _, _ => false
def keqT : D → D → Bool
  | .tup xs, .tup ys => keqs xs ys
  | d, e => keq d e
theorem keq_kD (a b : Key) : keq (kD a) (kD b) = decide (a = b) := by
  cases a <;> cases b <;> simp [kD, keq]
  · rename_i i j
    rw [Bool.eq_iff_iff]; simp
  · rename_i i j
    rw [Bool.eq_iff_iff]; simp
theorem keqs_kD : ∀ a b : List Key, keqs (a.map kD) (b.map kD) = decide (a = b)
  | [], [] => by simp [keqs]
  | [], _ :: _ => by simp [keqs]
  | _ :: _, [] => by simp [keqs]
  | x :: a, y :: b => by
    simp only [List.map_cons, keqs, keq_kD, keqs_kD a b]
    rw [Bool.eq_iff_iff]; simp
theorem keqT_kD (a b : Key) : keqT (kD a) (kD b) = decide (a = b) := by
  rw [← keq_kD]
  cases a <;> cases b <;> rfl
theorem keqT_tup (a b : List Key) : keqT (.tup (a.map kD)) (.tup (b.map kD)) = decide (a = b) := keqs_kD a b
/-- a key fit for a dict of the sort t -/
def kfit (t : Bool) (d : D) : Bool := match t, d with
  | false, d => (keyK d).isSome
  | true, .tup ds => (keysK ds).isSome
  | true, _ => false
/-- what a dict holds -/
def dfind : List D → List D → D → Option D
  | k :: ks, v :: vs, x => if keqT k x then some v else dfind ks vs x
  | _, _, _ => none
section
variable {K : PySem.W.Frag} {H : Hp}
theorem dfind_K {k : Key} : ∀ {kvs : List (Key × V)} {ds : List D} {fp : List Addr}, Reps K H ds (kvs.map (·.2)) fp →
    (∃ d v f, dfind (kvs.map fun p => kD p.1) ds (kD k) = some d ∧ valV kvs k = some v ∧ Rep K H d v f ∧ ∀ a ∈ f, a ∈ fp) ∨ (dfind (kvs.map fun p => kD p.1) ds (kD k) = none ∧ valV kvs k = none)
  | [], _, _, r => by cases r; exact .inr ⟨rfl, rfl⟩
  | p :: kvs, _, _, r => by
    cases r with
    | @cons d v f ds vs g r t =>
      simp only [List.map_cons, dfind, keqT_kD]
      by_cases e : p.1 = k
      · rw [valV_pos e, decide_eq_true e]
        exact .inl ⟨_, _, _, rfl, rfl, r, fun a ha => List.mem_append_left _ ha⟩
      · rw [valV_neg e, decide_eq_false e]
        rcases dfind_K (k := k) t with ⟨d, v, f, h1, h2, h3, h4⟩ | h
        · exact .inl ⟨d, v, f, h1, h2, h3, fun a ha => List.mem_append_right _ (h4 a ha)⟩
        · exact .inr h
theorem dfind_T {k : List Key} : ∀ {kvs : List (List Key × V)} {ds : List D} {fp : List Addr}, Reps K H ds (kvs.map (·.2)) fp →
    (∃ d v f, dfind (kvs.map fun p => D.tup (p.1.map kD)) ds (.tup (k.map kD)) = some d ∧ valV kvs k = some v ∧ Rep K H d v f ∧ ∀ a ∈ f, a ∈ fp) ∨ (dfind (kvs.map fun p => D.tup (p.1.map kD)) ds (.tup (k.map kD)) = none ∧ valV kvs k = none)
  | [], _, _, r => by cases r; exact .inr ⟨rfl, rfl⟩
  | p :: kvs, _, _, r => by
    cases r with
    | @cons d v f ds vs g r t =>
      simp only [List.map_cons, dfind, keqT_tup]
      by_cases e : p.1 = k
      · rw [valV_pos e, decide_eq_true e]
        exact .inl ⟨_, _, _, rfl, rfl, r, fun a ha => List.mem_append_left _ ha⟩
      · rw [valV_neg e, decide_eq_false e]
        rcases dfind_T (k := k) t with ⟨d, v, f, h1, h2, h3, h4⟩ | h
        · exact .inl ⟨d, v, f, h1, h2, h3, fun a ha => List.mem_append_right _ (h4 a ha)⟩
        · exact .inr h
/-- a look into a dict -/
theorem dget_of {t : Bool} {ks vs : List D} {x y : V} {fp gp : List Addr} {k : D} (rd : Rep K H (.dct t ks vs) x fp) (rk : Rep K H k y gp) (hk : kfit t k = true) :
    ∃ a, x = .ref a ∧ ((∃ d v f, dfind ks vs k = some d ∧ DGet H a y (some v) ∧ Rep K H d v f ∧ ∀ b ∈ f, b ∈ fp) ∨ (dfind ks vs k = none ∧ DGet H a y none)) := by
  cases rd with
  | @dK a kvs _ _ fp h1 e r =>
    obtain ⟨key, hkey⟩ := Option.isSome_iff_exists.mp (show (keyK k).isSome = true from hk)
    have e2 := keyK_eq hkey
    subst e2 e
    have ey := rk.key
    subst ey
    refine ⟨a, rfl, ?_⟩
    rcases dfind_K (k := key) r with ⟨d, v, f, q1, q2, q3, q4⟩ | ⟨q1, q2⟩
    · exact .inl ⟨d, v, f, q1, by rw [← q2]; exact DGet.k h1, q3, fun b hb => List.mem_cons_of_mem _ (q4 b hb)⟩
    · exact .inr ⟨q1, by rw [← q2]; exact DGet.k h1⟩
  | @dT a kvs _ _ fp h1 e r =>
    cases k with
    | tup kk =>
      obtain ⟨key, hkey⟩ := Option.isSome_iff_exists.mp (show (keysK kk).isSome = true from hk)
      have e2 := keysK_eq hkey
      subst e2 e
      cases rk with
      | tup hb rr =>
        have ev := rr.keys
        subst ev
        refine ⟨a, rfl, ?_⟩
        rcases dfind_T (k := key) r with ⟨d, v, f, q1, q2, q3, q4⟩ | ⟨q1, q2⟩
        · exact .inl ⟨d, v, f, q1, by rw [← q2]; exact DGet.t h1 hb, q3, fun b hb => List.mem_cons_of_mem _ (q4 b hb)⟩
        · exact .inr ⟨q1, by rw [← q2]; exact DGet.t h1 hb⟩
    | _ => cases hk
end

/-! ### places -/
def opIx (d e : D) : Option D := match d, e with
  | .lst xs, .int i => atI xs i
  | .tup xs, .int i => atI xs i
  | .dct t ks vs, k => if kfit t k then dfind ks vs k else none
  | .frz xs, .int i => (atI xs i).map .int
  | _, _ => none
def rDG : R2 := fun x y H Q => ∃ a v, x = .ref a ∧ DGet H a y (some v) ∧ Q v H
def rIxA (K : PySem.W.Frag) : R2 := fun x y H Q => rIxL K x y H Q ∨ rIxT K x y H Q ∨ rDG x y H Q
theorem ix_dict {X : Cx} (hu : X.A.units + 1 < cLine) : IxR X rDG := by
  intro value slice pins s σ H x y v u Q I rx ry h hs
  obtain ⟨a, w, rfl, g, q⟩ := h
  cases rx
  exact tail_any (dict_typeIs I g) PySem.F.slot_dict_getitem.lookup (d_getItem hu I g ry fun w' s' I' rw' => ⟨w, H, I', rw', q⟩) hs
theorem ix_all {X : Cx} (hu : X.A.units + 1 < cLine) : IxR X (rIxA X.K) := ix_list.or (ix_tup.or (ix_dict hu))
theorem ixN_same {i : Int} {n m : Nat} (h : n = m) : ixN n i = ixN m i := by rw [h]
theorem Reps.atI {K : PySem.W.Frag} {H : Hp} {ds : List D} {vs : List V} {fp : List Addr} (r : Reps K H ds vs fp) {i : Int} {d : D} (h : L2.atI ds i = some d) : ∃ v f, L2.atI vs i = some v ∧ Rep K H d v f ∧ ∀ a ∈ f, a ∈ fp := by
  unfold L2.atI at h ⊢
  rw [← r.length]
  cases e : ixN ds.length i with
  | none => rw [e] at h; cases h
  | some j =>
    rw [e] at h
    exact r.get h
theorem vr_ix {K : PySem.W.Frag} : VR2 K (rIxA K) opIx false := fun H x y d e fp gp z Q sz ra rb h q => by
  unfold opIx at h
  split at h
  · rename_i xs i
    obtain ⟨rfl, rfl⟩ := rb.int_inv
    cases ra with
    | lst h1 r1 =>
      obtain ⟨v, f, e1, e2, e3⟩ := r1.atI h
      exact .inl ⟨_, _, i, v, rfl, rfl, SqL.of h1, e1, q v H f (Ext.refl H) e2 (fun a ha => .inl (List.mem_cons_of_mem _ (e3 a ha))) fun z => nomatch z⟩
  · rename_i xs i
    obtain ⟨rfl, rfl⟩ := rb.int_inv
    cases ra with
    | tup h1 r1 =>
      obtain ⟨v, f, e1, e2, e3⟩ := r1.atI h
      exact .inr (.inl ⟨_, _, i, v, rfl, rfl, SqT.of h1, e1, q v H f (Ext.refl H) e2 (fun a ha => .inl (e3 a ha)) fun z => nomatch z⟩)
  · rename_i t ks vs k
    split at h
    · rename_i hk
      obtain ⟨a, rfl, g | g⟩ := dget_of ra rb hk
      · obtain ⟨d', v, f, e1, e2, e3, e4⟩ := g
        rw [h] at e1; cases e1
        exact .inr (.inr ⟨a, v, rfl, e2, q v H f (Ext.refl H) e3 (fun b hb => .inl (e4 b hb)) fun z => nomatch z⟩)
      · rw [h] at g; cases g.1
    · cases h
  · rename_i xs i
    obtain ⟨rfl, rfl⟩ := rb.int_inv
    obtain ⟨j, h1, h2⟩ := Option.map_eq_some_iff.mp h
    subst h2
    cases ra with
    | frz hf =>
      refine .inl ⟨_, _, i, .int j, rfl, rfl, hf.sq, ?_, q (.int j) H [] (Ext.refl H) (.int j) (fun a ha => nomatch ha) fun z => nomatch z⟩
      unfold L2.atI at h1 ⊢
      rw [List.length_map]
      cases e : ixN xs.length i with
      | none => rw [e] at h1; cases h1
      | some k =>
        rw [e] at h1
        show (xs.map V.int)[k]? = some (.int j)
        rw [List.getElem?_map]
        rw [show xs[k]? = some j from h1]; rfl
  · cases h

/-! ### in, not in -/
def opInB (x c : D) : Option Bool := match x, c with
  | x, .lst ds => if cmpOk x && (toPys ds).all PyData.plain then some (ds.any fun y => deq y x) else none
  | x, .tup ds => if cmpOk x && (toPys ds).all PyData.plain then some (ds.any fun y => deq y x) else none
  | x, .dct t ks vs => if kfit t x then some (dfind ks vs x).isSome else none
  | _, _ => none
def opIn (x c : D) : Option D := (opInB x c).map .bl
def opNi (x c : D) : Option D := (opInB x c).map fun b => .bl (!b)
def rInA (K : PySem.W.Frag) (neg : Bool) : R2 := fun x y H Q =>
  (∃ (d : PyData) (ds : List PyData), Dp K H x d ∧ (Dp K H y (.list ds) ∨ Dp K H y (.tuple ds)) ∧ d.plain = true ∧ d.depth ≤ 60 ∧ PyData.plainAll ds = true ∧ Q (.bl (if neg then !(ds.any fun z => PyData.eqv z d) else ds.any fun z => PyData.eqv z d)) H) ∨
  ∃ a o, y = .ref a ∧ DGet H a x o ∧ Q (.bl (if neg then !o.isSome else o.isSome)) H
theorem op_inA {X : Cx} (hu : X.A.units + 64 < cLine) : OpR X (compareOp .In) (rInA X.K false) := by
  intro pins s σ H x y v u Q I rx ry h
  rcases h with ⟨d, ds, hd, hs, pd, dd, ps, q⟩ | ⟨a, o, rfl, g, q⟩
  · obtain ⟨as, r1⟩ := Dp.reads I d x v hd rx
    have hm : min (PyData.depthAll ds) d.depth ≤ d.depth := Nat.min_le_right _ _
    rcases hs with hs | hs
    · obtain ⟨bs, r2⟩ := Dp.reads I _ y u hs ry
      exact SeqAt.in_list_data r2 r1 ps pd (by omega) ⟨.bl _, H, I, rfl, q⟩
    · obtain ⟨bs, r2⟩ := Dp.reads I _ y u hs ry
      exact SeqAt.in_tuple_data r2 r1 ps pd (by omega) ⟨.bl _, H, I, rfl, q⟩
  · cases ry
    exact d_in (by omega) I g rx fun s' I' => ⟨.bl _, H, I', rfl, q⟩
theorem op_niA {X : Cx} (hu : X.A.units + 64 < cLine) : OpR X (compareOp .NotIn) (rInA X.K true) := by
  intro pins s σ H x y v u Q I rx ry h
  rcases h with ⟨d, ds, hd, hs, pd, dd, ps, q⟩ | ⟨a, o, rfl, g, q⟩
  · obtain ⟨as, r1⟩ := Dp.reads I d x v hd rx
    have hm : min (PyData.depthAll ds) d.depth ≤ d.depth := Nat.min_le_right _ _
    rcases hs with hs | hs
    · obtain ⟨bs, r2⟩ := Dp.reads I _ y u hs ry
      exact SeqAt.notIn_list_data r2 r1 ps pd (by omega) ⟨.bl _, H, I, rfl, q⟩
    · obtain ⟨bs, r2⟩ := Dp.reads I _ y u hs ry
      exact SeqAt.notIn_tuple_data r2 r1 ps pd (by omega) ⟨.bl _, H, I, rfl, q⟩
  · cases ry
    exact d_notIn (by omega) I g rx fun s' I' => ⟨.bl _, H, I', rfl, q⟩
theorem plainAll_of : ∀ {ds : List D}, (toPys ds).all PyData.plain = true → PyData.plainAll (toPys ds) = true
  | [], _ => rfl
  | d :: ds, h => by
    unfold toPys at h ⊢
    rw [List.all_cons, Bool.and_eq_true] at h
    unfold PyData.plainAll
    rw [h.1, plainAll_of h.2]; rfl
theorem any_toPys (ds : List D) (p : PyData → Bool) : (toPys ds).any p = ds.any fun d => p (toPy d) := by
  rw [toPys_eq, List.any_map]; rfl
theorem vr_inB {K : PySem.W.Frag} (neg : Bool) : VR2 K (rInA K neg) (fun x c => (opInB x c).map fun b => .bl (if neg then !b else b)) false := fun H x y d e fp gp z Q sz ra rb h q => by
  obtain ⟨b, hb, rfl⟩ := Option.map_eq_some_iff.mp h
  have fin := q (.bl (if neg then !b else b)) H [] (Ext.refl H) (.bl _) (fun _ z => nomatch z) fun z => nomatch z
  unfold opInB at hb
  split at hb
  · rename_i ds
    split at hb
    · rename_i hc
      cases hb
      rw [Bool.and_eq_true] at hc
      obtain ⟨p1, p2⟩ := cmpOk_and hc.1
      have p3 := plainAll_of hc.2
      exact .inl ⟨toPy d, toPys ds, ra.dp p1, .inl (rb.dp (d := .lst ds) (by simpa [toPy, PyData.plain] using p3)), p1, p2, p3, by rw [any_toPys]; exact fin⟩
    · cases hb
  · rename_i ds
    split at hb
    · rename_i hc
      cases hb
      rw [Bool.and_eq_true] at hc
      obtain ⟨p1, p2⟩ := cmpOk_and hc.1
      have p3 := plainAll_of hc.2
      exact .inl ⟨toPy d, toPys ds, ra.dp p1, .inr (rb.dp (d := .tup ds) (by simpa [toPy, PyData.plain] using p3)), p1, p2, p3, by rw [any_toPys]; exact fin⟩
    · cases hb
  · rename_i t ks vs
    split at hb
    · rename_i hk
      cases hb
      obtain ⟨a, rfl, g | g⟩ := dget_of rb ra hk
      · obtain ⟨d', v, f, e1, e2, _⟩ := g
        rw [e1] at fin
        exact .inr ⟨a, some v, rfl, e2, fin⟩
      · rw [g.1] at fin
        exact .inr ⟨a, none, rfl, g.2, fin⟩
    · cases hb
  · cases hb
theorem vr_in {K : PySem.W.Frag} : VR2 K (rInA K false) opIn false := vr_inB false
theorem vr_ni {K : PySem.W.Frag} : VR2 K (rInA K true) opNi false := vr_inB true

/-! ### is: None, True, False -/
def opIsB (d e : D) : Option Bool := match d, e with
  | .non, .non => some true
  | .bl _, .non => some false
  | .int _, .non => some false
  | .str _, .non => some false
  | .tup _, .non => some false
  | .lst _, .non => some false
  | .dct _ _ _, .non => some false
  | .bl a, .bl b => some (a == b)
  | _, _ => none
def opIs (d e : D) : Option D := (opIsB d e).map .bl
def opIsN (d e : D) : Option D := (opIsB d e).map fun b => .bl (!b)
def rIsA (neg : Bool) : R2 := fun x y H Q => (y = .non ∧ Q (.bl (if neg then !decide (x = .non) else decide (x = .non))) H) ∨ ∃ a b : Bool, x = .bl a ∧ y = .bl b ∧ Q (.bl (if neg then !decide (a = b) else decide (a = b))) H
theorem op_isA {X : Cx} : OpR X (compareOp .Is) (rIsA false) := by
  intro pins s σ H x y v u Q I rx ry h
  rcases h with h | h
  · exact op_isN pins s σ H x y v u Q I rx ry h
  · exact op_isBl pins s σ H x y v u Q I rx ry h
theorem op_isnA {X : Cx} : OpR X (compareOp .IsNot) (rIsA true) := by
  intro pins s σ H x y v u Q I rx ry h
  rcases h with h | h
  · exact op_notN pins s σ H x y v u Q I rx ry h
  · exact op_notBl pins s σ H x y v u Q I rx ry h
theorem vr_isB {K : PySem.W.Frag} (neg : Bool) : VR2 K (rIsA neg) (fun x c => (opIsB x c).map fun b => .bl (if neg then !b else b)) false := fun H x y d e fp gp z Q sz ra rb h q => by
  obtain ⟨b, hb, rfl⟩ := Option.map_eq_some_iff.mp h
  have fin := q (.bl (if neg then !b else b)) H [] (Ext.refl H) (.bl _) (fun _ z => nomatch z) fun z => nomatch z
  unfold opIsB at hb
  split at hb
  · cases hb; cases ra; cases rb; exact .inl ⟨rfl, fin⟩
  · cases hb; cases ra; cases rb; exact .inl ⟨rfl, by simpa using fin⟩
  · cases hb; cases ra; cases rb; exact .inl ⟨rfl, by simpa using fin⟩
  · cases hb; cases ra; cases rb; exact .inl ⟨rfl, by simpa using fin⟩
  · cases hb; cases ra; cases rb; exact .inl ⟨rfl, by simpa using fin⟩
  · cases hb; cases ra; cases rb; exact .inl ⟨rfl, by simpa using fin⟩
  · cases hb; cases rb; cases ra <;> exact .inl ⟨rfl, by simpa using fin⟩
  · rename_i a b
    cases hb; cases ra; cases rb
    refine .inr ⟨a, b, rfl, rfl, ?_⟩
    rw [show decide (a = b) = (a == b) from (Bool.beq_eq_decide_eq a b).symm]
    exact fin
  · cases hb
theorem vr_is {K : PySem.W.Frag} : VR2 K (rIsA false) opIs false := vr_isB false
theorem vr_isn {K : PySem.W.Frag} : VR2 K (rIsA true) opIsN false := vr_isB true

/-! ### truth -/
def truD : D → Option Bool
  | .non => some false
  | .bl b => some b
  | .int i => some (i != 0)
  | .tup xs => some (!xs.isEmpty)
  | .lst xs => some (!xs.isEmpty)
  | .dct false ks _ => some (!ks.isEmpty)
  | .frz xs => some (!xs.isEmpty)
  | _ => none
theorem truD_ok {K : PySem.W.Frag} {H : Hp} {d : D} {v : V} {fp : List Addr} {b : Bool} (r : Rep K H d v fp) (h : truD d = some b) : TruV K v H b := by
  cases r with
  | non => cases h; rfl
  | bl c => cases h; rfl
  | int i => cases h; rfl
  | str x => cases h
  | @frz a xs h1 =>
    cases h
    refine .inl ⟨_, h1.sq, ?_⟩
    cases xs <;> rfl
  | tup h1 r1 =>
    cases h
    refine .inr (.inl ⟨_, SqT.of h1, ?_⟩)
    cases r1 <;> rfl
  | lst h1 r1 =>
    cases h
    refine .inl ⟨_, SqL.of h1, ?_⟩
    cases r1 <;> rfl
  | @dK a kvs ks ds fp h1 e r1 =>
    cases h
    refine .inr (.inr ⟨_, h1, ?_⟩)
    subst e
    cases kvs <;> rfl
  | dT h1 e r1 => cases h
end Dw
/-! Dw, part F: expressions: the readings at work, tests, and/or, if, argument lists, displays. -/
namespace Dw
open PySem PySem.Spec PyProof.Rows L2

/-- the reading t does what f says -/
def RunsE (X : Cx) (G : List Mode) (m : RM) (M : List Nat) (f : Ev → Option (D × Ev)) (t : TE) : Prop :=
  ∀ sl σ H fs d sl' (Q : VK), SR X.K G sl σ H fs → f sl = some (d, sl') → (∀ v H' fs' fp, Out X.K G M sl σ H fs m d sl' v H' fs' fp → Q v H') → t σ H Q

section
variable {X : Cx} {G : List Mode} {a b e : Expr} {ma mb : RM} {M N : List Nat} {fa fb : Ev → Option (D × Ev)} {fr : Bool} {pos : Pos}
theorem bin_run {r : R2} {op : D → D → Option D} (hv : VR2 X.K r op fr) (A : DE X G a ma M fa) (B : DE X (kill M G) b mb N fb) (ap : apart ma N = true) (m : RM)
    (dk : ∀ d e z, mdep d ≤ ma.k → mdep e ≤ mb.k → op d e = some z → mdep z ≤ m.k) (hm : m.k = 0 ∨ (∃ k, m = .vw k (ma.rs ++ mb.rs)) ∨ (m = .ow 1 ∧ fr = true)) :
    ∃ ta tb, PE X a ta ∧ PE X b tb ∧ RunsE X G m (M ++ N) (bin2 op fa fb) (tOp r ta tb) := by
  obtain ⟨ta, tb, pa, pb, run⟩ := A.two B ap
  refine ⟨ta, tb, pa, pb, fun sl σ H fs z sl' Q S hf hq => ?_⟩
  obtain ⟨d, sl1, e', h1, h2, h3⟩ := bin2_some hf
  refine run sl σ H fs d sl1 e' sl' _ S h1 h2 fun x y H' fs' fp gp O => ?_
  refine hv H' x y d e' fp gp z Q O.sr.sz O.ra O.rb h3 fun v H2 hp E rz hc hfr => ?_
  have dz := dk d e' z O.da O.db h3
  refine hq v H2 fs' hp ⟨O.sr.same E, ⟨fun c o h hn => E.same c o (O.tr.t1 c o h hn), fun c h => O.tr.t2 c (E.same.free h), O.tr.t3, O.tr.t4⟩, rz, dz, ?_⟩
  rcases hm with h0 | ⟨k, rfl⟩ | ⟨rfl, e1⟩
  · have e0 : hp = [] := rz.imm (by omega)
    subst e0
    exact RMok.nil m
  · refine ⟨fun c hcm j hj hcj => ?_, fun c hcm => ?_⟩
    · rcases hc c hcm with q | q | q
      · exact List.mem_append_left _ (O.oa.rt c q j hj hcj)
      · exact List.mem_append_right _ (O.ob.rt c q j hj hcj)
      · exact absurd hcj (fresh_off O.sr q j hj)
    · rcases hc c hcm with q | q | q
      · exact O.oa.kn (hM_append A.hM B.hM) c q
      · exact O.ob.kn (hM_append A.hM B.hM) c q
      · exact .inr (O.tr.t2 c q)
  · exact ok_own O.sr O.tr rz dz (hfr e1 dz)
theorem un_run {r : V → Hp → VK → Prop} {op : D → Option D} (hv : VR1 X.K r op fr) (A : DE X G a ma M fa) (m : RM) (dk : ∀ d z, mdep d ≤ ma.k → op d = some z → mdep z ≤ m.k) (hm : m.k = 0 ∨ (∃ k, m = .vw k ma.rs) ∨ (m = .ow 1 ∧ fr = true)) :
    ∃ ta, PE X a ta ∧ RunsE X G m M (un1 op fa) (tUn r ta) := by
  obtain ⟨ta, pa, run⟩ := A.run
  refine ⟨ta, pa, fun sl σ H fs z sl' Q S hf hq => ?_⟩
  obtain ⟨d, h1, h3⟩ := un1_some hf
  refine run sl σ H fs d sl' _ S h1 fun x H' fs' fp O => ?_
  refine hv H' x d fp z Q O.sr.sz O.rep h3 fun v H2 hp E rz hc hfr => ?_
  have dz := dk d z O.dep h3
  refine hq v H2 fs' hp ⟨O.sr.same E, ⟨fun c o h hn => E.same c o (O.tr.t1 c o h hn), fun c h => O.tr.t2 c (E.same.free h), O.tr.t3, O.tr.t4⟩, rz, dz, ?_⟩
  rcases hm with h0 | ⟨k, rfl⟩ | ⟨rfl, e1⟩
  · have e0 : hp = [] := rz.imm (by omega)
    subst e0
    exact RMok.nil m
  · refine ⟨fun c hcm j hj hcj => ?_, fun c hcm => ?_⟩
    · rcases hc c hcm with q | q
      · exact O.ok.rt c q j hj hcj
      · exact absurd hcj (fresh_off O.sr q j hj)
    · rcases hc c hcm with q | q
      · exact O.ok.kn A.hM c q
      · exact .inr (O.tr.t2 c q)
  · exact ok_own O.sr O.tr rz dz (hfr e1 dz)

/-- a op b -/
theorem de_op {op : Operator} {r : R2} {f : D → D → Option D} (ho : OpR X (binaryOp op) r) (hv : VR2 X.K r f fr) (m : RM) (dk : ∀ d e z, mdep d ≤ ma.k → mdep e ≤ mb.k → f d e = some z → mdep z ≤ m.k)
    (hm : m.k = 0 ∨ (∃ k, m = .vw k (ma.rs ++ mb.rs)) ∨ (m = .ow 1 ∧ fr = true)) (A : DE X G a ma M fa) (B : DE X (kill M G) b mb N fb) (ap : apart ma N = true := by rfl) :
    DE X G (.BinOp a op b pos) m (M ++ N) (bin2 f fa fb) := by
  obtain ⟨ta, tb, pa, pb, run⟩ := bin_run hv A B ap m dk hm
  exact ⟨hM_append A.hM B.hM, _, pe_op ho pa pb, run⟩
/-- an operation whose answer is plain -/
def Sc2 (f : D → D → Option D) : Prop := ∀ d e z, f d e = some z → mdep z = 0
theorem sc_I {g : Int → Int → D} (h : ∀ i j, mdep (g i j) = 0) : Sc2 (opI g) := fun d e z q => by
  obtain ⟨i, j, _, _, rfl⟩ := opI_some q
  exact h i j
theorem sc_Ic {c : Int → Int → Bool} {g : Int → Int → D} (h : ∀ i j, mdep (g i j) = 0) : Sc2 (opIc c g) := fun d e z q => by
  obtain ⟨i, j, _, _, _, rfl⟩ := opIc_some q
  exact h i j
theorem de_op0 {op : Operator} {r : R2} {f : D → D → Option D} (ho : OpR X (binaryOp op) r) (hv : VR2 X.K r f fr) (sc : Sc2 f) (A : DE X G a ma M fa) (B : DE X (kill M G) b mb N fb) (ap : apart ma N = true := by rfl) :
    DE X G (.BinOp a op b pos) (.vw 0 []) (M ++ N) (bin2 f fa fb) := de_op ho hv (.vw 0 []) (fun d e z _ _ h => Nat.le_of_eq (sc d e z h)) (.inl rfl) A B ap
theorem de_sub (A : DE X G a ma M fa) (B : DE X (kill M G) b mb N fb) (ap : apart ma N = true := by rfl) : DE X G (.BinOp a .Sub b pos) (.vw 0 []) (M ++ N) (bin2 opSub fa fb) := de_op0 op_sub vr_sub (sc_I fun _ _ => rfl) A B ap
theorem de_mod (A : DE X G a ma M fa) (B : DE X (kill M G) b mb N fb) (ap : apart ma N = true := by rfl) : DE X G (.BinOp a .Mod b pos) (.vw 0 []) (M ++ N) (bin2 opMod fa fb) := de_op0 op_mod vr_mod (sc_Ic fun _ _ => rfl) A B ap
theorem de_div (A : DE X G a ma M fa) (B : DE X (kill M G) b mb N fb) (ap : apart ma N = true := by rfl) : DE X G (.BinOp a .FloorDiv b pos) (.vw 0 []) (M ++ N) (bin2 opDiv fa fb) := de_op0 op_fdiv vr_div (sc_Ic fun _ _ => rfl) A B ap
theorem de_pow (A : DE X G a ma M fa) (B : DE X (kill M G) b mb N fb) (ap : apart ma N = true := by rfl) : DE X G (.BinOp a .Pow b pos) (.vw 0 []) (M ++ N) (bin2 opPow fa fb) := de_op0 op_pow vr_pow (sc_Ic fun _ _ => rfl) A B ap
theorem de_shl (A : DE X G a ma M fa) (B : DE X (kill M G) b mb N fb) (ap : apart ma N = true := by rfl) : DE X G (.BinOp a .LShift b pos) (.vw 0 []) (M ++ N) (bin2 opShl fa fb) := de_op0 op_shl vr_shl (sc_Ic fun _ _ => rfl) A B ap
theorem de_xor (A : DE X G a ma M fa) (B : DE X (kill M G) b mb N fb) (ap : apart ma N = true := by rfl) : DE X G (.BinOp a .BitXor b pos) (.vw 0 []) (M ++ N) (bin2 opXor fa fb) := de_op0 op_xor vr_xor (sc_I fun _ _ => rfl) A B ap
theorem de_and (A : DE X G a ma M fa) (B : DE X (kill M G) b mb N fb) (ap : apart ma N = true := by rfl) : DE X G (.BinOp a .BitAnd b pos) (.vw 0 []) (M ++ N) (bin2 opAnd fa fb) := de_op0 op_and vr_and (sc_I fun _ _ => rfl) A B ap
theorem mdeps_append {xs ys : List D} {k : Nat} (h1 : ∀ d ∈ xs, mdep d ≤ k) (h2 : ∀ d ∈ ys, mdep d ≤ k) : ∀ d ∈ xs ++ ys, mdep d ≤ k := fun d hd => (List.mem_append.mp hd).elim (h1 d) (h2 d)
theorem opAdd_dep {d e z : D} {k : Nat} (h1 : mdep d ≤ k) (h2 : mdep e ≤ k) (h : opAdd d e = some z) : mdep z ≤ k := by
  unfold opAdd at h
  split at h
  · cases h; exact Nat.zero_le _
  · split at h
    · cases h
      have q := le_mdep_lst (mdeps_append (mdep_lst_le h1) (mdep_lst_le h2))
      rename_i xs ys _
      have : 1 ≤ k := by have := h1; unfold mdep at this; omega
      omega
    · cases h
  · split at h
    · cases h
      have q := le_mdep_tup (mdeps_append (mdep_tup_le h1) (mdep_tup_le h2))
      split at q <;> omega
    · cases h
  · cases h
/-- + of plain things; of flat lists (a new one); of others -/
theorem de_add0 (h : ma.k = 0 ∧ mb.k = 0) (A : DE X G a ma M fa) (B : DE X (kill M G) b mb N fb) (ap : apart ma N = true := by rfl) : DE X G (.BinOp a .Add b pos) (.vw 0 []) (M ++ N) (bin2 opAdd fa fb) :=
  de_op op_addA vr_add (.vw 0 []) (fun d e z h1 h2 q => opAdd_dep (by omega) (by omega) q) (.inl rfl) A B ap
theorem de_addO (h : ma.k ≤ 1 ∧ mb.k ≤ 1) (A : DE X G a ma M fa) (B : DE X (kill M G) b mb N fb) (ap : apart ma N = true := by rfl) : DE X G (.BinOp a .Add b pos) (.ow 1) (M ++ N) (bin2 opAdd fa fb) :=
  de_op op_addA vr_add (.ow 1) (fun d e z h1 h2 q => opAdd_dep (by show mdep d ≤ 1; omega) (by show mdep e ≤ 1; omega) q) (.inr (.inr ⟨rfl, rfl⟩)) A B ap
theorem de_addV (A : DE X G a ma M fa) (B : DE X (kill M G) b mb N fb) (ap : apart ma N = true := by rfl) : DE X G (.BinOp a .Add b pos) (.vw (max ma.k mb.k) (ma.rs ++ mb.rs)) (M ++ N) (bin2 opAdd fa fb) :=
  de_op op_addA vr_add _ (fun d e z h1 h2 q => opAdd_dep (Nat.le_trans h1 (Nat.le_max_left _ _)) (Nat.le_trans h2 (Nat.le_max_right _ _)) q) (.inr (.inl ⟨_, rfl⟩)) A B ap
theorem mem_repD {xs : List D} {d : D} : ∀ {n : Nat}, d ∈ repD n xs → d ∈ xs
  | 0, h => nomatch h
  | n + 1, h => (List.mem_append.mp h).elim id mem_repD
theorem opMul_dep {d e z : D} {k : Nat} (h1 : mdep d ≤ k) (h : opMul d e = some z) : mdep z ≤ k := by
  unfold opMul at h
  split at h
  · split at h
    · cases h; exact Nat.zero_le _
    · cases h
  · split at h
    · cases h
      rename_i xs kk _
      have q := le_mdep_lst (k := k - 1) fun d hd => mdep_lst_le h1 d (mem_repD (n := kk.toNat) hd)
      have : 1 ≤ k := by have := h1; unfold mdep at this; omega
      omega
    · cases h
  · cases h
theorem de_mul0 (h : ma.k = 0) (A : DE X G a ma M fa) (B : DE X (kill M G) b mb N fb) (ap : apart ma N = true := by rfl) : DE X G (.BinOp a .Mult b pos) (.vw 0 []) (M ++ N) (bin2 opMul fa fb) :=
  de_op op_mulA vr_mul (.vw 0 []) (fun d e z h1 h2 q => opMul_dep (by omega) q) (.inl rfl) A B ap
theorem de_mulO (h : ma.k ≤ 1) (A : DE X G a ma M fa) (B : DE X (kill M G) b mb N fb) (ap : apart ma N = true := by rfl) : DE X G (.BinOp a .Mult b pos) (.ow 1) (M ++ N) (bin2 opMul fa fb) :=
  de_op op_mulA vr_mul (.ow 1) (fun d e z h1 h2 q => opMul_dep (by show mdep d ≤ 1; omega) q) (.inr (.inr ⟨rfl, rfl⟩)) A B ap
/-- -a -/
def opNeg : D → Option D
  | .int i => some (.int (-i))
  | _ => none
theorem vr_neg {K : PySem.W.Frag} : VR1 K (rU fun i => .int (-i)) opNeg false := fun H x d fp z Q sz ra h q => by
  unfold opNeg at h
  split at h
  · cases h
    obtain ⟨rfl, rfl⟩ := ra.int_inv
    exact ⟨_, rfl, q _ H [] (Ext.refl H) (.int _) (fun _ z => nomatch z) fun z => nomatch z⟩
  · cases h
theorem de_neg (A : DE X G a ma M fa) : DE X G (.UnaryOp .USub a pos) (.vw 0 []) M (un1 opNeg fa) := by
  obtain ⟨ta, pa, run⟩ := un_run vr_neg A (.vw 0 []) (fun d z _ h => by
    unfold opNeg at h
    split at h
    · cases h; exact Nat.le_refl _
    · cases h) (.inl rfl)
  exact ⟨A.hM, _, pe_un un_neg pa, run⟩

/-! ### comparisons -/
theorem de_cmp {op : CmpOp} {r : R2} {f : D → D → Option D} (ho : OpR X (compareOp op) r) (hv : VR2 X.K r f fr) (sc : Sc2 f) (A : DE X G a ma M fa) (B : DE X (kill M G) b mb N fb) (ap : apart ma N = true := by rfl) (hm : behindInMarks op b = false := by rfl) :
    DE X G (.Compare a [op] [b] pos) (.vw 0 []) (M ++ N) (bin2 f fa fb) := by
  obtain ⟨ta, tb, pa, pb, run⟩ := bin_run hv A B ap (.vw 0 []) (fun d e z _ _ h => Nat.le_of_eq (sc d e z h)) (.inl rfl)
  exact ⟨hM_append A.hM B.hM, _, pe_cmpR ho pa pb hm, run⟩
theorem sc_map {α β : Type} {g : α → β → Option Bool} {h : Bool → Bool} {d : α} {e : β} {z : D} (q : (g d e).map (fun b => D.bl (h b)) = some z) : mdep z = 0 := by
  obtain ⟨b, _, rfl⟩ := Option.map_eq_some_iff.mp q
  rfl
theorem sc_eq : Sc2 opEq := fun d e z h => by obtain ⟨_, _, rfl⟩ := opEq_eq h; rfl
theorem sc_ne : Sc2 opNe := fun d e z h => by obtain ⟨_, _, rfl⟩ := opNe_eq h; rfl
theorem sc_in : Sc2 opIn := fun d e z h => sc_map (h := id) h
theorem sc_ni : Sc2 opNi := fun d e z h => sc_map h
theorem sc_is : Sc2 opIs := fun d e z h => sc_map (h := id) h
theorem sc_isn : Sc2 opIsN := fun d e z h => sc_map h
theorem dfind_mem {x : D} : ∀ {ks vs : List D} {z : D}, dfind ks vs x = some z → z ∈ vs
  | [], _, _, q => by simp [dfind] at q
  | _ :: _, [], _, q => by simp [dfind] at q
  | a :: ks, b :: vs, z, q => by
    unfold dfind at q
    split at q
    · cases q; exact List.mem_cons_self
    · exact List.mem_cons_of_mem _ (dfind_mem q)
theorem sc_ix {d e z : D} {k : Nat} (h1 : mdep d ≤ k) (h : opIx d e = some z) : mdep z ≤ k - 1 := by
  unfold opIx at h
  split at h
  · obtain ⟨j, _, q, _⟩ := atI_get h
    exact mdep_lst_le h1 _ (List.mem_of_getElem? q)
  · obtain ⟨j, _, q, _⟩ := atI_get h
    exact mdep_tup_le h1 _ (List.mem_of_getElem? q)
  · split at h
    · exact mdep_dct_le h1 _ (dfind_mem h)
    · cases h
  · obtain ⟨j, _, h2⟩ := Option.map_eq_some_iff.mp h
    subst h2
    exact Nat.zero_le _
  · cases h
/-- a[b] -/
theorem de_ix (hu : X.A.units + 64 < cLine) (A : DE X G a ma M fa) (B : DE X (kill M G) b mb N fb) (hs : PlainIx b := by exact fun _ _ => rfl) (ap : apart ma N = true := by rfl) :
    DE X G (.Subscript a b pos) (.vw (ma.k - 1) (ma.rs ++ mb.rs)) (M ++ N) (bin2 opIx fa fb) := by
  obtain ⟨ta, tb, pa, pb, run⟩ := bin_run vr_ix A B ap (.vw (ma.k - 1) (ma.rs ++ mb.rs)) (fun d e z h1 _ h => sc_ix h1 h) (.inr (.inl ⟨_, rfl⟩))
  exact ⟨hM_append A.hM B.hM, _, pe_ix (ix_all (by omega)) pa pb hs, run⟩
end

/-! ### tests -/
/-- what is told behind a test -/
structure DT (X : Cx) (G : List Mode) (c : Expr) (M : List Nat) (f : Ev → Option (Bool × Ev)) : Prop where
  hM : ∀ j ∈ M, ∃ k, md G j = .ow k
  run : ∃ t, PT X c t ∧ ∀ sl σ H fs b sl' (Q : Bool → Hp → Prop), SR X.K G sl σ H fs → f sl = some (b, sl') → (∀ H' fs', SR X.K (kill M G) sl' σ H' fs' → Tr M sl fs H sl' fs' H' → Q b H') → t σ H Q
/-- a test that every 'whole' may have (and, or) -/
structure DW (X : Cx) (G : List Mode) (c : Expr) (M : List Nat) (f : Ev → Option (Bool × Ev)) : Prop where
  hM : ∀ j ∈ M, ∃ k, md G j = .ow k
  run : ∃ t, PW X c t ∧ ∀ sl σ H fs b sl' (Q : Bool → Hp → Prop), SR X.K G sl σ H fs → f sl = some (b, sl') → (∀ H' fs', SR X.K (kill M G) sl' σ H' fs' → Tr M sl fs H sl' fs' H' → Q b H') → t σ H Q
theorem DW.dt {X : Cx} {G : List Mode} {c : Expr} {M : List Nat} {f : Ev → Option (Bool × Ev)} (h : DW X G c M f) : DT X G c M f :=
  ⟨h.hM, let ⟨t, p, r⟩ := h.run; ⟨t, p.pt, r⟩⟩
theorem DT.congr {X : Cx} {G : List Mode} {c : Expr} {M : List Nat} {f f' : Ev → Option (Bool × Ev)} (h : DT X G c M f) (l : f' = f) : DT X G c M f' := by rw [l]; exact h
/-- a value's truth -/
def tT (f : Ev → Option (D × Ev)) : Ev → Option (Bool × Ev) := fun sl => (f sl).bind fun p => (truD p.1).map fun b => (b, p.2)
theorem tT_some {f : Ev → Option (D × Ev)} {sl sl' : Ev} {b : Bool} (h : tT f sl = some (b, sl')) : ∃ d, f sl = some (d, sl') ∧ truD d = some b := by
  unfold tT at h
  cases h1 : f sl with
  | none => rw [h1] at h; cases h
  | some p =>
    obtain ⟨d, s⟩ := p
    rw [h1] at h
    simp only [Option.bind_some] at h
    obtain ⟨c, hc, e⟩ := Option.map_eq_some_iff.mp h
    cases e
    exact ⟨d, rfl, hc⟩
def liftB (g : Ev → Option Bool) : Ev → Option (Bool × Ev) := fun sl => (g sl).map fun d => (d, sl)
def eT (g : Ev → Option D) : Ev → Option Bool := fun sl => (g sl).bind truD
theorem tT_lift {g : Ev → Option D} : liftB (eT g) = tT (lift g) := by
  funext sl
  unfold liftB eT tT lift
  cases g sl <;> simp
section
variable {X : Cx} {G : List Mode} {a b e : Expr} {ma mb : RM} {M N : List Nat} {fa fb : Ev → Option (D × Ev)} {fr : Bool} {pos : Pos}
theorem dt_val (A : DE X G a ma M fa) (he : ∀ whole, isTrue a X.env whole = (do let v ← whole; standAt a.pos; holding [v] (truthy v)) := by intro _; rfl) : DT X G a M (tT fa) := by
  obtain ⟨ta, pa, run⟩ := A.run
  refine ⟨A.hM, _, pt_truth pa he, fun sl σ H fs b sl' Q S hf hq => ?_⟩
  obtain ⟨d, h1, h2⟩ := tT_some hf
  exact run sl σ H fs d sl' _ S h1 fun v H' fs' fp O => ⟨b, truD_ok O.rep h2, hq H' fs' O.sr O.tr⟩
def Bl2 (f : D → D → Option D) : Prop := ∀ d e z, f d e = some z → ∃ b, z = .bl b
theorem dt_cmp {op : CmpOp} {r : R2} {f : D → D → Option D} (ho : OpR X (compareOp op) r) (hv : VR2 X.K r f fr) (sc : Bl2 f) (A : DE X G a ma M fa) (B : DE X (kill M G) b mb N fb) (ap : apart ma N = true := by rfl) (hm : behindInMarks op b = false := by rfl) :
    DT X G (.Compare a [op] [b] pos) (M ++ N) (tT (bin2 f fa fb)) := by
  obtain ⟨ta, tb, pa, pb, run⟩ := bin_run hv A B ap (.vw 0 []) (fun d e z _ _ h => by obtain ⟨b, rfl⟩ := sc d e z h; exact Nat.le_refl _) (.inl rfl)
  refine ⟨hM_append A.hM B.hM, _, pt_cmpR ho pa pb hm, fun sl σ H fs b sl' Q S hf hq => ?_⟩
  obtain ⟨z, h1, h2⟩ := tT_some hf
  obtain ⟨d, sl1, e', _, _, h3⟩ := bin2_some h1
  obtain ⟨c, rfl⟩ := sc d e' z h3
  cases h2
  refine run sl σ H fs _ sl' _ S h1 fun v H' fs' fp O => ?_
  have rv := O.rep
  cases rv
  exact ⟨b, rfl, hq H' fs' O.sr O.tr⟩
end
theorem bl_eq : Bl2 opEq := fun d e z h => by obtain ⟨_, _, rfl⟩ := opEq_eq h; exact ⟨_, rfl⟩
theorem bl_ne : Bl2 opNe := fun d e z h => by obtain ⟨_, _, rfl⟩ := opNe_eq h; exact ⟨_, rfl⟩
theorem bl_map {α β : Type} {g : α → β → Option Bool} {h : Bool → Bool} {d : α} {e : β} {z : D} (q : (g d e).map (fun b => D.bl (h b)) = some z) : ∃ b, z = .bl b := by
  obtain ⟨b, _, rfl⟩ := Option.map_eq_some_iff.mp q
  exact ⟨_, rfl⟩
theorem bl_in : Bl2 opIn := fun d e z h => bl_map (h := id) h
theorem bl_ni : Bl2 opNi := fun d e z h => bl_map h
theorem bl_is : Bl2 opIs := fun d e z h => bl_map (h := id) h
theorem bl_isn : Bl2 opIsN := fun d e z h => bl_map h

/-! ### transitions that wrote less -/
theorem Tr.mono {M N : List Nat} {sl sl' : Ev} {fs fs' : Nat → List Addr} {H H' : Hp} (T : Tr M sl fs H sl' fs' H') (h : ∀ j ∈ M, j ∈ N) : Tr N sl fs H sl' fs' H' where
  t1 := fun a o e n => T.t1 a o e fun j hj => n j (h j hj)
  t2 := T.t2
  t3 := fun j hj => T.t3 j fun z => hj (h j z)
  t4 := fun j hj a ha => by
    by_cases hm : j ∈ M
    · rcases T.t4 j hm a ha with ⟨i, hi, q⟩ | q
      · exact .inl ⟨i, h i hi, q⟩
      · exact .inr q
    · rw [(T.t3 j hm).1] at ha; exact .inl ⟨j, hj, ha⟩
theorem killM_mono {M N : List Nat} (h : ∀ j ∈ M, j ∈ N) {m : Mode} : killM N m = killM M m ∨ killM N m = .no := by
  cases m with
  | no => exact .inl rfl
  | ow k => exact .inl rfl
  | lk k => exact .inl rfl
  | vw k rs =>
    cases k with
    | zero => exact .inl rfl
    | succ k =>
      unfold killM
      by_cases h1 : (rs.any fun r => N.contains r) = true
      · simp only [h1, if_true]; exact .inr trivial
      · have h2 : (rs.any fun r => M.contains r) = false := by
          have h1' : (rs.any fun r => N.contains r) = false := by simpa using h1
          rw [List.any_eq_false] at h1' ⊢
          intro x hx
          have q := h1' x hx
          simp at q ⊢
          exact fun z => q (h x z)
        have h1' : (rs.any fun r => N.contains r) = false := by simpa using h1
        simp only [h1', h2]; exact .inl trivial
/-- fewer locals are known -/
theorem SR.less {K : PySem.W.Frag} {G G' : List Mode} {sl : Ev} {σ : L2.St} {H : Hp} {fs : Nat → List Addr} (S : SR K G sl σ H fs) (h : ∀ i, md G' i = md G i ∨ (md G' i = .no)) : SR K G' sl σ H fs := by
  have e : ∀ i, md G' i ≠ .no → md G' i = md G i := fun i n => (h i).resolve_right n
  have o : ∀ i, (md G' i).own = true → md G' i = md G i := fun i n => e i (own_ne_no n)
  refine ⟨S.len, S.sz, fun i n => ?_, fun i n => S.nd i (by rw [← o i n]; exact n), fun i j n m => S.dj i j (by rw [← o i n]; exact n) (by rw [← o j m]; exact m), fun i k rs n a ha j m => ?_⟩
  · have q := e i n
    rw [q]
    exact S.val i (by rw [← q]; exact n)
  · exact S.vw i k rs (by rw [← e i (by rw [n]; simp)]; exact n) a ha j (by rw [← o j m]; exact m)
theorem SR.kmono {K : PySem.W.Frag} {G : List Mode} {M N : List Nat} {sl : Ev} {σ : L2.St} {H : Hp} {fs : Nat → List Addr} (S : SR K (kill M G) sl σ H fs) (h : ∀ j ∈ M, j ∈ N) : SR K (kill N G) sl σ H fs :=
  S.less fun i => by rw [md_kill, md_kill]; exact killM_mono h
theorem RMok.mono {G : List Mode} {M N : List Nat} {fs fs' : Nat → List Addr} {H : Hp} {fp : List Addr} {m : RM} (o : RMok G M fs H fs' fp m) (h : ∀ j ∈ M, j ∈ N) : RMok G N fs H fs' fp m := by
  cases m with
  | vw k rs => exact o
  | ow k => exact ⟨o.1, fun a ha => (o.2.1 a ha).elim .inl fun ⟨j, hj, q⟩ => .inr ⟨j, h j hj, q⟩, o.2.2⟩
theorem Out.mono {K : PySem.W.Frag} {G : List Mode} {M N : List Nat} {sl : Ev} {σ : L2.St} {H : Hp} {fs : Nat → List Addr} {m : RM} {d : D} {sl' : Ev} {v : V} {H' : Hp} {fs' : Nat → List Addr} {fp : List Addr}
    (O : Out K G M sl σ H fs m d sl' v H' fs' fp) (h : ∀ j ∈ M, j ∈ N) : Out K G N sl σ H fs m d sl' v H' fs' fp :=
  ⟨O.sr.kmono h, O.tr.mono h, O.rep, O.dep, O.ok.mono h⟩
/-- a result behind a first step that only turned the state -/
theorem Out.after {K : PySem.W.Frag} {G : List Mode} {M N : List Nat} {sl sl1 sl2 : Ev} {σ : L2.St} {H H1 H2 : Hp} {fs fs1 fs2 : Nat → List Addr} {m : RM} {d : D} {v : V} {fp : List Addr}
    (S : SR K G sl σ H fs) (hM : ∀ j ∈ M, ∃ k, md G j = .ow k) (T : Tr M sl fs H sl1 fs1 H1) (O : Out K (kill M G) N sl1 σ H1 fs1 m d sl2 v H2 fs2 fp) : Out K G (M ++ N) sl σ H fs m d sl2 v H2 fs2 fp :=
  ⟨by rw [← kill_kill]; exact O.sr, T.trans (K := K) (G := G) O.tr, O.rep, O.dep, O.early S hM T⟩

section
variable {X : Cx} {G : List Mode} {a b c : Expr} {ma mb m : RM} {L M N : List Nat} {fa fb : Ev → Option (D × Ev)} {fc : Ev → Option (Bool × Ev)} {pos : Pos}
/-! ### a if c else b -/
def mIf (fc : Ev → Option (Bool × Ev)) (fa fb : Ev → Option (D × Ev)) : Ev → Option (D × Ev) := fun sl => (fc sl).bind fun p => if p.1 then fa p.2 else fb p.2
def eIf (gc : Ev → Option Bool) (ga gb : Ev → Option D) : Ev → Option D := fun sl => (gc sl).bind fun p => if p then ga sl else gb sl
theorem mIf_lift {gc : Ev → Option Bool} {ga gb : Ev → Option D} : lift (eIf gc ga gb) = mIf (liftB gc) (lift ga) (lift gb) := by
  funext sl
  unfold lift eIf mIf liftB
  cases h : gc sl with
  | none => simp [h]
  | some p => cases p <;> simp [h]
theorem de_if (C : DT X G c L fc) (A : DE X (kill L G) a ma M fa) (B : DE X (kill L G) b mb N fb) (la : leR ma m = true := by rfl) (lb : leR mb m = true := by rfl) : DE X G (.IfExp c a b pos) m (L ++ (M ++ N)) (mIf fc fa fb) := by
  obtain ⟨tc, pc, rc⟩ := C.run
  obtain ⟨ta, pa, ra⟩ := (A.weak la).run
  obtain ⟨tb, pb, rb⟩ := (B.weak lb).run
  have hMN : ∀ j ∈ M ++ N, ∃ k, md (kill L G) j = .ow k := fun j hj => (List.mem_append.mp hj).elim (A.hM j) (B.hM j)
  refine ⟨hM_append C.hM hMN, _, pe_ifExp pc pa pb, fun sl σ H fs d sl' Q S hf hq => ?_⟩
  unfold mIf at hf
  cases h1 : fc sl with
  | none => rw [h1] at hf; cases hf
  | some p =>
    obtain ⟨k, sl1⟩ := p
    rw [h1] at hf
    simp only [Option.bind_some] at hf
    refine rc sl σ H fs k sl1 _ S h1 fun H1 fs1 S1 T1 => ?_
    cases k with
    | true =>
      simp only [if_true] at hf ⊢
      exact ra sl1 σ H1 fs1 d sl' Q S1 hf fun v H2 fs2 fp O => hq v H2 fs2 fp ((O.after S C.hM T1).mono fun j hj => (List.mem_append.mp hj).elim (fun z => List.mem_append_left _ z) fun z => List.mem_append_right _ (List.mem_append_left _ z))
    | false =>
      simp only [Bool.false_eq_true, if_false] at hf ⊢
      exact rb sl1 σ H1 fs1 d sl' Q S1 hf fun v H2 fs2 fp O => hq v H2 fs2 fp ((O.after S C.hM T1).mono fun j hj => (List.mem_append.mp hj).elim (fun z => List.mem_append_left _ z) fun z => List.mem_append_right _ (List.mem_append_right _ z))

/-! ### and, or, not as tests -/
variable {fd : Ev → Option (Bool × Ev)} {rest : List Expr}
def tAndF (fc fd : Ev → Option (Bool × Ev)) : Ev → Option (Bool × Ev) := fun sl => (fc sl).bind fun p => if p.1 then fd p.2 else some (false, p.2)
def tOrF (fc fd : Ev → Option (Bool × Ev)) : Ev → Option (Bool × Ev) := fun sl => (fc sl).bind fun p => if p.1 then some (true, p.2) else fd p.2
def tNotF (fc : Ev → Option (Bool × Ev)) : Ev → Option (Bool × Ev) := fun sl => (fc sl).map fun p => (!p.1, p.2)
def eAnd (gc gd : Ev → Option Bool) : Ev → Option Bool := fun sl => (gc sl).bind fun p => if p then gd sl else some false
def eOr (gc gd : Ev → Option Bool) : Ev → Option Bool := fun sl => (gc sl).bind fun p => if p then some true else gd sl
def eNot (gc : Ev → Option Bool) : Ev → Option Bool := fun sl => (gc sl).map fun p => !p
theorem tAnd_lift {gc gd : Ev → Option Bool} : liftB (eAnd gc gd) = tAndF (liftB gc) (liftB gd) := by
  funext sl
  unfold liftB eAnd tAndF
  cases h : gc sl with
  | none => simp [h]
  | some p => cases p <;> simp [h]
theorem tOr_lift {gc gd : Ev → Option Bool} : liftB (eOr gc gd) = tOrF (liftB gc) (liftB gd) := by
  funext sl
  unfold liftB eOr tOrF
  cases h : gc sl with
  | none => simp [h]
  | some p => cases p <;> simp [h]
theorem tNot_lift {gc : Ev → Option Bool} : liftB (eNot gc) = tNotF (liftB gc) := by
  funext sl
  unfold liftB eNot tNotF
  cases h : gc sl with
  | none => simp [h]
  | some p => simp [h]
theorem dt_not (C : DT X G c M fc) : DT X G (.UnaryOp .Not c pos) M (tNotF fc) := by
  obtain ⟨tc, pc, rc⟩ := C.run
  refine ⟨C.hM, _, pt_not pc, fun sl σ H fs b sl' Q S hf hq => ?_⟩
  obtain ⟨p, h1, e⟩ := Option.map_eq_some_iff.mp hf
  obtain ⟨k, s⟩ := p
  cases e
  exact rc sl σ H fs k s _ S h1 hq
theorem dw_and1 (C : DT X G c M fc) : DW X G (.BoolOp .And [c] pos) M fc := by
  obtain ⟨tc, pc, rc⟩ := C.run
  exact ⟨C.hM, _, pw_and1 pc, rc⟩
theorem dw_or1 (C : DT X G c M fc) : DW X G (.BoolOp .Or [c] pos) M fc := by
  obtain ⟨tc, pc, rc⟩ := C.run
  exact ⟨C.hM, _, pw_or1 pc, rc⟩
theorem dw_and (C : DT X G c M fc) (B : DW X (kill M G) (.BoolOp .And (b :: rest) pos) N fd) : DW X G (.BoolOp .And (c :: b :: rest) pos) (M ++ N) (tAndF fc fd) := by
  obtain ⟨tc, pc, rc⟩ := C.run
  obtain ⟨td, pd, rd⟩ := B.run
  refine ⟨hM_append C.hM B.hM, _, pw_and pc pd, fun sl σ H fs k sl' Q S hf hq => ?_⟩
  unfold tAndF at hf
  cases h1 : fc sl with
  | none => rw [h1] at hf; cases hf
  | some p =>
    obtain ⟨l, sl1⟩ := p
    rw [h1] at hf
    simp only [Option.bind_some] at hf
    refine rc sl σ H fs l sl1 _ S h1 fun H1 fs1 S1 T1 => ?_
    cases l with
    | true =>
      simp only [if_true] at hf ⊢
      exact rd sl1 σ H1 fs1 k sl' Q S1 hf fun H2 fs2 S2 T2 => hq H2 fs2 (by rw [← kill_kill]; exact S2) (T1.trans (K := X.K) (G := G) T2)
    | false =>
      simp only [Bool.false_eq_true, if_false] at hf ⊢
      cases hf
      exact hq H1 fs1 (S1.kmono fun j hj => List.mem_append_left _ hj) (T1.mono fun j hj => List.mem_append_left _ hj)
theorem dw_or (C : DT X G c M fc) (B : DW X (kill M G) (.BoolOp .Or (b :: rest) pos) N fd) : DW X G (.BoolOp .Or (c :: b :: rest) pos) (M ++ N) (tOrF fc fd) := by
  obtain ⟨tc, pc, rc⟩ := C.run
  obtain ⟨td, pd, rd⟩ := B.run
  refine ⟨hM_append C.hM B.hM, _, pw_or pc pd, fun sl σ H fs k sl' Q S hf hq => ?_⟩
  unfold tOrF at hf
  cases h1 : fc sl with
  | none => rw [h1] at hf; cases hf
  | some p =>
    obtain ⟨l, sl1⟩ := p
    rw [h1] at hf
    simp only [Option.bind_some] at hf
    refine rc sl σ H fs l sl1 _ S h1 fun H1 fs1 S1 T1 => ?_
    cases l with
    | false =>
      simp only [Bool.false_eq_true, if_false] at hf ⊢
      exact rd sl1 σ H1 fs1 k sl' Q S1 hf fun H2 fs2 S2 T2 => hq H2 fs2 (by rw [← kill_kill]; exact S2) (T1.trans (K := X.K) (G := G) T2)
    | true =>
      simp only [if_true] at hf ⊢
      cases hf
      exact hq H1 fs1 (S1.kmono fun j hj => List.mem_append_left _ hj) (T1.mono fun j hj => List.mem_append_left _ hj)
end
end Dw
/-! Dw, part G: argument lists, displays, calls of built-ins by values. -/
namespace Dw
open PySem PySem.Spec PyProof.Rows L2

section
variable {X : Cx} {G : List Mode} {a b c : Expr} {ma mb m : RM} {L M N : List Nat} {fa fb : Ev → Option (D × Ev)} {fc : Ev → Option (Bool × Ev)} {pos : Pos} {rest : List Expr}
/-! ### and, or, not as values -/
def mAnd (fa fb : Ev → Option (D × Ev)) : Ev → Option (D × Ev) := fun sl => (fa sl).bind fun p => (truD p.1).bind fun k => if k then fb p.2 else some p
def mOr (fa fb : Ev → Option (D × Ev)) : Ev → Option (D × Ev) := fun sl => (fa sl).bind fun p => (truD p.1).bind fun k => if k then some p else fb p.2
def eAndV (ga gb : Ev → Option D) : Ev → Option D := fun sl => (ga sl).bind fun p => (truD p).bind fun k => if k then gb sl else some p
def eOrV (ga gb : Ev → Option D) : Ev → Option D := fun sl => (ga sl).bind fun p => (truD p).bind fun k => if k then some p else gb sl
theorem mAnd_lift {ga gb : Ev → Option D} : lift (eAndV ga gb) = mAnd (lift ga) (lift gb) := by
  funext sl
  unfold lift eAndV mAnd
  cases h : ga sl with
  | none => simp [h]
  | some p =>
    cases h2 : truD p with
    | none => simp [h, h2]
    | some k => cases k <;> simp [h, h2]
theorem mOr_lift {ga gb : Ev → Option D} : lift (eOrV ga gb) = mOr (lift ga) (lift gb) := by
  funext sl
  unfold lift eOrV mOr
  cases h : ga sl with
  | none => simp [h]
  | some p =>
    cases h2 : truD p with
    | none => simp [h, h2]
    | some k => cases k <;> simp [h, h2]
theorem de_one {op} (A : DE X G a ma M fa) : DE X G (.BoolOp op [a] pos) ma M fa := by
  obtain ⟨ta, pa, ra⟩ := A.run
  exact ⟨A.hM, _, pe_one pa, ra⟩
theorem mem_l {M N : List Nat} : ∀ j ∈ M, j ∈ M ++ N := fun _ h => List.mem_append_left _ h
theorem de_andV (A : DE X G a ma M fa) (B : DE X (kill M G) (.BoolOp .And (b :: rest) pos) mb N fb) (la : leR ma m = true := by rfl) (lb : leR mb m = true := by rfl) : DE X G (.BoolOp .And (a :: b :: rest) pos) m (M ++ N) (mAnd fa fb) := by
  obtain ⟨ta, pa, ra⟩ := (A.weak la).run
  obtain ⟨tb, pb, rb⟩ := (B.weak lb).run
  refine ⟨hM_append A.hM B.hM, _, pe_andT pa pb, fun sl σ H fs d sl' Q S hf hq => ?_⟩
  unfold mAnd at hf
  cases h1 : fa sl with
  | none => rw [h1] at hf; cases hf
  | some p =>
    obtain ⟨d1, sl1⟩ := p
    rw [h1] at hf
    simp only [Option.bind_some] at hf
    cases h2 : truD d1 with
    | none => rw [h2] at hf; cases hf
    | some k =>
      rw [h2] at hf
      simp only [Option.bind_some] at hf
      refine ra sl σ H fs d1 sl1 _ S h1 fun v H1 fs1 fp O => ⟨k, truD_ok O.rep h2, ?_⟩
      cases k with
      | true =>
        simp only [if_true] at hf ⊢
        exact rb sl1 σ H1 fs1 d sl' Q O.sr hf fun v H2 fs2 fp P => hq v H2 fs2 fp (P.after S A.hM O.tr)
      | false =>
        simp only [Bool.false_eq_true, if_false] at hf ⊢
        cases hf
        exact hq v H1 fs1 fp (O.mono mem_l)
theorem de_orV (A : DE X G a ma M fa) (B : DE X (kill M G) (.BoolOp .Or (b :: rest) pos) mb N fb) (la : leR ma m = true := by rfl) (lb : leR mb m = true := by rfl) : DE X G (.BoolOp .Or (a :: b :: rest) pos) m (M ++ N) (mOr fa fb) := by
  obtain ⟨ta, pa, ra⟩ := (A.weak la).run
  obtain ⟨tb, pb, rb⟩ := (B.weak lb).run
  refine ⟨hM_append A.hM B.hM, _, pe_orT pa pb, fun sl σ H fs d sl' Q S hf hq => ?_⟩
  unfold mOr at hf
  cases h1 : fa sl with
  | none => rw [h1] at hf; cases hf
  | some p =>
    obtain ⟨d1, sl1⟩ := p
    rw [h1] at hf
    simp only [Option.bind_some] at hf
    cases h2 : truD d1 with
    | none => rw [h2] at hf; cases hf
    | some k =>
      rw [h2] at hf
      simp only [Option.bind_some] at hf
      refine ra sl σ H fs d1 sl1 _ S h1 fun v H1 fs1 fp O => ⟨k, truD_ok O.rep h2, ?_⟩
      cases k with
      | false =>
        simp only [Bool.false_eq_true, if_false] at hf ⊢
        exact rb sl1 σ H1 fs1 d sl' Q O.sr hf fun v H2 fs2 fp P => hq v H2 fs2 fp (P.after S A.hM O.tr)
      | true =>
        simp only [if_true] at hf ⊢
        cases hf
        exact hq v H1 fs1 fp (O.mono mem_l)
def opNot (d : D) : Option D := (truD d).map fun b => .bl (!b)
theorem de_notV (A : DE X G a ma M fa) : DE X G (.UnaryOp .Not a pos) (.vw 0 []) M (un1 opNot fa) := by
  obtain ⟨ta, pa, ra⟩ := A.run
  refine ⟨A.hM, _, pe_notT pa, fun sl σ H fs d sl' Q S hf hq => ?_⟩
  obtain ⟨e, h1, h2⟩ := un1_some hf
  obtain ⟨k, hk, rfl⟩ := Option.map_eq_some_iff.mp h2
  refine ra sl σ H fs e sl' _ S h1 fun v H1 fs1 fp O => ⟨k, truD_ok O.rep hk, hq _ H1 fs1 [] ⟨O.sr, O.tr, .bl _, Nat.le_refl _, RMok.nil _⟩⟩
end

/-! ### argument lists -/
inductive AV (K : PySem.W.Frag) (G : List Mode) (M : List Nat) (fs : Nat → List Addr) (H : Hp) (fs' : Nat → List Addr) (H' : Hp) : List RM → List D → List V → List (List Addr) → Prop
  | nil : AV K G M fs H fs' H' [] [] [] []
  | cons {m : RM} {d : D} {v : V} {fp : List Addr} {ms : List RM} {ds : List D} {vs : List V} {fps : List (List Addr)} : Rep K H' d v fp → mdep d ≤ m.k → RMok G M fs H fs' fp m → AV K G M fs H fs' H' ms ds vs fps →
      AV K G M fs H fs' H' (m :: ms) (d :: ds) (v :: vs) (fp :: fps)
/-- the cells of the own results -/
def owns : List RM → List (List Addr) → List Addr
  | .ow _ :: ms, fp :: fps => fp ++ owns ms fps
  | .vw _ _ :: ms, _ :: fps => owns ms fps
  | _, _ => []
structure OutA (K : PySem.W.Frag) (G : List Mode) (M : List Nat) (sl : Ev) (σ : L2.St) (H : Hp) (fs : Nat → List Addr) (ms : List RM) (ds : List D) (sl' : Ev) (vs : List V) (H' : Hp) (fs' : Nat → List Addr) (fps : List (List Addr)) : Prop where
  sr : SR K (kill M G) sl' σ H' fs'
  tr : Tr M sl fs H sl' fs' H'
  av : AV K G M fs H fs' H' ms ds vs fps
  nd : (owns ms fps).Nodup
structure DA (X : Cx) (G : List Mode) (es : List Expr) (ms : List RM) (M : List Nat) (f : Ev → Option (List D × Ev)) : Prop where
  hM : ∀ j ∈ M, ∃ k, md G j = .ow k
  run : ∃ t, PA X es t ∧ ∀ sl σ H fs ds sl' (Q : List V → Hp → Prop), SR X.K G sl σ H fs → f sl = some (ds, sl') → (∀ vs H' fs' fps, OutA X.K G M sl σ H fs ms ds sl' vs H' fs' fps → Q vs H') → t σ H Q
theorem AV.reps {K : PySem.W.Frag} {G : List Mode} {M : List Nat} {fs : Nat → List Addr} {H : Hp} {fs' : Nat → List Addr} {H' : Hp} : ∀ {ms : List RM} {ds : List D} {vs : List V} {fps : List (List Addr)}, AV K G M fs H fs' H' ms ds vs fps → Reps K H' ds vs fps.flatten
  | _, _, _, _, .nil => .nil
  | _, _, _, _, .cons r _ _ t => .cons r t.reps
def mNil : Ev → Option (List D × Ev) := fun sl => some ([], sl)
def mCons (fa : Ev → Option (D × Ev)) (fr : Ev → Option (List D × Ev)) : Ev → Option (List D × Ev) := fun sl => (fa sl).bind fun p => (fr p.2).map fun q => (p.1 :: q.1, q.2)
def liftL (g : Ev → Option (List D)) : Ev → Option (List D × Ev) := fun sl => (g sl).map fun d => (d, sl)
def eNil : Ev → Option (List D) := fun _ => some []
def eCons (ga : Ev → Option D) (gr : Ev → Option (List D)) : Ev → Option (List D) := fun sl => (ga sl).bind fun a => (gr sl).map fun r => a :: r
theorem mNil_lift : liftL eNil = mNil := rfl
theorem mCons_lift {ga : Ev → Option D} {gr : Ev → Option (List D)} : liftL (eCons ga gr) = mCons (lift ga) (liftL gr) := by
  funext sl
  unfold liftL eCons mCons lift
  cases h : ga sl with
  | none => simp [h]
  | some a =>
    cases h2 : gr sl with
    | none => simp [h, h2]
    | some r => simp [h, h2]
theorem DA.congr {X : Cx} {G : List Mode} {es : List Expr} {ms : List RM} {M : List Nat} {f f' : Ev → Option (List D × Ev)} (h : DA X G es ms M f) (l : f' = f) : DA X G es ms M f' := by rw [l]; exact h

section
variable {K : PySem.W.Frag} {G : List Mode} {M N : List Nat} {sl sl1 sl2 : Ev} {σ : L2.St} {H H1 H2 : Hp} {fs fs1 fs2 : Nat → List Addr}
theorem RMok.early {m : RM} {fp : List Addr} (hM : ∀ j ∈ M, ∃ k, md G j = .ow k) (T : Tr M sl fs H sl1 fs1 H1) (ok : RMok (kill M G) N fs1 H1 fs2 fp m) : RMok G (M ++ N) fs H fs2 fp m := by
  cases m with
  | vw l rs => exact ⟨fun a ha j hj haj => ok.1 a ha j (by rw [own_kill]; exact hj) haj, fun a ha => (ok.2 a ha).early hM T⟩
  | ow l =>
    refine ⟨ok.1, fun a ha => ?_, fun a ha j hj haj => ok.2.2 a ha j (by rw [own_kill]; exact hj) haj⟩
    rcases ok.2.1 a ha with q | ⟨j, hj, q⟩
    · exact .inl (T.t2 a q)
    · by_cases hm : j ∈ M
      · rcases T.t4 j hm a q with ⟨i, hi, z⟩ | z
        · exact .inr ⟨i, List.mem_append_left _ hi, z⟩
        · exact .inl z
      · rw [(T.t3 j hm).1] at q
        exact .inr ⟨j, List.mem_append_right _ hj, q⟩
theorem AV.early (hM : ∀ j ∈ M, ∃ k, md G j = .ow k) (T : Tr M sl fs H sl1 fs1 H1) : ∀ {ms : List RM} {ds : List D} {vs : List V} {fps : List (List Addr)}, AV K (kill M G) N fs1 H1 fs2 H2 ms ds vs fps → AV K G (M ++ N) fs H fs2 H2 ms ds vs fps
  | _, _, _, _, .nil => .nil
  | _, _, _, _, .cons r d o t => .cons r d (o.early hM T) (AV.early hM T t)
theorem AV.owned : ∀ {ms : List RM} {ds : List D} {vs : List V} {fps : List (List Addr)}, AV K G M fs H fs1 H1 ms ds vs fps → ∀ a ∈ owns ms fps, H a = none ∨ ∃ j ∈ M, a ∈ fs j
  | _, _, _, _, .nil, _, h => nomatch h
  | _, _, _, _, @AV.cons _ _ _ _ _ _ _ m d v fp ms ds vs fps r dd o t, a, h => by
    cases m with
    | vw k rs => exact AV.owned t a h
    | ow k =>
      rcases List.mem_append.mp h with h | h
      · exact o.2.1 a h
      · exact AV.owned t a h
end
section
variable {X : Cx} {G : List Mode} {a : Expr} {es : List Expr} {ma : RM} {ms : List RM} {M N : List Nat} {fa : Ev → Option (D × Ev)} {fr : Ev → Option (List D × Ev)} {pos : Pos}
theorem da_nil : DA X G [] [] [] mNil := by
  refine ⟨fun _ z => (nomatch z), _, pa_nil, fun sl σ H fs ds sl' Q S hf hq => ?_⟩
  cases hf
  exact hq [] H fs [] ⟨S, .pure (Same.refl H), .nil, List.nodup_nil⟩
theorem da_cons (A : DE X G a ma M fa) (R : DA X (kill M G) es ms N fr) (ap : apart ma N = true := by rfl) (hs : starEach (a :: es) X.env = (false, eval a X.env) :: starEach es X.env := by rfl) : DA X G (a :: es) (ma :: ms) (M ++ N) (mCons fa fr) := by
  obtain ⟨ta, pa, ra⟩ := A.run
  obtain ⟨tr, pr, rr⟩ := R.run
  refine ⟨hM_append A.hM R.hM, _, pa_cons pa pr hs, fun sl σ H fs ds sl' Q S hf hq => ?_⟩
  unfold mCons at hf
  cases h1 : fa sl with
  | none => rw [h1] at hf; cases hf
  | some p =>
    obtain ⟨d, sl1⟩ := p
    rw [h1] at hf
    simp only [Option.bind_some] at hf
    obtain ⟨q, h2, e⟩ := Option.map_eq_some_iff.mp hf
    obtain ⟨r, sl2⟩ := q
    cases e
    refine ra sl σ H fs d sl1 _ S h1 fun x H1 fs1 fp O => ?_
    refine rr sl1 σ H1 fs1 r sl2 _ O.sr h2 fun vs H2 fs2 fps P => ?_
    have Z := O.later R.hM P.tr ap
    refine hq (x :: vs) H2 fs2 (fp :: fps) ⟨by rw [← kill_kill]; exact P.sr, O.tr.trans (K := X.K) (G := G) P.tr, .cons Z.1 O.dep Z.2 (P.av.early A.hM O.tr), ?_⟩
    cases ma with
    | vw k rs => exact P.nd
    | ow k =>
      refine List.nodup_append.mpr ⟨O.ok.1, P.nd, fun c hc d' hd' e => ?_⟩
      subst e
      rcases P.av.owned c hd' with q | ⟨j, hj, q⟩
      · exact O.rep.alive hc q
      · obtain ⟨k', hk⟩ := R.hM j hj
        exact O.ok.2.2 c hc j (by rw [← own_kill (M := M), hk]; rfl) q

/-! ### displays -/
def kMax : List RM → Nat
  | [] => 0
  | m :: ms => max m.k (kMax ms)
def allOwn : List RM → Bool
  | [] => true
  | .ow _ :: ms => allOwn ms
  | .vw k _ :: ms => decide (k = 0) && allOwn ms
def allRs : List RM → List Nat
  | [] => []
  | m :: ms => (if m.k = 0 then [] else m.rs) ++ allRs ms
/-- the mode of a display -/
def dspM (l : Bool) (ms : List RM) : RM := if !l && decide (kMax ms = 0) then .vw 0 [] else if allOwn ms then .ow (kMax ms + 1) else .vw (kMax ms + 1) (allRs ms)
theorem AV.dep {K : PySem.W.Frag} {M : List Nat} {fs fs1 : Nat → List Addr} {H H1 : Hp} : ∀ {ms : List RM} {ds : List D} {vs : List V} {fps : List (List Addr)}, AV K G M fs H fs1 H1 ms ds vs fps → ∀ d ∈ ds, mdep d ≤ kMax ms
  | _, _, _, _, .nil, _, h => nomatch h
  | _, _, _, _, .cons r dd o t, d, h => by
    rcases List.mem_cons.mp h with e | h
    · subst e; exact Nat.le_trans dd (Nat.le_max_left _ _)
    · exact Nat.le_trans (AV.dep t d h) (Nat.le_max_right _ _)
theorem AV.flat_own {K : PySem.W.Frag} {M : List Nat} {fs fs1 : Nat → List Addr} {H H1 : Hp} : ∀ {ms : List RM} {ds : List D} {vs : List V} {fps : List (List Addr)}, AV K G M fs H fs1 H1 ms ds vs fps → allOwn ms = true → fps.flatten = owns ms fps
  | _, _, _, _, .nil, _ => rfl
  | _, _, _, _, @AV.cons _ _ _ _ _ _ _ m d v fp ms ds vs fps r dd o t, h => by
    cases m with
    | vw k rs =>
      simp only [allOwn, Bool.and_eq_true, decide_eq_true_eq] at h
      have e : fp = [] := r.imm (by have := dd; simp only [RM.k] at this; omega)
      subst e
      rw [List.flatten_cons, List.nil_append]
      exact AV.flat_own t h.2
    | ow k =>
      rw [List.flatten_cons, AV.flat_own t h]; rfl
theorem AV.off_own {K : PySem.W.Frag} {M : List Nat} {fs fs1 : Nat → List Addr} {H H1 : Hp} : ∀ {ms : List RM} {ds : List D} {vs : List V} {fps : List (List Addr)}, AV K G M fs H fs1 H1 ms ds vs fps → ∀ a ∈ owns ms fps, ∀ j, (md G j).own = true → a ∉ fs1 j
  | _, _, _, _, .nil, _, h => nomatch h
  | _, _, _, _, @AV.cons _ _ _ _ _ _ _ m d v fp ms ds vs fps r dd o t, a, h => by
    cases m with
    | vw k rs => exact AV.off_own t a h
    | ow k =>
      rcases List.mem_append.mp h with h | h
      · exact o.2.2 a h
      · exact AV.off_own t a h
theorem AV.roots {K : PySem.W.Frag} {M : List Nat} {fs fs1 : Nat → List Addr} {H H1 : Hp} : ∀ {ms : List RM} {ds : List D} {vs : List V} {fps : List (List Addr)}, AV K G M fs H fs1 H1 ms ds vs fps → ∀ a ∈ fps.flatten, ∀ j, (md G j).own = true → a ∈ fs1 j → j ∈ allRs ms
  | _, _, _, _, .nil, _, h => by simp at h
  | _, _, _, _, @AV.cons _ _ _ _ _ _ _ m d v fp ms ds vs fps r dd o t, a, h => by
    rw [List.flatten_cons] at h
    intro j hj haj
    rcases List.mem_append.mp h with h | h
    · have n0 : m.k ≠ 0 := fun z => by rw [r.imm (by omega)] at h; cases h
      unfold allRs
      rw [if_neg n0]
      cases m with
      | vw k rs => exact List.mem_append_left _ (o.1 a h j hj haj)
      | ow k => exact absurd haj (o.2.2 a h j hj)
    · exact List.mem_append_right _ (AV.roots t a h j hj haj)
theorem AV.kn {K : PySem.W.Frag} {M : List Nat} {fs fs1 : Nat → List Addr} {H H1 : Hp} (hM : ∀ j ∈ M, ∃ k, md G j = .ow k) : ∀ {ms : List RM} {ds : List D} {vs : List V} {fps : List (List Addr)}, AV K G M fs H fs1 H1 ms ds vs fps → ∀ a ∈ fps.flatten, Kn G fs H a
  | _, _, _, _, .nil, _, h => by simp at h
  | _, _, _, _, .cons r dd o t, a, h => by
    rw [List.flatten_cons] at h
    rcases List.mem_append.mp h with h | h
    · exact o.kn hM a h
    · exact AV.kn hM t a h
def mTup (fr : Ev → Option (List D × Ev)) : Ev → Option (D × Ev) := fun sl => (fr sl).bind fun p => if p.1.length ≤ sizeLine then some (.tup p.1, p.2) else none
def mLst (fr : Ev → Option (List D × Ev)) : Ev → Option (D × Ev) := fun sl => (fr sl).bind fun p => if p.1.length ≤ sizeLine then some (.lst p.1, p.2) else none
def eTup (gr : Ev → Option (List D)) : Ev → Option D := fun sl => (gr sl).bind fun p => if p.length ≤ sizeLine then some (.tup p) else none
def eLst (gr : Ev → Option (List D)) : Ev → Option D := fun sl => (gr sl).bind fun p => if p.length ≤ sizeLine then some (.lst p) else none
theorem mTup_lift {gr : Ev → Option (List D)} : lift (eTup gr) = mTup (liftL gr) := by
  funext sl
  unfold lift eTup mTup liftL
  cases h : gr sl with
  | none => simp [h]
  | some p =>
    simp only [h, Option.bind_some, Option.map_some]
    split <;> rfl
theorem mLst_lift {gr : Ev → Option (List D)} : lift (eLst gr) = mLst (liftL gr) := by
  funext sl
  unfold lift eLst mLst liftL
  cases h : gr sl with
  | none => simp [h]
  | some p =>
    simp only [h, Option.bind_some, Option.map_some]
    split <;> rfl
theorem dsp_k (l : Bool) (ms : List RM) : (dspM l ms).k = if !l && decide (kMax ms = 0) then 0 else kMax ms + 1 := by
  unfold dspM
  split
  · rfl
  · split <;> rfl
theorem de_tup {x1} (R : DA X G es ms N fr) : DE X G (.Tuple es x1 pos) (dspM false ms) N (mTup fr) := by
  obtain ⟨tr, pr, rr⟩ := R.run
  refine ⟨R.hM, _, pe_tup pr, fun sl σ H fs d sl' Q S hf hq => ?_⟩
  unfold mTup at hf
  cases h1 : fr sl with
  | none => rw [h1] at hf; cases hf
  | some p =>
    obtain ⟨ds, s⟩ := p
    rw [h1] at hf
    simp only [Option.bind_some] at hf
    split at hf
    · rename_i hl
      cases hf
      refine rr sl σ H fs ds sl' _ S h1 fun vs H1 fs1 fps P => ?_
      have rp := P.av.reps
      rw [rp.length] at hl
      refine ⟨hl, fun p n => ?_⟩
      have E : Ext H1 (upd H1 p (.tup vs)) := Ext.upd n (szO_tup hl)
      refine hq (.ref p) _ fs1 fps.flatten ⟨P.sr.same E, ⟨fun c o h hn => E.same c o (P.tr.t1 c o h hn), fun c h => P.tr.t2 c (E.same.free h), P.tr.t3, P.tr.t4⟩, new_tup rp n, ?_, ?_⟩
      · have q := le_mdep_tup P.av.dep
        rw [dsp_k]
        simpa using q
      · unfold dspM
        split
        · rename_i h0
          have e0 : kMax ms = 0 := by simpa using h0
          rw [rp.imm_of (by intro d hd; have := P.av.dep d hd; omega)]
          exact RMok.nil _
        · split
          · rename_i ho
            rw [P.av.flat_own ho]
            exact ⟨P.nd, P.av.owned, P.av.off_own⟩
          · exact ⟨P.av.roots, P.av.kn R.hM⟩
    · cases hf
theorem de_lst (R : DA X G es ms N fr) : DE X G (.List es pos) (dspM true ms) N (mLst fr) := by
  obtain ⟨tr, pr, rr⟩ := R.run
  refine ⟨R.hM, _, pe_lst pr, fun sl σ H fs d sl' Q S hf hq => ?_⟩
  unfold mLst at hf
  cases h1 : fr sl with
  | none => rw [h1] at hf; cases hf
  | some p =>
    obtain ⟨ds, s⟩ := p
    rw [h1] at hf
    simp only [Option.bind_some] at hf
    split at hf
    · rename_i hl
      cases hf
      refine rr sl σ H fs ds sl' _ S h1 fun vs H1 fs1 fps P => ?_
      have rp := P.av.reps
      rw [rp.length] at hl
      refine ⟨hl, fun p n => ?_⟩
      have E : Ext H1 (upd H1 p (.lst vs)) := Ext.upd n (szO_lst hl)
      refine hq (.ref p) _ fs1 (p :: fps.flatten) ⟨P.sr.same E, ⟨fun c o h hn => E.same c o (P.tr.t1 c o h hn), fun c h => P.tr.t2 c (E.same.free h), P.tr.t3, P.tr.t4⟩, new_lst rp n, ?_, ?_⟩
      · rw [dsp_k]
        exact le_mdep_lst P.av.dep
      · unfold dspM
        simp only [Bool.not_true, Bool.false_and, Bool.false_eq_true, if_false]
        split
        · rename_i ho
          rw [P.av.flat_own ho]
          refine ⟨List.nodup_cons.mpr ⟨fun hp => ?_, P.nd⟩, fun c hc => ?_, fun c hc => ?_⟩
          · rw [← P.av.flat_own ho] at hp
            exact rp.alive hp n
          · rcases List.mem_cons.mp hc with e | hc
            · subst e; exact .inl (P.tr.t2 _ n)
            · exact P.av.owned c hc
          · rcases List.mem_cons.mp hc with e | hc
            · subst e; exact fresh_off P.sr n
            · exact P.av.off_own c hc
        · refine ⟨fun c hc j hj hcj => ?_, fun c hc => ?_⟩
          · rcases List.mem_cons.mp hc with e | hc
            · subst e; exact absurd hcj (fresh_off P.sr n j hj)
            · exact P.av.roots c hc j hj hcj
          · rcases List.mem_cons.mp hc with e | hc
            · subst e; exact .inr (P.tr.t2 _ n)
            · exact P.av.kn R.hM c hc
    · cases hf
end

/-! ### calls by values -/
def mN (op : List D → Option D) (fr : Ev → Option (List D × Ev)) : Ev → Option (D × Ev) := fun sl => (fr sl).bind fun p => (op p.1).map fun z => (z, p.2)
def eN (op : List D → Option D) (gr : Ev → Option (List D)) : Ev → Option D := fun sl => (gr sl).bind op
theorem mN_lift {op : List D → Option D} {gr : Ev → Option (List D)} : lift (eN op gr) = mN op (liftL gr) := by
  funext sl
  unfold lift eN mN liftL
  cases h : gr sl with
  | none => simp [h]
  | some a => simp [h]
section
variable {X : Cx} {G : List Mode} {e : Expr} {es : List Expr} {ms : List RM} {N : List Nat} {fr : Ev → Option (List D × Ev)} {frb : Bool} {pos p : Pos} {x : Str} {id T : String} {r : List V → Hp → VK → Prop} {op : List D → Option D}
theorem call_run (hM : ∀ j ∈ N, ∃ k, md G j = .ow k) (hv : VR X.K r op frb) {tr : TA} (rr : ∀ sl σ H fs ds sl' (Q : List V → Hp → Prop), SR X.K G sl σ H fs → fr sl = some (ds, sl') → (∀ vs H' fs' fps, OutA X.K G N sl σ H fs ms ds sl' vs H' fs' fps → Q vs H') → tr σ H Q) (m : RM)
    (dk : ∀ ds z, (∀ d ∈ ds, mdep d ≤ kMax ms) → op ds = some z → mdep z ≤ m.k) (hm : m.k = 0 ∨ (∃ k, m = .vw k (allRs ms)) ∨ (m = .ow 1 ∧ frb = true)) : RunsE X G m N (mN op fr) (tCB r tr) := by
  intro sl σ H fs z sl' Q S hf hq
  unfold mN at hf
  cases h1 : fr sl with
  | none => rw [h1] at hf; cases hf
  | some q =>
    obtain ⟨ds, s⟩ := q
    rw [h1] at hf
    simp only [Option.bind_some] at hf
    obtain ⟨z', h2, e⟩ := Option.map_eq_some_iff.mp hf
    cases e
    refine rr sl σ H fs ds sl' _ S h1 fun vs H1 fs1 fps P => ?_
    refine hv H1 vs ds fps.flatten z Q P.sr.sz P.av.reps h2 fun v H2 gp E rz hc hfr => ?_
    have dz := dk ds z P.av.dep h2
    refine hq v H2 fs1 gp ⟨P.sr.same E, ⟨fun c o h hn => E.same c o (P.tr.t1 c o h hn), fun c h => P.tr.t2 c (E.same.free h), P.tr.t3, P.tr.t4⟩, rz, dz, ?_⟩
    rcases hm with h0 | ⟨k, rfl⟩ | ⟨rfl, e1⟩
    · have e0 : gp = [] := rz.imm (by omega)
      subst e0
      exact RMok.nil m
    · refine ⟨fun c hcm j hj hcj => ?_, fun c hcm => ?_⟩
      · rcases hc c hcm with q | q
        · exact P.av.roots c q j hj hcj
        · exact absurd hcj (fresh_off P.sr q j hj)
      · rcases hc c hcm with q | q
        · exact P.av.kn hM c q
        · exact .inr (P.tr.t2 c q)
    · exact ok_own P.sr P.tr rz dz (hfr e1 dz)
theorem de_callB (hc : CallR X (.builtin id) r) (hv : VR X.K r op frb) (m : RM) (dk : ∀ ds z, (∀ d ∈ ds, mdep d ≤ kMax ms) → op ds = some z → mdep z ≤ m.k) (hm : m.k = 0 ∨ (∃ k, m = .vw k (allRs ms)) ∨ (m = .ow 1 ∧ frb = true))
    (hg : Gl X x) (hmg : X.mg x = none) (hb : bootBuiltins x = some (.builtin id)) (R : DA X G (e :: es) ms N fr) (hn : x ≠ "__name__" := by decide) (hdb : (x == ("__debug__" : Str)) = false := by decide)
    (he : starEach (e :: es) X.env = (false, eval e X.env) :: starEach es X.env := by rfl) (hpl : (backTo pos (starEach es X.env)).any (·.1) = false := by rfl) : DE X G (.Call (.Name x p) (e :: es) [] pos) m N (mN op fr) := by
  obtain ⟨tr, pr, rr⟩ := R.run
  exact ⟨R.hM, _, pe_callB hc hg hmg hb pr hn hdb he hpl, call_run R.hM hv rr m dk hm⟩
theorem de_callTy (hc : CallR X (.type T) r) (hv : VR X.K r op frb) (m : RM) (dk : ∀ ds z, (∀ d ∈ ds, mdep d ≤ kMax ms) → op ds = some z → mdep z ≤ m.k) (hm : m.k = 0 ∨ (∃ k, m = .vw k (allRs ms)) ∨ (m = .ow 1 ∧ frb = true))
    (hg : Gl X x) (hmg : X.mg x = none) (hb : bootBuiltins x = some (.type T)) (R : DA X G (e :: es) ms N fr) (hn : x ≠ "__name__" := by decide) (hdb : (x == ("__debug__" : Str)) = false := by decide)
    (he : starEach (e :: es) X.env = (false, eval e X.env) :: starEach es X.env := by rfl) (hpl : (backTo pos (starEach es X.env)).any (·.1) = false := by rfl) : DE X G (.Call (.Name x p) (e :: es) [] pos) m N (mN op fr) := by
  obtain ⟨tr, pr, rr⟩ := R.run
  exact ⟨R.hM, _, pe_callTy hc hg hmg hb pr hn hdb he hpl, call_run R.hM hv rr m dk hm⟩
end
end Dw
/-! Dw, part H: statements: transitions, targets, the judgement of statements, blocks, if, while, for. -/
namespace Dw
open PySem PySem.Spec PyProof.Rows L2

inductive Fl where
  | nx (e : Ev) | bk (e : Ev) | ct (e : Ev) | rt (d : D) (e : Ev)

/-! ### transitions of a statement -/
structure T3 (G : List Mode) (fs : Nat → List Addr) (H : Hp) (G' : List Mode) (fs' : Nat → List Addr) (H' : Hp) : Prop where
  s1 : ∀ a o, H a = some o → (∀ j k, md G j = .ow k → a ∉ fs j) → H' a = some o
  s2 : ∀ a, H' a = none → H a = none
  s3 : ∀ j, (md G' j).own = true → ∀ a ∈ fs' j, (∃ k, (md G k).own = true ∧ a ∈ fs k) ∨ H a = none
  s5 : ∀ j, md G' j ≠ .no → ∀ a ∈ fs' j, Kn G fs H a
structure TS (G : List Mode) (fs : Nat → List Addr) (H : Hp) (G' : List Mode) (fs' : Nat → List Addr) (H' : Hp) : Prop extends T3 G fs H G' fs' H' where
  s4 : ∀ j k, md G j = .lk k → md G' j = .lk k ∧ fs' j = fs j

section
variable {K : PySem.W.Frag} {G G1 G2 : List Mode} {M : List Nat} {sl sl1 sl2 : Ev} {σ σ1 : L2.St} {H H1 H2 : Hp} {fs fs1 fs2 : Nat → List Addr}
theorem Kn.back (A : T3 G fs H G1 fs1 H1) {a : Addr} (h : Kn G1 fs1 H1 a) : Kn G fs H a := by
  rcases h with ⟨i, hi, q⟩ | q
  · exact A.s5 i hi a q
  · exact .inr (A.s2 a q)
theorem T3.trans (A : TS G fs H G1 fs1 H1) (S : SR K G1 sl1 σ1 H1 fs1) (B : T3 G1 fs1 H1 G2 fs2 H2) : T3 G fs H G2 fs2 H2 where
  s1 := fun a o h hn => by
    refine B.s1 a o (A.s1 a o h hn) fun j k hj haj => ?_
    rcases A.s3 j (by rw [hj]; rfl) a haj with ⟨l, hl, q⟩ | q
    · cases e : md G l with
      | no => rw [e] at hl; cases hl
      | vw _ _ => rw [e] at hl; cases hl
      | ow k' => exact hn l k' e q
      | lk k' =>
        obtain ⟨e1, e2⟩ := A.s4 l k' e
        have ne : j ≠ l := fun z => by rw [z, e1] at hj; cases hj
        exact S.dj j l (by rw [hj]; rfl) (by rw [e1]; rfl) ne a haj (by rw [e2]; exact q)
    · rw [h] at q; cases q
  s2 := fun a h => A.s2 a (B.s2 a h)
  s3 := fun j hj a ha => by
    rcases B.s3 j hj a ha with ⟨k, hk, q⟩ | q
    · exact A.s3 k hk a q
    · exact .inr (A.s2 a q)
  s5 := fun j hj a ha => (B.s5 j hj a ha).back A.toT3
theorem TS.trans (A : TS G fs H G1 fs1 H1) (S : SR K G1 sl1 σ1 H1 fs1) (B : TS G1 fs1 H1 G2 fs2 H2) : TS G fs H G2 fs2 H2 :=
  { A.toT3.s1 |> fun _ => T3.trans A S B.toT3 with
    s4 := fun j k h => by
      obtain ⟨e1, e2⟩ := A.s4 j k h
      obtain ⟨e3, e4⟩ := B.s4 j k e1
      exact ⟨e3, e4.trans e2⟩ }
theorem TS.refl : TS G fs H G fs H := ⟨⟨fun _ _ h _ => h, fun _ h => h, fun j hj a ha => .inl ⟨j, hj, ha⟩, fun j hj a ha => .inl ⟨j, hj, ha⟩⟩, fun _ _ h => ⟨h, rfl⟩⟩
theorem TS.ext (E : Same H H1) : TS G fs H G fs H1 := ⟨⟨fun a o h _ => E a o h, fun _ h => E.free h, fun j hj a ha => .inl ⟨j, hj, ha⟩, fun j hj a ha => .inl ⟨j, hj, ha⟩⟩, fun _ _ h => ⟨h, rfl⟩⟩
/-- an expression's transition -/
theorem Tr.ts (hM : ∀ j ∈ M, ∃ k, md G j = .ow k) (T : Tr M sl fs H sl1 fs1 H1) : TS G fs H (kill M G) fs1 H1 where
  s1 := fun a o h hn => T.t1 a o h fun j hj => let ⟨k, hk⟩ := hM j hj; hn j k hk
  s2 := T.t2
  s3 := fun j hj a ha => by
    by_cases hm : j ∈ M
    · rcases T.t4 j hm a ha with ⟨i, hi, q⟩ | q
      · obtain ⟨k, hk⟩ := hM i hi
        exact .inl ⟨i, by rw [hk]; rfl, q⟩
      · exact .inr q
    · rw [(T.t3 j hm).1] at ha
      exact .inl ⟨j, by rw [own_kill] at hj; exact hj, ha⟩
  s5 := fun j hj a ha => Kn.early hM T (.inl ⟨j, hj, ha⟩)
  s4 := fun j k h => by
    refine ⟨kill_lk h, ?_⟩
    have hn : j ∉ M := fun hm => by
      obtain ⟨k', hk⟩ := hM j hm
      rw [h] at hk; cases hk
    exact (T.t3 j hn).1
end

/-! ### modes weakened -/
def leM (m n : Mode) : Bool := match m, n with
  | _, .no => (match m with | .lk _ => false | _ => true)
  | .vw k rs, .vw l ss => decide (k ≤ l) && (decide (k = 0) || rs.all (fun r => ss.contains r))
  | .ow k, .ow l => decide (k ≤ l)
  | .ow k, .vw l _ => decide (k ≤ l)
  | .lk k, .lk l => decide (k = l)
  | _, _ => false
/-- at the end of a def a lock is nothing -/
def leX (m n : Mode) : Bool := match m, n with
  | _, .no => true
  | .lk k, .ow l => decide (k ≤ l)
  | m, n => leM m n
def leG (le : Mode → Mode → Bool) : List Mode → List Mode → Bool
  | _, [] => true
  | [], n :: ns => le .no n && leG le [] ns
  | m :: ms, n :: ns => le m n && leG le ms ns
theorem leG_at {le : Mode → Mode → Bool} (h0 : ∀ m, le m .no = true ∨ ∃ k, m = .lk k) : ∀ {G G' : List Mode}, leG le G G' = true → ∀ i, le (md G i) (md G' i) = true ∨ md G' i = .no
  | G, [], _, i => .inr (by unfold md; rw [List.getD_eq_getElem?_getD]; rfl)
  | [], n :: ns, h, 0 => by
    simp only [leG, Bool.and_eq_true] at h
    exact .inl h.1
  | [], n :: ns, h, i + 1 => by
    simp only [leG, Bool.and_eq_true] at h
    have := leG_at h0 h.2 i
    simpa [md] using this
  | m :: ms, n :: ns, h, 0 => by
    simp only [leG, Bool.and_eq_true] at h
    exact .inl h.1
  | m :: ms, n :: ns, h, i + 1 => by
    simp only [leG, Bool.and_eq_true] at h
    have := leG_at h0 h.2 i
    simpa [md] using this
theorem leM_own {m n : Mode} (h : leX m n = true) (o : n.own = true) : m.own = true ∧ m.k ≤ n.k := by
  cases m <;> cases n <;> simp [leX, leM, Mode.own, Mode.k] at h o ⊢ <;> omega
theorem SR.le {K : PySem.W.Frag} {G G' : List Mode} {sl : Ev} {σ : L2.St} {H : Hp} {fs : Nat → List Addr} (S : SR K G sl σ H fs) (h : ∀ i, leX (md G i) (md G' i) = true ∨ md G' i = .no) : SR K G' sl σ H fs := by
  have own : ∀ i, (md G' i).own = true → (md G i).own = true := fun i o => (h i).elim (fun z => (leM_own z o).1) fun z => by rw [z] at o; cases o
  refine ⟨S.len, S.sz, fun i n => ?_, fun i o => S.nd i (own i o), fun i j o p => S.dj i j (own i o) (own j p), fun i k rs e a ha j o haj => ?_⟩
  · have q := (h i).resolve_right n
    have n1 : md G i ≠ .no := fun z => by
      rw [z] at q
      cases e : md G' i <;> rw [e] at q n <;> first | exact n rfl | cases q
    obtain ⟨d, v, h1, h2, r, m⟩ := S.val i n1
    refine ⟨d, v, h1, h2, r, Nat.le_trans m ?_⟩
    cases e1 : md G i <;> cases e2 : md G' i <;> first | exact absurd e2 n | (rw [e1, e2] at q; simp [leX, leM, Mode.k] at q ⊢; try omega)
  · have q := (h i).resolve_right (by rw [e]; simp)
    rw [e] at q
    cases e1 : md G i with
    | no => rw [e1] at q; cases q
    | vw l ss =>
      rw [e1] at q
      simp only [leX, leM, Bool.and_eq_true, Bool.or_eq_true, decide_eq_true_eq, List.all_eq_true] at q
      rcases q.2 with z | z
      · obtain ⟨d, v, _, _, r, m⟩ := S.val i (by rw [e1]; simp)
        rw [e1] at m
        have m' : mdep d ≤ l := m
        rw [r.imm (by omega)] at ha; cases ha
      · have := z j (S.vw i l ss e1 a ha j (own j o) haj)
        simpa using this
    | ow l =>
      have ne : i ≠ j := fun z => by subst z; rw [e] at o; cases o
      exact absurd haj (S.dj i j (by rw [e1]; rfl) (own j o) ne a ha)
    | lk l => rw [e1] at q; simp [leX, leM] at q
/-- within a def: locks stay locks -/
def leS (G G' : List Mode) : Bool := leG leM G G'
theorem leM_leX {m n : Mode} (h : leM m n = true) : leX m n = true := by
  cases m <;> cases n <;> simp [leX, leM] at h ⊢ <;> omega
theorem leS_at {G G' : List Mode} (h : leS G G' = true) (i : Nat) : leM (md G i) (md G' i) = true ∨ md G' i = .no := by
  have := leG_at (le := leM) (fun m => by cases m <;> simp [leM]) h i
  exact this
/-- the lengths agree, so a lock is kept -/
theorem leS_lk {G G' : List Mode} (h : leS G G' = true) (hl : G.length ≤ G'.length) {j k : Nat} (e : md G j = .lk k) : md G' j = .lk k := by
  have hj : j < G.length := by
    by_cases q : j < G.length
    · exact q
    · unfold md at e
      rw [List.getD_eq_getElem?_getD, List.getElem?_eq_none (by omega)] at e
      cases e
  have go : ∀ {G G' : List Mode} {j : Nat}, leG leM G G' = true → G.length ≤ G'.length → j < G.length → leM (md G j) (md G' j) = true := by
    intro G
    induction G with
    | nil => intro G' j _ _ q; cases q
    | cons m ms ih =>
      intro G' j h hl q
      cases G' with
      | nil => simp at hl
      | cons n ns =>
        simp only [leG, Bool.and_eq_true] at h
        cases j with
        | zero => exact h.1
        | succ j =>
          have := ih (G' := ns) (j := j) h.2 (by simpa using hl) (by simpa using q)
          simpa [md] using this
  have q := go (show leG leM G G' = true from h) hl hj
  rw [e] at q
  cases e2 : md G' j with
  | lk l => rw [e2] at q; simp [leM] at q; rw [q]
  | no => rw [e2] at q; simp [leM] at q
  | vw _ _ => rw [e2] at q; simp [leM] at q
  | ow _ => rw [e2] at q; simp [leM] at q
theorem leX_no {m n : Mode} (h : leX m n = true ∨ n = .no) (e : n ≠ .no) : m ≠ .no := fun z => by
  have q := h.resolve_right e
  subst z
  cases n <;> first | exact e rfl | cases q
theorem TS.weak {G G1 G2 : List Mode} {H H1 : Hp} {fs fs1 : Nat → List Addr} (A : TS G fs H G1 fs1 H1) (h : leS G1 G2 = true) (hl : G1.length ≤ G2.length) : TS G fs H G2 fs1 H1 where
  s1 := A.s1
  s2 := A.s2
  s3 := fun j o => A.s3 j ((leS_at h j).elim (fun z => (leM_own (leM_leX z) o).1) fun z => by rw [z] at o; cases o)
  s5 := fun j o => A.s5 j (leX_no ((leS_at h j).imp leM_leX id) o)
  s4 := fun j k e => by
    obtain ⟨e1, e2⟩ := A.s4 j k e
    exact ⟨leS_lk h hl e1, e2⟩
theorem SR.leS {K : PySem.W.Frag} {G G' : List Mode} {sl : Ev} {σ : L2.St} {H : Hp} {fs : Nat → List Addr} (S : SR K G sl σ H fs) (h : leS G G' = true) : SR K G' sl σ H fs :=
  S.le fun i => (leS_at h i).imp leM_leX id
theorem T3.weakX {G G1 G2 : List Mode} {H H1 : Hp} {fs fs1 : Nat → List Addr} (A : T3 G fs H G1 fs1 H1) (h : ∀ i, leX (md G1 i) (md G2 i) = true ∨ md G2 i = .no) : T3 G fs H G2 fs1 H1 where
  s1 := A.s1
  s2 := A.s2
  s3 := fun j o => A.s3 j ((h j).elim (fun z => (leM_own z o).1) fun z => by rw [z] at o; cases o)
  s5 := fun j o => A.s5 j (leX_no (h j) o)
theorem leX_at {G G' : List Mode} (h : leG leX G G' = true) (i : Nat) : leX (md G i) (md G' i) = true ∨ md G' i = .no :=
  leG_at (le := leX) (fun m => by cases m <;> simp [leX]) h i

/-! ### a value on its way into a target -/
def GOk (G : List Mode) (fs : Nat → List Addr) (fp : List Addr) : RM → Prop
  | .vw _ rs => ∀ a ∈ fp, ∀ j, (md G j).own = true → a ∈ fs j → j ∈ rs
  | .ow _ => fp.Nodup ∧ ∀ a ∈ fp, ∀ j, md G j ≠ .no → a ∉ fs j
structure GIn (K : PySem.W.Frag) (G : List Mode) (fs : Nat → List Addr) (H : Hp) (m : RM) (d : D) (v : V) (fp : List Addr) : Prop where
  rep : Rep K H d v fp
  dep : mdep d ≤ m.k
  ok : GOk G fs fp m
theorem Out.gin {K : PySem.W.Frag} {G : List Mode} {M : List Nat} {sl : Ev} {σ : L2.St} {H : Hp} {fs : Nat → List Addr} {m : RM} {d : D} {sl' : Ev} {v : V} {H' : Hp} {fs' : Nat → List Addr} {fp : List Addr}
    (S : SR K G sl σ H fs) (hM : ∀ j ∈ M, ∃ k, md G j = .ow k) (O : Out K G M sl σ H fs m d sl' v H' fs' fp) : GIn K (kill M G) fs' H' m d v fp := by
  refine ⟨O.rep, O.dep, ?_⟩
  have ok := O.ok
  cases m with
  | vw k rs => exact fun a ha j hj haj => ok.1 a ha j (by rw [← own_kill (M := M)]; exact hj) haj
  | ow k =>
    refine ⟨ok.1, fun a ha j hj haj => ?_⟩
    by_cases ho : (md (kill M G) j).own = true
    · exact ok.2.2 a ha j (by rw [← own_kill (M := M)]; exact ho) haj
    · cases e : md (kill M G) j with
      | no => exact hj e
      | ow _ => rw [e] at ho; exact ho rfl
      | lk _ => rw [e] at ho; exact ho rfl
      | vw l rs =>
        rw [md_kill] at e
        obtain ⟨e1, e2⟩ := killM_vw e
        have hm : j ∉ M := fun q => by
          obtain ⟨k', hk⟩ := hM j q
          rw [e1] at hk; cases hk
        rw [(O.tr.t3 j hm).1] at haj
        have nn : md G j ≠ .no := by rw [e1]; simp
        rcases ok.2.1 a ha with q | ⟨r, hr, q⟩
        · exact S.alive nn haj q
        · obtain ⟨k', hk⟩ := hM r hr
          have hr2 := S.vw j l rs e1 a haj r (by rw [hk]; rfl) q
          by_cases l0 : l = 0
          · obtain ⟨d', v', _, _, r', m'⟩ := S.val j nn
            rw [e1] at m'
            have m2 : mdep d' ≤ l := m'
            rw [r'.imm (by omega)] at haj; cases haj
          · exact e2 l0 r hr2 hr

def toM : RM → Mode
  | .vw k rs => .vw k rs
  | .ow 0 => .vw 0 []
  | .ow (k + 1) => .ow (k + 1)
theorem md_set {G : List Mode} {i j : Nat} {m : Mode} (hi : i < G.length) : md (G.set i m) j = if j = i then m else md G j := by
  unfold md
  rw [List.getD_eq_getElem?_getD, List.getD_eq_getElem?_getD]
  by_cases e : j = i
  · subst e; rw [List.getElem?_set_self hi, if_pos rfl]; rfl
  · rw [List.getElem?_set_ne (Ne.symm e), if_neg e]
def fset (fs : Nat → List Addr) (i : Nat) (fp : List Addr) : Nat → List Addr := fun j => if j = i then fp else fs j
theorem SR.set {K : PySem.W.Frag} {G : List Mode} {sl : Ev} {σ : L2.St} {H : Hp} {fs : Nat → List Addr} {m : RM} {d : D} {v : V} {fp : List Addr} {i : Nat} (S : SR K G sl σ H fs) (I : GIn K G fs H m d v fp) (hi : i < G.length) (hs : i < sl.length) :
    SR K (G.set i (toM m)) (sl.set i (some d)) (σ.set i (some v)) H (fset fs i fp) := by
  have mk : (toM m).k = m.k := by
    cases m with
    | vw k rs => rfl
    | ow k => cases k <;> rfl
  have im : m.k = 0 → fp = [] := fun e => I.rep.imm (by have := I.dep; omega)
  have ownm : (toM m).own = true → ∃ k, m = .ow (k + 1) := fun e => by
    cases m with
    | vw k rs => cases e
    | ow k =>
      cases k with
      | zero => cases e
      | succ k => exact ⟨k, rfl⟩
  have off : ∀ k, m = .ow k → ∀ a ∈ fp, ∀ j, md G j ≠ .no → a ∉ fs j := fun k e => by
    have ok := I.ok
    rw [e] at ok
    exact ok.2
  refine ⟨by rw [List.length_set, List.length_set]; exact S.len, S.sz, fun j hj => ?_, fun j hj => ?_, fun j l hj hl ne a ha => ?_, fun j k rs e a ha l hl hal => ?_⟩
  · rw [md_set hi] at hj ⊢
    unfold fset
    by_cases e : j = i
    · subst e
      rw [if_pos rfl, if_pos rfl]
      exact ⟨d, v, List.getElem?_set_self hs, List.getElem?_set_self (by rw [← S.len]; exact hs), I.rep, by rw [mk]; exact I.dep⟩
    · rw [if_neg e] at hj ⊢
      rw [if_neg e]
      obtain ⟨d', v', h1, h2, r, m'⟩ := S.val j hj
      exact ⟨d', v', by rw [List.getElem?_set_ne (Ne.symm e)]; exact h1, by rw [List.getElem?_set_ne (Ne.symm e)]; exact h2, r, m'⟩
  · rw [md_set hi] at hj
    unfold fset
    by_cases e : j = i
    · subst e
      rw [if_pos rfl] at hj ⊢
      obtain ⟨k, rfl⟩ := ownm hj
      exact I.ok.1
    · rw [if_neg e] at hj ⊢
      exact S.nd j hj
  · rw [md_set hi] at hj hl
    unfold fset at ha ⊢
    by_cases e : j = i
    · subst e
      rw [if_pos rfl] at hj ha
      have e2 : ¬ l = j := fun z => ne z.symm
      rw [if_neg e2] at hl ⊢
      obtain ⟨k, e3⟩ := ownm hj
      exact off _ e3 a ha l (own_ne_no hl)
    · rw [if_neg e] at hj ha
      by_cases e2 : l = i
      · subst e2
        rw [if_pos rfl] at hl ⊢
        obtain ⟨k, e3⟩ := ownm hl
        exact fun z => off _ e3 a z j (own_ne_no hj) ha
      · rw [if_neg e2] at hl ⊢
        exact S.dj j l hj hl ne a ha
  · rw [md_set hi] at e hl
    unfold fset at ha hal
    by_cases e1 : j = i
    · subst e1
      rw [if_pos rfl] at e ha
      by_cases e2 : l = j
      · subst e2
        rw [if_pos rfl] at hl
        rw [e] at hl; cases hl
      · rw [if_neg e2] at hl hal
        have ok := I.ok
        cases m with
        | vw k' rs' => cases e; exact ok a ha l hl hal
        | ow k' => exact absurd hal (ok.2 a ha l (own_ne_no hl))
    · rw [if_neg e1] at e ha
      by_cases e2 : l = i
      · subst e2
        rw [if_pos rfl] at hl hal
        obtain ⟨k', e3⟩ := ownm hl
        exact absurd ha (off _ e3 a hal j (by rw [e]; simp))
      · rw [if_neg e2] at hl hal
        exact S.vw j k rs e a ha l hl hal

/-! ### targets -/
/-- a part of a value -/
def subM : RM → RM
  | .vw k rs => .vw (k - 1) rs
  | .ow k => if k ≤ 1 then .vw 0 [] else .ow (k - 1)
structure GPost (G : List Mode) (fs : Nat → List Addr) (fp : List Addr) (m : RM) (G' : List Mode) (fs' : Nat → List Addr) : Prop where
  p1 : ∀ j, (md G' j = md G j ∧ fs' j = fs j) ∨ ((∀ a ∈ fs' j, a ∈ fp) ∧ ((md G' j).own = true → ∃ k, m = .ow k))
  p2 : ∀ j k, md G j = .lk k → md G' j = .lk k ∧ fs' j = fs j
/-- only the places in is are written -/
structure Frm (is : List Nat) (G : List Mode) (fs : Nat → List Addr) (sl : Ev) (σ : L2.St) (G' : List Mode) (fs' : Nat → List Addr) (sl' : Ev) (σ' : L2.St) : Prop where
  out : ∀ j, j ∉ is → md G' j = md G j ∧ fs' j = fs j ∧ sl'[j]? = sl[j]? ∧ σ'[j]? = σ[j]?
  len : sl'.length = sl.length ∧ σ'.length = σ.length
theorem Frm.trans {is js : List Nat} {G G1 G2 : List Mode} {fs fs1 fs2 : Nat → List Addr} {sl sl1 sl2 : Ev} {σ σ1 σ2 : L2.St} (a : Frm is G fs sl σ G1 fs1 sl1 σ1) (b : Frm js G1 fs1 sl1 σ1 G2 fs2 sl2 σ2) : Frm (is ++ js) G fs sl σ G2 fs2 sl2 σ2 :=
  ⟨fun j hj => by
    obtain ⟨a1, a2, a3, a4⟩ := a.out j fun z => hj (List.mem_append_left _ z)
    obtain ⟨b1, b2, b3, b4⟩ := b.out j fun z => hj (List.mem_append_right _ z)
    exact ⟨b1.trans a1, b2.trans a2, b3.trans a3, b4.trans a4⟩, b.len.1.trans a.len.1, b.len.2.trans a.len.2⟩
/-- tg takes a value of mode m; behind it the modes are G' -/
structure DG (X : Cx) (G : List Mode) (tg : Expr) (m : RM) (G' : List Mode) (is : List Nat) (f : D → Ev → Option Ev) : Prop where
  run : ∃ g, PG X tg g ∧ ∀ sl σ H fs d sl' v fp (Q : L2.St → Hp → Prop), SR X.K G sl σ H fs → f d sl = some sl' → GIn X.K G fs H m d v fp →
    (∀ σ' fs', SR X.K G' sl' σ' H fs' → GPost G fs fp m G' fs' → Frm is G fs sl σ G' fs' sl' σ' → Q σ' H) → g v σ H Q
  fr : ∀ d sl sl', f d sl = some sl' → (∀ j, j ∉ is → sl'[j]? = sl[j]?) ∧ sl'.length = sl.length
/-- several targets, each taking a part of mode m -/
structure DGs (X : Cx) (G : List Mode) (tgs : List Expr) (m : RM) (G' : List Mode) (is : List Nat) (f : List D → Ev → Option Ev) : Prop where
  run : ∃ g, PGs X tgs g ∧ ∀ sl σ H fs ds sl' vs fp (Q : L2.St → Hp → Prop), SR X.K G sl σ H fs → f ds sl = some sl' → Reps X.K H ds vs fp → (∀ d ∈ ds, mdep d ≤ m.k) → GOk G fs fp m →
    (∀ σ' fs', SR X.K G' sl' σ' H fs' → GPost G fs fp m G' fs' → Frm is G fs sl σ G' fs' sl' σ' → Q σ' H) → g vs σ H Q
  fr : ∀ ds sl sl', f ds sl = some sl' → (∀ j, j ∉ is → sl'[j]? = sl[j]?) ∧ sl'.length = sl.length
def notLk : Mode → Bool
  | .lk _ => false
  | _ => true
def gSet (i : Nat) : D → Ev → Option Ev := fun d sl => if i < sl.length then some (sl.set i (some d)) else none
def gsNil : List D → Ev → Option Ev
  | [], sl => some sl
  | _, _ => none
def gsCons (f : D → Ev → Option Ev) (fr : List D → Ev → Option Ev) : List D → Ev → Option Ev
  | d :: ds, sl => (f d sl).bind (fr ds)
  | [], _ => none
def gTupF (fr : List D → Ev → Option Ev) : D → Ev → Option Ev
  | .tup ds, sl => fr ds sl
  | _, _ => none
section
variable {X : Cx} {G G1 G2 : List Mode} {m : RM} {pos : Pos}
theorem dg_name {i : Nat} {x : Str} (hi : (decide (i < G.length) && notLk (md G i)) = true) (hN : X.N.Nodup) (hx : X.N[i]? = some x) (hl : Loc X.env.scope x)
    (hf : X.fn x = true ∨ X.env.scope.names.lookup x = some .local := by first | exact .inl rfl | exact .inr rfl | assumption) : DG X G (.Name x pos) m (G.set i (toM m)) [i] (gSet i) := by
  rw [Bool.and_eq_true, decide_eq_true_eq] at hi
  obtain ⟨hi, hk⟩ := hi
  refine ⟨⟨_, pg_name hN hx hl hf, fun sl σ H fs d sl' v fp Q S hs I hq => ?_⟩, fun d sl sl' hs => ?_⟩
  rotate_left
  · unfold gSet at hs
    split at hs
    · cases hs
      exact ⟨fun j hj => List.getElem?_set_ne (Ne.symm (by simpa using hj)), List.length_set⟩
    · cases hs
  unfold gSet at hs
  split at hs
  · rename_i hlt
    cases hs
    refine hq _ (fset fs i fp) (S.set I hi hlt) ⟨fun j => ?_, fun j k e => ?_⟩ ⟨fun j hj => ?_, List.length_set, List.length_set⟩
    rotate_left 2
    · have e : j ≠ i := by simpa using hj
      rw [md_set hi, if_neg e]
      exact ⟨rfl, by unfold fset; rw [if_neg e], List.getElem?_set_ne (Ne.symm e), List.getElem?_set_ne (Ne.symm e)⟩
    · rw [md_set hi]
      unfold fset
      by_cases e : j = i
      · subst e
        rw [if_pos rfl, if_pos rfl]
        refine .inr ⟨fun a ha => ha, fun ho => ?_⟩
        cases m with
        | vw k rs => cases ho
        | ow k => exact ⟨k, rfl⟩
      · rw [if_neg e, if_neg e]; exact .inl ⟨rfl, rfl⟩
    · have ne : j ≠ i := fun z => by subst z; rw [e] at hk; cases hk
      rw [md_set hi]
      unfold fset
      rw [if_neg ne, if_neg ne]
      exact ⟨e, rfl⟩
  · cases hs
theorem dgs_nil : DGs X G [] m G [] gsNil := by
  refine ⟨⟨_, pgs_nil, fun sl σ H fs ds sl' vs fp Q S hs r hd ok hq => ?_⟩, fun ds sl sl' hs => by cases ds <;> cases hs; exact ⟨fun _ _ => rfl, rfl⟩⟩
  cases ds with
  | nil =>
    cases hs
    cases r
    exact ⟨rfl, hq σ fs S ⟨fun j => .inl ⟨rfl, rfl⟩, fun j k e => ⟨e, rfl⟩⟩ ⟨fun j _ => ⟨rfl, rfl, rfl, rfl⟩, rfl, rfl⟩⟩
  | cons _ _ => cases hs
theorem dgs_cons {e : Expr} {es : List Expr} {is js : List Nat} {f : D → Ev → Option Ev} {fr : List D → Ev → Option Ev} (A : DG X G e m G1 is f) (B : DGs X G1 es m G2 js fr)
    (hs : (assignEach (e :: es) X.env).map (·.2) = assign e X.env :: (assignEach es X.env).map (·.2) := by rfl) : DGs X G (e :: es) m G2 (is ++ js) (gsCons f fr) := by
  obtain ⟨g, pg, rg⟩ := A.run
  obtain ⟨gr, pgr, rr⟩ := B.run
  refine ⟨⟨_, pgs_cons pg pgr hs, fun sl σ H fs ds sl' vs fp Q S h r hd ok hq => ?_⟩, fun ds sl sl' h => ?_⟩
  rotate_left
  · cases ds with
    | nil => cases h
    | cons d ds =>
      replace h : (f d sl).bind (fr ds) = some sl' := h
      cases h1 : f d sl with
      | none => rw [h1] at h; cases h
      | some sl1 =>
        rw [h1] at h
        simp only [Option.bind_some] at h
        obtain ⟨a1, a2⟩ := A.fr d sl sl1 h1
        obtain ⟨b1, b2⟩ := B.fr ds sl1 sl' h
        exact ⟨fun j hj => (b1 j fun z => hj (List.mem_append_right _ z)).trans (a1 j fun z => hj (List.mem_append_left _ z)), b2.trans a2⟩
  cases ds with
  | nil => cases h
  | cons d ds =>
    replace h : (f d sl).bind (fr ds) = some sl' := h
    cases h1 : f d sl with
    | none => rw [h1] at h; cases h
    | some sl1 =>
      rw [h1] at h
      simp only [Option.bind_some] at h
      cases r with
      | @cons _ v f1 _ vs f2 r1 r2 =>
        refine ⟨v, vs, rfl, rg sl σ H fs d sl1 v f1 _ S h1 ⟨r1, hd d List.mem_cons_self, ?_⟩ fun σ1 fs1 S1 P1 F1 => ?_⟩
        · cases m with
          | vw k rs => exact fun a ha j hj haj => ok a (List.mem_append_left _ ha) j hj haj
          | ow k => exact ⟨(List.nodup_append.mp ok.1).1, fun a ha => ok.2 a (List.mem_append_left _ ha)⟩
        · refine rr sl1 σ1 H fs1 ds sl' vs f2 Q S1 h r2 (fun d hd' => hd d (List.mem_cons_of_mem _ hd')) ?_ fun σ2 fs2 S2 P2 F2 => hq σ2 fs2 S2 ⟨fun j => ?_, fun j k e => ?_⟩ (F1.trans F2)
          · cases m with
            | vw k rs =>
              intro a ha j hj haj
              rcases P1.p1 j with ⟨e1, e2⟩ | ⟨_, z⟩
              · rw [e1] at hj; rw [e2] at haj
                exact ok a (List.mem_append_right _ ha) j hj haj
              · obtain ⟨k', e⟩ := z hj
                cases e
            | ow k =>
              refine ⟨(List.nodup_append.mp ok.1).2.1, fun a ha j hj haj => ?_⟩
              rcases P1.p1 j with ⟨e1, e2⟩ | ⟨z, _⟩
              · rw [e1] at hj; rw [e2] at haj
                exact ok.2 a (List.mem_append_right _ ha) j hj haj
              · exact (List.nodup_append.mp ok.1).2.2 a (z a haj) a ha rfl
          · rcases P2.p1 j with ⟨e1, e2⟩ | ⟨z, z2⟩
            · rcases P1.p1 j with ⟨e3, e4⟩ | ⟨z, z2⟩
              · exact .inl ⟨e1.trans e3, e2.trans e4⟩
              · exact .inr ⟨fun a ha => List.mem_append_left _ (z a (by rw [← e2]; exact ha)), fun o => z2 (by rw [← e1]; exact o)⟩
            · exact .inr ⟨fun a ha => List.mem_append_right _ (z a ha), z2⟩
          · obtain ⟨e1, e2⟩ := P1.p2 j k e
            obtain ⟨e3, e4⟩ := P2.p2 j k e1
            exact ⟨e3, e4.trans e2⟩
theorem subM_vw {k : Nat} {rs : List Nat} : subM (.vw k rs) = .vw (k - 1) rs := rfl
theorem subM_ow {k : Nat} : subM (.ow k) = if k ≤ 1 then .vw 0 [] else .ow (k - 1) := rfl
theorem subM_ok {fs : Nat → List Addr} {fp : List Addr} (ok : GOk G fs fp m) (im : (subM m).k = 0 → fp = []) : GOk G fs fp (subM m) := by
  cases m with
  | vw k rs => exact ok
  | ow k =>
    rw [subM_ow] at im ⊢
    by_cases hk : k ≤ 1
    · rw [if_pos hk] at im ⊢
      rw [im rfl]
      exact fun _ z => nomatch z
    · rw [if_neg hk]
      exact ok
theorem subM_k : (subM m).k = m.k - 1 := by
  cases m with
  | vw k rs => rfl
  | ow k =>
    rw [subM_ow]
    by_cases hk : k ≤ 1
    · rw [if_pos hk]; show 0 = k - 1; omega
    · rw [if_neg hk]; rfl
theorem GPost.sub {fs fs' : Nat → List Addr} {fp : List Addr} (P : GPost G fs fp (subM m) G1 fs') : GPost G fs fp m G1 fs' :=
  ⟨fun j => (P.p1 j).imp id fun ⟨a, b⟩ => ⟨a, fun o => by
    obtain ⟨k, e⟩ := b o
    cases m with
    | vw k' rs => cases e
    | ow k' => exact ⟨k', rfl⟩⟩, P.p2⟩
theorem dg_tup {es : List Expr} {k : Nat} {is : List Nat} {fr : List D → Ev → Option Ev} (hc : X.calm = true) (B : DGs X G es (subM m) G1 is fr) (hlen : ∀ ds sl sl', fr ds sl = some sl' → ds.length = es.length) (hn : (assignEach es X.env).length = es.length := by rfl) (hst : (assignEach es X.env).findIdx? (·.1) = none := by rfl) :
    DG X G (.Tuple es k pos) m G1 is (gTupF fr) := by
  obtain ⟨g, pg, rg⟩ := B.run
  refine ⟨⟨_, pg_tup hc pg hn hst, fun sl σ H fs d sl' v fp Q S hs I hq => ?_⟩, fun d sl sl' hs => by
    unfold gTupF at hs
    split at hs
    · exact B.fr _ sl sl' hs
    · cases hs⟩
  unfold gTupF at hs
  split at hs
  · rename_i ds
    have r := I.rep
    cases r with
    | tup h1 r1 =>
      rename_i a vs
      have dd : ∀ d ∈ ds, mdep d ≤ (subM m).k := fun d hd => by
        have := mdep_tup_le I.dep d hd
        rw [subM_k]; exact this
      refine ⟨a, vs, rfl, SqT.of h1, ?_, rg sl σ H fs ds sl' vs fp Q S hs r1 dd (subM_ok I.ok fun e => r1.imm_of fun d hd => by have := dd d hd; omega) fun σ' fs' S' P F => hq σ' fs' S' P.sub F⟩
      rw [← r1.length]
      exact hlen ds sl sl' hs
  · cases hs
theorem gsNil_len {ds : List D} {sl sl' : Ev} (h : gsNil ds sl = some sl') : ds.length = 0 := by
  cases ds with
  | nil => rfl
  | cons _ _ => cases h
theorem gsCons_len {f : D → Ev → Option Ev} {fr : List D → Ev → Option Ev} {n : Nat} (h : ∀ ds sl sl', fr ds sl = some sl' → ds.length = n) : ∀ ds sl sl', gsCons f fr ds sl = some sl' → ds.length = n + 1 := fun ds sl sl' q => by
  cases ds with
  | nil => cases q
  | cons d ds =>
    replace q : (f d sl).bind (fr ds) = some sl' := q
    cases h1 : f d sl with
    | none => rw [h1] at q; cases q
    | some s =>
      rw [h1] at q
      rw [List.length_cons, h ds s sl' q]
end
end Dw
/-! Dw, part I: statements: values on their way (moved or read), blocks, assignment, return, if, while. -/
namespace Dw
open PySem PySem.Spec PyProof.Rows L2

/-! ### an expression whose value goes somewhere: own locals may move -/
structure OutV (K : PySem.W.Frag) (G : List Mode) (σ : L2.St) (H : Hp) (fs : Nat → List Addr) (m : RM) (d : D) (G' : List Mode) (sl' : Ev) (v : V) (H' : Hp) (fs' : Nat → List Addr) (fp : List Addr) : Prop where
  sr : SR K G' sl' σ H' fs'
  ts : TS G fs H G' fs' H'
  gin : GIn K G' fs' H' m d v fp
  own : (∃ k, m = .ow k) → ∀ a ∈ fp, (∃ k, (md G k).own = true ∧ a ∈ fs k) ∨ H a = none
  kn : ∀ a ∈ fp, Kn G fs H a
structure DV (X : Cx) (G : List Mode) (e : Expr) (m : RM) (G' : List Mode) (f : Ev → Option (D × Ev)) : Prop where
  run : ∃ t, PE X e t ∧ ∀ sl σ H fs d sl' (Q : VK), SR X.K G sl σ H fs → f sl = some (d, sl') → (∀ v H' fs' fp, OutV X.K G σ H fs m d G' sl' v H' fs' fp → Q v H') → t σ H Q
theorem DE.dv {X : Cx} {G : List Mode} {e : Expr} {m : RM} {M : List Nat} {f : Ev → Option (D × Ev)} (A : DE X G e m M f) : DV X G e m (kill M G) f := by
  obtain ⟨t, p, r⟩ := A.run
  refine ⟨t, p, fun sl σ H fs d sl' Q S hf hq => r sl σ H fs d sl' Q S hf fun v H' fs' fp O => hq v H' fs' fp ⟨O.sr, O.tr.ts A.hM, O.gin S A.hM, fun ⟨k, e⟩ a ha => ?_, O.ok.kn A.hM⟩⟩
  have ok := O.ok
  rw [e] at ok
  rcases ok.2.1 a ha with q | ⟨j, hj, q⟩
  · exact .inr q
  · obtain ⟨k', hk⟩ := A.hM j hj
    exact .inl ⟨j, by rw [hk]; rfl, q⟩
theorem DV.congr {X : Cx} {G G' : List Mode} {e : Expr} {m : RM} {f f' : Ev → Option (D × Ev)} (h : DV X G e m G' f) (l : f' = f) : DV X G e m G' f' := by rw [l]; exact h
/-- drop a local -/
theorem SR.drop {K : PySem.W.Frag} {G : List Mode} {sl : Ev} {σ : L2.St} {H : Hp} {fs : Nat → List Addr} (S : SR K G sl σ H fs) {i : Nat} (hi : i < G.length) : SR K (G.set i .no) sl σ H fs :=
  S.less fun j => by
    rw [md_set hi]
    by_cases e : j = i
    · rw [if_pos e]; exact .inr rfl
    · rw [if_neg e]; exact .inl rfl
def isOw : Mode → Bool
  | .ow _ => true
  | _ => false
/-- an own local moves -/
theorem dv_mv {X : Cx} {G : List Mode} {i : Nat} {x : Str} {pos : Pos} (ho : isOw (md G i) = true) (hN : X.N[i]? = some x) (hv : Vis X.env.scope x) (hd : (x == ("__debug__" : Str)) = false := by decide) (hcd : (x == ("__classdict__" : Str)) = false := by decide) :
    DV X G (.Name x pos) (.ow (md G i).k) ((kill [i] G).set i .no) (lift (eVar i)) := by
  have ow : ∃ k, md G i = .ow k := by cases h : md G i <;> rw [h] at ho <;> first | exact ⟨_, rfl⟩ | cases ho
  obtain ⟨k, hk⟩ := ow
  have ne : md G i ≠ .no := by rw [hk]; simp
  have own : (md G i).own = true := by rw [hk]; rfl
  have hi : i < G.length := by
    by_cases q : i < G.length
    · exact q
    · unfold md at hk
      rw [List.getD_eq_getElem?_getD, List.getElem?_eq_none (by omega)] at hk
      cases hk
  refine ⟨_, pe_var hN hv hd hcd, fun sl σ H fs d sl' Q S hf hq => ?_⟩
  obtain ⟨hg, rfl⟩ := lift_some.mp hf
  obtain ⟨d', v, h1, h2, r, dp⟩ := S.val i ne
  rw [eVar_some h1] at hg; cases hg
  have hi' : i < (kill [i] G).length := by rw [show kill [i] G = G.map (killM [i]) from rfl, List.length_map]; exact hi
  have less : ∀ j, md ((kill [i] G).set i .no) j ≠ .no → j ≠ i ∧ md ((kill [i] G).set i .no) j = md (kill [i] G) j ∧ md (kill [i] G) j = md G j := fun j n => by
    rw [md_set hi'] at n ⊢
    by_cases e : j = i
    · rw [if_pos e] at n; exact absurd rfl n
    · rw [if_neg e] at n ⊢
      refine ⟨e, rfl, ?_⟩
      rw [md_kill] at n ⊢
      exact killM_ne n
  have S' : SR X.K (kill [i] G) sl' σ H fs := S.less fun j => by
    rw [md_kill]
    by_cases e : killM [i] (md G j) = .no
    · exact .inr e
    · exact .inl (killM_ne e)
  refine ⟨v, h2, hq v H fs (fs i) ⟨S'.drop hi', ⟨⟨fun _ _ h _ => h, fun _ h => h, fun j hj a ha => ?_, fun j hj a ha => ?_⟩, fun j k' e => ?_⟩, ⟨r, dp, ?_⟩, fun _ a ha => .inl ⟨i, own, ha⟩, fun a ha => .inl ⟨i, ne, ha⟩⟩⟩
  · obtain ⟨_, e1, e2⟩ := less j (own_ne_no hj)
    exact .inl ⟨j, by rw [← e2, ← e1]; exact hj, ha⟩
  · obtain ⟨_, e1, e2⟩ := less j hj
    exact .inl ⟨j, by rw [← e2, ← e1]; exact hj, ha⟩
  · have nj : j ≠ i := fun z => by subst z; rw [hk] at e; cases e
    rw [md_set hi', if_neg nj]
    exact ⟨kill_lk e, rfl⟩
  · refine ⟨S.nd i own, fun a ha j hj haj => ?_⟩
    obtain ⟨nj, e1, e2⟩ := less j hj
    by_cases oj : (md G j).own = true
    · exact S.dj i j own oj (Ne.symm nj) a ha haj
    · cases e3 : md G j with
      | no => rw [e1, e2] at hj; exact hj e3
      | ow _ => rw [e3] at oj; exact oj rfl
      | lk _ => rw [e3] at oj; exact oj rfl
      | vw l rs =>
        have nn : md G j ≠ .no := by rw [e3]; simp
        have q : killM [i] (md G j) = .vw l rs := by rw [← md_kill, e2, e3]
        obtain ⟨_, z⟩ := killM_vw q
        by_cases l0 : l = 0
        · obtain ⟨d', v', _, _, r', m'⟩ := S.val j nn
          rw [e3] at m'
          have m2 : mdep d' ≤ l := m'
          rw [r'.imm (by omega)] at haj; cases haj
        · exact z l0 i (S.vw j l rs e3 a haj i own ha) List.mem_cons_self
/-! ### displays of such -/
def plainOwn : RM → Bool
  | .ow _ => true
  | .vw k _ => decide (k = 0)
/-- values on their way, each plain or own -/
inductive GA (K : PySem.W.Frag) (H : Hp) : List RM → List D → List V → List (List Addr) → Prop
  | nil : GA K H [] [] [] []
  | cons {m : RM} {d : D} {v : V} {fp : List Addr} {ms : List RM} {ds : List D} {vs : List V} {fps : List (List Addr)} : Rep K H d v fp → mdep d ≤ m.k → GA K H ms ds vs fps → GA K H (m :: ms) (d :: ds) (v :: vs) (fp :: fps)
structure OutVs (K : PySem.W.Frag) (G : List Mode) (σ : L2.St) (H : Hp) (fs : Nat → List Addr) (ms : List RM) (ds : List D) (G' : List Mode) (sl' : Ev) (vs : List V) (H' : Hp) (fs' : Nat → List Addr) (fps : List (List Addr)) : Prop where
  sr : SR K G' sl' σ H' fs'
  ts : TS G fs H G' fs' H'
  ga : GA K H' ms ds vs fps
  nd : fps.flatten.Nodup
  off : ∀ a ∈ fps.flatten, ∀ j, md G' j ≠ .no → a ∉ fs' j
  own : ∀ a ∈ fps.flatten, (∃ k, (md G k).own = true ∧ a ∈ fs k) ∨ H a = none
structure DVs (X : Cx) (G : List Mode) (es : List Expr) (ms : List RM) (G' : List Mode) (f : Ev → Option (List D × Ev)) : Prop where
  run : ∃ t, PA X es t ∧ ∀ sl σ H fs ds sl' (Q : List V → Hp → Prop), SR X.K G sl σ H fs → f sl = some (ds, sl') → (∀ vs H' fs' fps, OutVs X.K G σ H fs ms ds G' sl' vs H' fs' fps → Q vs H') → t σ H Q
theorem GA.reps {K : PySem.W.Frag} {H : Hp} : ∀ {ms : List RM} {ds : List D} {vs : List V} {fps : List (List Addr)}, GA K H ms ds vs fps → Reps K H ds vs fps.flatten
  | _, _, _, _, .nil => .nil
  | _, _, _, _, .cons r _ t => .cons r t.reps
theorem GA.dep {K : PySem.W.Frag} {H : Hp} : ∀ {ms : List RM} {ds : List D} {vs : List V} {fps : List (List Addr)}, GA K H ms ds vs fps → ∀ d ∈ ds, mdep d ≤ kMax ms
  | _, _, _, _, .nil, _, h => nomatch h
  | _, _, _, _, .cons r dd t, d, h => by
    rcases List.mem_cons.mp h with e | h
    · subst e; exact Nat.le_trans dd (Nat.le_max_left _ _)
    · exact Nat.le_trans (GA.dep t d h) (Nat.le_max_right _ _)
section
variable {X : Cx} {G G1 G2 : List Mode} {a : Expr} {es : List Expr} {ma : RM} {ms : List RM} {fa : Ev → Option (D × Ev)} {fr : Ev → Option (List D × Ev)} {pos : Pos}
theorem dvs_nil : DVs X G [] [] G mNil := by
  refine ⟨_, pa_nil, fun sl σ H fs ds sl' Q S hf hq => ?_⟩
  cases hf
  exact hq [] H fs [] ⟨S, TS.refl, .nil, List.nodup_nil, (fun _ z => nomatch z), (fun _ z => nomatch z)⟩
theorem dvs_cons (A : DV X G a ma G1 fa) (R : DVs X G1 es ms G2 fr) (hp : plainOwn ma = true := by rfl) (hs : starEach (a :: es) X.env = (false, eval a X.env) :: starEach es X.env := by rfl) : DVs X G (a :: es) (ma :: ms) G2 (mCons fa fr) := by
  obtain ⟨ta, pa, ra⟩ := A.run
  obtain ⟨tr, pr, rr⟩ := R.run
  refine ⟨_, pa_cons pa pr hs, fun sl σ H fs ds sl' Q S hf hq => ?_⟩
  unfold mCons at hf
  cases h1 : fa sl with
  | none => rw [h1] at hf; cases hf
  | some p =>
    obtain ⟨d, sl1⟩ := p
    rw [h1] at hf
    simp only [Option.bind_some] at hf
    obtain ⟨q, h2, e⟩ := Option.map_eq_some_iff.mp hf
    obtain ⟨r, sl2⟩ := q
    cases e
    refine ra sl σ H fs d sl1 _ S h1 fun x H1 fs1 fp O => ?_
    refine rr sl1 σ H1 fs1 r sl2 _ O.sr h2 fun vs H2 fs2 fps P => ?_
    -- the first value's cells are its own
    have hd : fp.Nodup ∧ (∀ a ∈ fp, ∀ j, md G1 j ≠ .no → a ∉ fs1 j) ∧ ∀ a ∈ fp, (∃ k, (md G k).own = true ∧ a ∈ fs k) ∨ H a = none := by
      cases ma with
      | ow k => exact ⟨O.gin.ok.1, O.gin.ok.2, O.own ⟨k, rfl⟩⟩
      | vw k rs =>
        have e : fp = [] := O.gin.rep.imm (by have := O.gin.dep; have h0 : k = 0 := by simpa [plainOwn] using hp
                                              subst h0; exact Nat.le_zero.mp this)
        subst e
        exact ⟨List.nodup_nil, (fun _ z => nomatch z), (fun _ z => nomatch z)⟩
    obtain ⟨nd, off, ow⟩ := hd
    have keep : Keep (fun a => ∀ j k, md G1 j = .ow k → a ∉ fs1 j) H1 H2 := fun a o e hm => P.ts.s1 a o e fun j k hj haj => by
      obtain ⟨o', e', m'⟩ := O.sr.mem (by rw [hj]; simp) haj
      rw [e] at e'; cases e'
      exact hm m' j k hj haj
    have rx : Rep X.K H2 d x fp := O.gin.rep.keep keep fun a ha j k hj => off a ha j (by rw [hj]; simp)
    have later : ∀ a ∈ fp, ∀ j, md G2 j ≠ .no → a ∉ fs2 j := fun a ha j hj haj => by
      rcases P.ts.s5 j hj a haj with ⟨i, hi, q⟩ | q
      · exact off a ha i hi q
      · exact O.gin.rep.alive ha q
    refine hq (x :: vs) H2 fs2 (fp :: fps) ⟨P.sr, O.ts.trans O.sr P.ts, .cons rx O.gin.dep P.ga, ?_, fun a ha => ?_, fun a ha => ?_⟩
    · rw [List.flatten_cons]
      refine List.nodup_append.mpr ⟨nd, P.nd, fun c hc d' hd' e => ?_⟩
      subst e
      rcases P.own c hd' with ⟨k, hk, q⟩ | q
      · exact off c hc k (own_ne_no hk) q
      · exact O.gin.rep.alive hc q
    · rw [List.flatten_cons] at ha
      rcases List.mem_append.mp ha with ha | ha
      · exact later a ha
      · exact P.off a ha
    · rw [List.flatten_cons] at ha
      rcases List.mem_append.mp ha with ha | ha
      · exact ow a ha
      · rcases P.own a ha with ⟨k, hk, q⟩ | q
        · exact O.ts.s3 k hk a q
        · exact .inr (O.ts.s2 a q)
theorem own_kn {G : List Mode} {fs : Nat → List Addr} {H : Hp} {a : Addr} (h : (∃ k, (md G k).own = true ∧ a ∈ fs k) ∨ H a = none) : Kn G fs H a := h.imp (fun ⟨k, hk, q⟩ => ⟨k, own_ne_no hk, q⟩) id
theorem TS.ext2 {fs fs1 : Nat → List Addr} {H H1 H2 : Hp} (T : TS G fs H G1 fs1 H1) (E : Same H1 H2) : TS G fs H G1 fs1 H2 :=
  ⟨⟨fun a o h hn => E a o (T.s1 a o h hn), fun a h => T.s2 a (E.free h), T.s3, T.s5⟩, T.s4⟩
/-- (a, b, ..) -/
theorem dv_tup {x1} (R : DVs X G es ms G1 fr) : DV X G (.Tuple es x1 pos) (if kMax ms = 0 then .vw 0 [] else .ow (kMax ms + 1)) G1 (mTup fr) := by
  obtain ⟨tr, pr, rr⟩ := R.run
  refine ⟨_, pe_tup pr, fun sl σ H fs d sl' Q S hf hq => ?_⟩
  unfold mTup at hf
  cases h1 : fr sl with
  | none => rw [h1] at hf; cases hf
  | some p =>
    obtain ⟨ds, s⟩ := p
    rw [h1] at hf
    simp only [Option.bind_some] at hf
    split at hf
    · rename_i hl
      cases hf
      refine rr sl σ H fs ds sl' _ S h1 fun vs H1 fs1 fps P => ?_
      have rp := P.ga.reps
      rw [rp.length] at hl
      refine ⟨hl, fun p n => ?_⟩
      have E : Ext H1 (upd H1 p (.tup vs)) := Ext.upd n (szO_tup hl)
      have q := le_mdep_tup P.ga.dep
      refine hq (.ref p) _ fs1 fps.flatten ⟨P.sr.same E, P.ts.ext2 E.same, ⟨new_tup rp n, ?_, ?_⟩, fun _ => P.own, fun a ha => own_kn (P.own a ha)⟩
      · split <;> rename_i h0
        · rw [if_pos h0] at q; exact q
        · rw [if_neg h0] at q; exact q
      · split
        · rename_i h0
          rw [rp.imm_of (by intro d hd; have := P.ga.dep d hd; omega)]
          exact fun _ z => nomatch z
        · exact ⟨P.nd, P.off⟩
    · cases hf
theorem dv_lst (R : DVs X G es ms G1 fr) : DV X G (.List es pos) (.ow (kMax ms + 1)) G1 (mLst fr) := by
  obtain ⟨tr, pr, rr⟩ := R.run
  refine ⟨_, pe_lst pr, fun sl σ H fs d sl' Q S hf hq => ?_⟩
  unfold mLst at hf
  cases h1 : fr sl with
  | none => rw [h1] at hf; cases hf
  | some p =>
    obtain ⟨ds, s⟩ := p
    rw [h1] at hf
    simp only [Option.bind_some] at hf
    split at hf
    · rename_i hl
      cases hf
      refine rr sl σ H fs ds sl' _ S h1 fun vs H1 fs1 fps P => ?_
      have rp := P.ga.reps
      rw [rp.length] at hl
      refine ⟨hl, fun p n => ?_⟩
      have E : Ext H1 (upd H1 p (.lst vs)) := Ext.upd n (szO_lst hl)
      have ow : ∀ a ∈ p :: fps.flatten, (∃ k, (md G k).own = true ∧ a ∈ fs k) ∨ H a = none := fun a ha => by
        rcases List.mem_cons.mp ha with e | ha
        · subst e; exact .inr (P.ts.s2 _ n)
        · exact P.own a ha
      refine hq (.ref p) _ fs1 (p :: fps.flatten) ⟨P.sr.same E, P.ts.ext2 E.same, ⟨new_lst rp n, le_mdep_lst P.ga.dep, ?_⟩, fun _ => ow, fun a ha => own_kn (ow a ha)⟩
      refine ⟨List.nodup_cons.mpr ⟨fun hp => rp.alive hp n, P.nd⟩, fun a ha j hj => ?_⟩
      rcases List.mem_cons.mp ha with e | ha
      · subst e; exact fun z => P.sr.alive hj z n
      · exact P.off a ha j hj
    · cases hf
theorem dv_weak {m n : RM} {e : Expr} (A : DV X G e m G1 fa) (l : leR m n = true := by rfl) : DV X G e n G1 fa := by
  obtain ⟨t, p, r⟩ := A.run
  refine ⟨t, p, fun sl σ H fs d sl' Q S hf hq => r sl σ H fs d sl' Q S hf fun v H' fs' fp O => hq v H' fs' fp ⟨O.sr, O.ts, ⟨O.gin.rep, Nat.le_trans O.gin.dep (leR_k l), ?_⟩, fun ⟨k, e⟩ => ?_, O.kn⟩⟩
  · have im : m.k = 0 → fp = [] := fun z => O.gin.rep.imm (by have := O.gin.dep; omega)
    have ok := O.gin.ok
    cases m with
    | vw k rs =>
      cases n with
      | vw l' ss =>
        intro a ha j hj haj
        simp only [leR, Bool.and_eq_true, Bool.or_eq_true, decide_eq_true_eq, List.all_eq_true] at l
        rcases l.2 with z | z
        · rw [im z] at ha; cases ha
        · have := z j (ok a ha j hj haj)
          simpa using this
      | ow l' =>
        simp only [leR, decide_eq_true_eq] at l
        have e := im l
        subst e
        exact ⟨List.nodup_nil, (fun _ z => nomatch z)⟩
    | ow k =>
      cases n with
      | vw l' ss => exact fun a ha j hj haj => absurd haj (ok.2 a ha j (own_ne_no hj))
      | ow l' => exact ok
  · subst e
    cases m with
    | ow k' => exact O.own ⟨k', rfl⟩
    | vw k' rs =>
      simp only [leR, decide_eq_true_eq] at l
      rw [O.gin.rep.imm (by have := O.gin.dep; simp only [RM.k] at this; omega)]
      exact fun _ z => nomatch z
end

/-! ### statements -/
/-- what a def hands back: the result's mode, the locals that stay own at its end -/
structure RetS where
  m : RM
  G : List Mode
  fx : List Nat := []
/-- the slots that a def never stores to -/
def Fx (R : RetS) (σ σ' : L2.St) : Prop := ∀ j ∈ R.fx, σ'[j]? = σ[j]?
theorem Fx.refl {R : RetS} {σ : L2.St} : Fx R σ σ := fun _ _ => rfl
theorem Fx.trans {R : RetS} {σ σ1 σ2 : L2.St} (a : Fx R σ σ1) (b : Fx R σ1 σ2) : Fx R σ σ2 := fun j hj => (b j hj).trans (a j hj)
def RetOk (G : List Mode) (fs : Nat → List Addr) (H : Hp) (G' : List Mode) (fs' : Nat → List Addr) (fp : List Addr) : RM → Prop
  | .vw _ _ => (∀ a ∈ fp, ∀ j, (md G' j).own = true → a ∉ fs' j) ∧ ∀ a ∈ fp, Kn G fs H a
  | .ow _ => fp.Nodup ∧ (∀ a ∈ fp, ∀ j, (md G' j).own = true → a ∉ fs' j) ∧ ∀ a ∈ fp, (∃ k, (md G k).own = true ∧ a ∈ fs k) ∨ H a = none
structure PRt (K : PySem.W.Frag) (R : RetS) (G : List Mode) (σ : L2.St) (fs : Nat → List Addr) (H : Hp) (d : D) (sl' : Ev) (v : V) (σ' : L2.St) (H' : Hp) (fs' : Nat → List Addr) (fp : List Addr) : Prop where
  sr : SR K R.G sl' σ' H' fs'
  ts : T3 G fs H R.G fs' H'
  rep : Rep K H' d v fp
  dep : mdep d ≤ R.m.k
  ok : RetOk G fs H R.G fs' fp R.m
  fx : Fx R σ σ'
/-- what is told behind a statement -/
def Post (K : PySem.W.Frag) (R : RetS) (G Gn Gb Gc : List Mode) (σ : L2.St) (fs : Nat → List Addr) (H : Hp) (Dn : Ends) : Fl → Prop
  | .nx sl' => ∀ σ' H' fs', SR K Gn sl' σ' H' fs' → TS G fs H Gn fs' H' → Fx R σ σ' → Dn.nx σ' H'
  | .bk sl' => ∀ σ' H' fs', SR K Gb sl' σ' H' fs' → TS G fs H Gb fs' H' → Fx R σ σ' → Dn.bk σ' H'
  | .ct sl' => ∀ σ' H' fs', SR K Gc sl' σ' H' fs' → TS G fs H Gc fs' H' → Fx R σ σ' → Dn.ct σ' H'
  | .rt d sl' => ∀ v σ' H' fs' fp, PRt K R G σ fs H d sl' v σ' H' fs' fp → Dn.rt v H'
structure DS (X : Cx) (R : RetS) (G : List Mode) (s : Stmt) (Gn Gb Gc : List Mode) (F : Ev → Option Fl) : Prop where
  run : ∃ t, PS X s t ∧ ∀ sl σ H fs fl Dn, SR X.K G sl σ H fs → F sl = some fl → Post X.K R G Gn Gb Gc σ fs H Dn fl → t Dn σ H
structure DSs (X : Cx) (R : RetS) (G : List Mode) (s : List Stmt) (Gn Gb Gc : List Mode) (F : Ev → Option Fl) : Prop where
  run : ∃ t, PSs X s t ∧ ∀ sl σ H fs fl Dn, SR X.K G sl σ H fs → F sl = some fl → Post X.K R G Gn Gb Gc σ fs H Dn fl → t Dn σ H

section
variable {X : Cx} {R : RetS} {G G1 G2 Gn Gb Gc : List Mode} {s : Stmt} {rest : List Stmt} {F F2 : Ev → Option Fl} {e : Expr} {m : RM} {f : Ev → Option (D × Ev)} {pos : Pos}
theorem RetOk.back {K : PySem.W.Frag} {fs fs1 fs2 : Nat → List Addr} {H H1 : Hp} {fp : List Addr} (A : TS G fs H G1 fs1 H1) (ok : RetOk G1 fs1 H1 G2 fs2 fp m) : RetOk G fs H G2 fs2 fp m := by
  cases m with
  | vw k rs => exact ⟨ok.1, fun a ha => (ok.2 a ha).back A.toT3⟩
  | ow k =>
    refine ⟨ok.1, ok.2.1, fun a ha => ?_⟩
    rcases ok.2.2 a ha with ⟨k', hk, q⟩ | q
    · exact A.s3 k' hk a q
    · exact .inr (A.s2 a q)
/-- behind a first statement -/
theorem Post.after {K : PySem.W.Frag} {sl1 : Ev} {σ σ1 : L2.St} {fs fs1 : Nat → List Addr} {H H1 : Hp} {Dn : Ends} {fl : Fl} (A : TS G fs H G1 fs1 H1) (S1 : SR K G1 sl1 σ1 H1 fs1) (X1 : Fx R σ σ1) (P : Post K R G Gn Gb Gc σ fs H Dn fl) : Post K R G1 Gn Gb Gc σ1 fs1 H1 Dn fl := by
  cases fl with
  | nx sl' => exact fun σ' H' fs' S T F => P σ' H' fs' S (A.trans S1 T) (X1.trans F)
  | bk sl' => exact fun σ' H' fs' S T F => P σ' H' fs' S (A.trans S1 T) (X1.trans F)
  | ct sl' => exact fun σ' H' fs' S T F => P σ' H' fs' S (A.trans S1 T) (X1.trans F)
  | rt d sl' => exact fun v σ' H' fs' fp Q => P v σ' H' fs' fp ⟨Q.sr, T3.trans A S1 Q.ts, Q.rep, Q.dep, Q.ok.back (K := K) A, X1.trans Q.fx⟩
def sSkip : Ev → Option Fl := fun sl => some (.nx sl)
def sSeq (F F2 : Ev → Option Fl) : Ev → Option Fl := fun sl => (F sl).bind fun fl => match fl with
  | .nx s => F2 s
  | fl => some fl
theorem dss_nil : DSs X R G [] G Gb Gc sSkip := by
  refine ⟨_, pss_nil, fun sl σ H fs fl Dn S h P => ?_⟩
  cases h
  exact P σ H fs S TS.refl .refl
theorem dss_cons (A : DS X R G s G1 Gb Gc F) (B : DSs X R G1 rest Gn Gb Gc F2) : DSs X R G (s :: rest) Gn Gb Gc (sSeq F F2) := by
  obtain ⟨t, pt, rt⟩ := A.run
  obtain ⟨u, pu, ru⟩ := B.run
  refine ⟨_, pss_cons pt pu, fun sl σ H fs fl Dn S h P => ?_⟩
  unfold sSeq at h
  cases h1 : F sl with
  | none => rw [h1] at h; cases h
  | some fl1 =>
    rw [h1] at h
    simp only [Option.bind_some] at h
    refine rt sl σ H fs fl1 { Dn with nx := u Dn } S h1 ?_
    cases fl1 with
    | nx s => exact fun σ1 H1 fs1 S1 T1 X1 => ru s σ1 H1 fs1 fl Dn S1 h (P.after T1 S1 X1)
    | bk s => cases h; exact P
    | ct s => cases h; exact P
    | rt d s => cases h; exact P
theorem dss_one (A : DS X R G s G1 Gb Gc F) : DSs X R G [s] G1 Gb Gc F := by
  obtain ⟨t, pt, rt⟩ := A.run
  exact ⟨_, pss_one pt, rt⟩
/-- modes weakened behind -/
theorem Post.weak {K : PySem.W.Frag} {σ : L2.St} {fs : Nat → List Addr} {H : Hp} {Dn : Ends} {fl : Fl} (h : leS Gn G2 = true) (hl : Gn.length ≤ G2.length) (P : Post K R G G2 Gb Gc σ fs H Dn fl) : Post K R G Gn Gb Gc σ fs H Dn fl := by
  cases fl with
  | nx sl' => exact fun σ' H' fs' S T F => P σ' H' fs' (S.leS h) (T.weak h hl) F
  | bk sl' => exact P
  | ct sl' => exact P
  | rt d sl' => exact P
def leL (G G' : List Mode) : Bool := leS G G' && decide (G.length ≤ G'.length)
theorem leL_and {G G' : List Mode} (h : leL G G' = true) : leS G G' = true ∧ G.length ≤ G'.length := by
  unfold leL at h
  rw [Bool.and_eq_true, decide_eq_true_eq] at h
  exact h
theorem DSs.weak (A : DSs X R G rest Gn Gb Gc F) (h : leL Gn G2 = true := by rfl) : DSs X R G rest G2 Gb Gc F := by
  obtain ⟨t, pt, rt⟩ := A.run
  exact ⟨t, pt, fun sl σ H fs fl Dn S q P => rt sl σ H fs fl Dn S q (P.weak (leL_and h).1 (leL_and h).2)⟩
theorem DS.weak (A : DS X R G s Gn Gb Gc F) (h : leL Gn G2 = true := by rfl) : DS X R G s G2 Gb Gc F := by
  obtain ⟨t, pt, rt⟩ := A.run
  exact ⟨t, pt, fun sl σ H fs fl Dn S q P => rt sl σ H fs fl Dn S q (P.weak (leL_and h).1 (leL_and h).2)⟩
theorem Post.pre {K : PySem.W.Frag} {fs : Nat → List Addr} {H : Hp} {Dn : Ends} {fl : Fl} {sl : Ev} {σ : L2.St} (h : leL G G1 = true) (S : SR K G sl σ H fs) (P : Post K R G Gn Gb Gc σ fs H Dn fl) : Post K R G1 Gn Gb Gc σ fs H Dn fl :=
  P.after (TS.refl.weak (leL_and h).1 (leL_and h).2) (S.leS (leL_and h).1) .refl
theorem DSs.pre (A : DSs X R G1 rest Gn Gb Gc F) (h : leL G G1 = true := by rfl) : DSs X R G rest Gn Gb Gc F := by
  obtain ⟨t, pt, rt⟩ := A.run
  exact ⟨t, pt, fun sl σ H fs fl Dn S q P => rt sl σ H fs fl Dn (S.leS (leL_and h).1) q (P.pre h S)⟩

/-! ### small statements -/
def sBreak : Ev → Option Fl := fun sl => some (.bk sl)
def sCont : Ev → Option Fl := fun sl => some (.ct sl)
theorem ds_pass : DS X R G (.Pass pos) G Gb Gc sSkip := by
  refine ⟨_, ps_pass, fun sl σ H fs fl Dn S h P => ?_⟩
  cases h
  exact P σ H fs S TS.refl .refl
theorem ds_break (h : leL G Gb = true := by rfl) : DS X R G (.Break pos) Gn Gb Gc sBreak := by
  refine ⟨_, ps_break, fun sl σ H fs fl Dn S q P => ?_⟩
  cases q
  exact P σ H fs (S.leS (leL_and h).1) (TS.refl.weak (leL_and h).1 (leL_and h).2) .refl
theorem ds_cont (h : leL G Gc = true := by rfl) : DS X R G (.Continue pos) Gn Gb Gc sCont := by
  refine ⟨_, ps_continue, fun sl σ H fs fl Dn S q P => ?_⟩
  cases q
  exact P σ H fs (S.leS (leL_and h).1) (TS.refl.weak (leL_and h).1 (leL_and h).2) .refl
/-- a return's mode against the def's -/
def retFit (R : RetS) (m : RM) : Bool := decide (m.k = 0) || (match m, R.m with
  | .vw k rs, .vw l _ => decide (k ≤ l) && rs.all (fun r => !(md R.G r).own)
  | .ow k, .ow l => decide (k ≤ l)
  | .ow k, .vw l _ => decide (k ≤ l)
  | .vw _ _, .ow _ => false)
def sRet (f : Ev → Option (D × Ev)) : Ev → Option Fl := fun sl => (f sl).map fun p => .rt p.1 p.2
theorem ret_post {K : PySem.W.Frag} {σ : L2.St} {H H' : Hp} {fs fs' : Nat → List Addr} {d : D} {sl' : Ev} {v : V} {fp : List Addr} (hm : retFit R m = true) (hG : leG leX G1 R.G = true) (O : OutV K G σ H fs m d G1 sl' v H' fs' fp) : PRt K R G σ fs H d sl' v σ H' fs' fp := by
  have lx := leX_at hG
  have im : m.k = 0 → fp = [] := fun z => O.gin.rep.imm (by have := O.gin.dep; omega)
  have own : ∀ j, (md R.G j).own = true → (md G1 j).own = true := fun j o => (lx j).elim (fun z => (leM_own z o).1) fun z => by rw [z] at o; cases o
  have dep : mdep d ≤ R.m.k := by
    have := O.gin.dep
    unfold retFit at hm
    rw [Bool.or_eq_true, decide_eq_true_eq] at hm
    rcases hm with z | z
    · omega
    · split at z <;> simp_all [RM.k] <;> omega
  refine ⟨O.sr.le lx, O.ts.toT3.weakX lx, O.gin.rep, dep, ?_, .refl⟩
  by_cases m0 : m.k = 0
  · rw [im m0]
    cases R.m with
    | vw k rs => exact ⟨(fun _ z => nomatch z), (fun _ z => nomatch z)⟩
    | ow k => exact ⟨List.nodup_nil, (fun _ z => nomatch z), (fun _ z => nomatch z)⟩
  · unfold retFit at hm
    rw [Bool.or_eq_true, decide_eq_true_eq] at hm
    have hm := hm.resolve_left m0
    have ok := O.gin.ok
    cases m with
    | vw k rs =>
      cases e : R.m with
      | vw l ss =>
        rw [e] at hm
        simp only [Bool.and_eq_true, decide_eq_true_eq, List.all_eq_true] at hm
        refine ⟨fun a ha j hj haj => ?_, O.kn⟩
        have := hm.2 j (ok a ha j (own j hj) haj)
        rw [hj] at this; cases this
      | ow l => rw [e] at hm; cases hm
    | ow k =>
      have off : ∀ a ∈ fp, ∀ j, (md R.G j).own = true → a ∉ fs' j := fun a ha j hj => ok.2 a ha j (own_ne_no (own j hj))
      cases e : R.m with
      | vw l ss => exact ⟨off, O.kn⟩
      | ow l => exact ⟨ok.1, off, O.own ⟨k, rfl⟩⟩
theorem ds_ret (A : DV X G e m G1 f) (hm : retFit R m = true := by rfl) (hG : leG leX G1 R.G = true := by rfl) : DS X R G (.Return (some e) pos) Gn Gb Gc (sRet f) := by
  obtain ⟨t, pt, rt⟩ := A.run
  refine ⟨_, ps_ret pt, fun sl σ H fs fl Dn S h P => ?_⟩
  obtain ⟨p, h1, e⟩ := Option.map_eq_some_iff.mp h
  obtain ⟨d, s⟩ := p
  subst e
  exact rt sl σ H fs d s _ S h1 fun v H' fs' fp O => P v σ H' fs' fp (ret_post hm hG O)
/-- the value dropped -/
def sDrop (f : Ev → Option (D × Ev)) : Ev → Option Fl := fun sl => (f sl).map fun p => .nx p.2
theorem ds_expr (A : DV X G e m G1 f) (hs : swapsWith e none pos.line X.env = pure false := by rfl) : DS X R G (.Expr e pos) G1 Gb Gc (sDrop f) := by
  obtain ⟨t, pt, rt⟩ := A.run
  refine ⟨_, ps_expr pt hs, fun sl σ H fs fl Dn S h P => ?_⟩
  obtain ⟨p, h1, e⟩ := Option.map_eq_some_iff.mp h
  obtain ⟨d, s⟩ := p
  subst e
  exact rt sl σ H fs d s _ S h1 fun v H' fs' fp O => P σ H' fs' O.sr O.ts .refl
/-- target = value -/
def sAsg (f : Ev → Option (D × Ev)) (g : D → Ev → Option Ev) : Ev → Option Fl := fun sl => (f sl).bind fun p => (g p.1 p.2).map .nx
theorem asg_post {K : PySem.W.Frag} {σ σ2 : L2.St} {H H' : Hp} {fs fs' fs2 : Nat → List Addr} {d : D} {sl' sl2 : Ev} {v : V} {fp : List Addr} (O : OutV K G σ H fs m d G1 sl' v H' fs' fp) (S2 : SR K G2 sl2 σ2 H' fs2) (P : GPost G1 fs' fp m G2 fs2) : TS G fs H G2 fs2 H' where
  s1 := O.ts.s1
  s2 := O.ts.s2
  s3 := fun j hj a ha => by
    rcases P.p1 j with ⟨e1, e2⟩ | ⟨z, ow⟩
    · exact O.ts.s3 j (by rw [← e1]; exact hj) a (by rw [← e2]; exact ha)
    · exact O.own (ow hj) a (z a ha)
  s5 := fun j hj a ha => by
    rcases P.p1 j with ⟨e1, e2⟩ | ⟨z, _⟩
    · exact O.ts.s5 j (by rw [← e1]; exact hj) a (by rw [← e2]; exact ha)
    · exact O.kn a (z a ha)
  s4 := fun j k e => by
    obtain ⟨e1, e2⟩ := O.ts.s4 j k e
    obtain ⟨e3, e4⟩ := P.p2 j k e1
    exact ⟨e3, e4.trans e2⟩
theorem asg_run {g : D → Ev → Option Ev} {te : TE} {gg : TG} (rt : ∀ sl σ H fs d sl' (Q : VK), SR X.K G sl σ H fs → f sl = some (d, sl') → (∀ v H' fs' fp, OutV X.K G σ H fs m d G1 sl' v H' fs' fp → Q v H') → te σ H Q)
    (rg : ∀ sl σ H fs d sl' v fp (Q : L2.St → Hp → Prop), SR X.K G1 sl σ H fs → g d sl = some sl' → GIn X.K G1 fs H m d v fp → (∀ σ' fs', SR X.K G2 sl' σ' H fs' → GPost G1 fs fp m G2 fs' → Fx R σ σ' → Q σ' H) → gg v σ H Q)
    (sl : Ev) (σ : L2.St) (H : Hp) (fs : Nat → List Addr) (fl : Fl) (Dn : Ends) (S : SR X.K G sl σ H fs) (h : sAsg f g sl = some fl) (P : Post X.K R G G2 Gb Gc σ fs H Dn fl) : tAsg te gg Dn σ H := by
  unfold sAsg at h
  cases h1 : f sl with
  | none => rw [h1] at h; cases h
  | some p =>
    obtain ⟨d, s⟩ := p
    rw [h1] at h
    simp only [Option.bind_some] at h
    obtain ⟨s2, h2, e⟩ := Option.map_eq_some_iff.mp h
    subst e
    exact rt sl σ H fs d s _ S h1 fun v H' fs' fp O => rg s σ H' fs' d s2 v fp _ O.sr h2 O.gin fun σ2 fs2 S2 P2 F2 => P σ2 H' fs2 S2 (asg_post O S2 P2) F2
theorem ds_asg {tg : Expr} {g : D → Ev → Option Ev} (A : DV X G e m G1 f) {is : List Nat} (B : DG X G1 tg m G2 is g) (hs : swapsWithSole [tg] e pos.line X.env = pure false := by rfl) (hw : swappedStores [tg] e X.env = pure none := by rfl)
    (h1 : (assignEach [tg] X.env).map (·.2) = [assign tg X.env] := by rfl) (hfx : is.all (fun i => !R.fx.contains i) = true := by rfl) : DS X R G (.Assign [tg] e pos) G2 Gb Gc (sAsg f g) := by
  obtain ⟨t, pt, rt⟩ := A.run
  obtain ⟨gg, pg, rg⟩ := B.run
  exact ⟨_, ps_asg pt pg hs hw h1, fun sl σ H fs fl Dn S h P => asg_run rt (fun sl σ H fs d sl' v fp Q S h I hq => rg sl σ H fs d sl' v fp Q S h I fun σ' fs' S' P' F' => hq σ' fs' S' P' fun j hj => (F'.out j fun z => by have := List.all_eq_true.mp hfx j z; simp at this; exact this hj).2.2.2) sl σ H fs fl Dn S h P⟩
theorem fx_ne {i : Nat} {x : Option V} {σ : L2.St} (hfx : R.fx.contains i = false) : Fx R σ (σ.set i x) := fun j hj => List.getElem?_set_ne fun z => by
  subst z
  have q : R.fx.contains i = true := by simpa using hj
  rw [hfx] at q; cases q
theorem set_run {i : Nat} {te : TE} (rt : ∀ sl σ H fs d sl' (Q : VK), SR X.K G sl σ H fs → f sl = some (d, sl') → (∀ v H' fs' fp, OutV X.K G σ H fs m d G1 sl' v H' fs' fp → Q v H') → te σ H Q) (hi : (decide (i < G1.length) && notLk (md G1 i)) = true) (hfx : R.fx.contains i = false)
    {sl : Ev} {σ : L2.St} {H : Hp} {fs : Nat → List Addr} {fl : Fl} {Dn : Ends} (S : SR X.K G sl σ H fs) (h : sAsg f (gSet i) sl = some fl) (P : Post X.K R G (G1.set i (toM m)) Gb Gc σ fs H Dn fl) : tAsg te (gName i) Dn σ H := by
  refine asg_run (gg := gName i) (g := gSet i) rt (fun sl σ H fs d sl' v fp Q S hs I hq => ?_) sl σ H fs fl Dn S h P
  rw [Bool.and_eq_true, decide_eq_true_eq] at hi
  obtain ⟨hi, hk⟩ := hi
  unfold gSet at hs
  split at hs
  · rename_i hlt
    cases hs
    refine hq _ (fset fs i fp) (S.set I hi hlt) ⟨fun j => ?_, fun j k e => ?_⟩ (fx_ne hfx)
    · rw [md_set hi]
      unfold fset
      by_cases e : j = i
      · subst e
        rw [if_pos rfl, if_pos rfl]
        refine .inr ⟨fun a ha => ha, fun ho => ?_⟩
        cases m with
        | vw k rs => cases ho
        | ow k => exact ⟨k, rfl⟩
      · rw [if_neg e, if_neg e]; exact .inl ⟨rfl, rfl⟩
    · have ne : j ≠ i := fun z => by subst z; rw [e] at hk; cases hk
      rw [md_set hi]
      unfold fset
      rw [if_neg ne, if_neg ne]
      exact ⟨e, rfl⟩
  · cases hs

/-- name = value -/
theorem ds_set {i : Nat} {x : Str} {pos' : Pos} (A : DV X G e m G1 f) (hi : (decide (i < G1.length) && notLk (md G1 i)) = true) (hN : X.N.Nodup) (hx : X.N[i]? = some x) (hl : Loc X.env.scope x)
    (hs : swapsWith e (some (.Name x pos')) pos.line X.env = pure false := by rfl) (hf : X.fn x = true ∨ X.env.scope.names.lookup x = some .local := by first | exact .inl rfl | exact .inr rfl | assumption) (hfx : R.fx.contains i = false := by rfl) :
    DS X R G (.Assign [.Name x pos'] e pos) (G1.set i (toM m)) Gb Gc (sAsg f (gSet i)) := by
  obtain ⟨t, pt, rt⟩ := A.run
  exact ⟨_, ps_set hN hx hl pt hs hf, fun sl σ H fs fl Dn S h P => set_run rt hi hfx S h P⟩

/-! ### if, while -/
variable {c : Expr} {M : List Nat} {fc : Ev → Option (Bool × Ev)} {th el : List Stmt} {Fa Fb : Ev → Option Fl}
def sIf (fc : Ev → Option (Bool × Ev)) (Fa Fb : Ev → Option Fl) : Ev → Option Fl := fun sl => (fc sl).bind fun p => if p.1 then Fa p.2 else Fb p.2
theorem ds_if (C : DT X G c M fc) (A : DSs X R (kill M G) th Gn Gb Gc Fa) (B : DSs X R (kill M G) el Gn Gb Gc Fb) : DS X R G (.If c th el pos) Gn Gb Gc (sIf fc Fa Fb) := by
  obtain ⟨tc, pc, rc⟩ := C.run
  obtain ⟨ta, pa, ra⟩ := A.run
  obtain ⟨tb, pb, rb⟩ := B.run
  refine ⟨_, ps_if pc pa pb, fun sl σ H fs fl Dn S h P => ?_⟩
  unfold sIf at h
  cases h1 : fc sl with
  | none => rw [h1] at h; cases h
  | some p =>
    obtain ⟨k, s⟩ := p
    rw [h1] at h
    simp only [Option.bind_some] at h
    refine rc sl σ H fs k s _ S h1 fun H1 fs1 S1 T1 => ?_
    cases k with
    | true =>
      simp only [if_true] at h ⊢
      exact ra s σ H1 fs1 fl Dn S1 h (P.after (T1.ts C.hM) S1 .refl)
    | false =>
      simp only [Bool.false_eq_true, if_false] at h ⊢
      exact rb s σ H1 fs1 fl Dn S1 h (P.after (T1.ts C.hM) S1 .refl)
def whF (fc : Ev → Option (Bool × Ev)) (F : Ev → Option Fl) : Nat → Ev → Option Fl
  | 0, _ => none
  | n + 1, sl => (fc sl).bind fun p => if p.1 then (F p.2).bind fun fl => match fl with
      | .nx s => whF fc F n s
      | .ct s => whF fc F n s
      | .bk s => some (.nx s)
      | .rt d s => some (.rt d s)
    else some (.nx p.2)
/-- G: the modes at the loop's head -/
theorem ds_while {body : List Stmt} {n : Nat} (hp : PassesOwn (model X.prog X.w) X.A X.env X.xe) (C : DT X G c M fc) (A : DSs X R (kill M G) body G Gn G F) (hn : leL (kill M G) Gn = true := by rfl) :
    DS X R G (.While c body [] pos) Gn Gb Gc (whF fc F n) := by
  obtain ⟨tc, pc, rc⟩ := C.run
  obtain ⟨ta, pa, ra⟩ := A.run
  refine ⟨_, ps_while hp pc pa, fun sl σ H fs fl Dn S h P => ?_⟩
  refine ⟨fun m σ1 H1 => ∃ sl1 fs1, SR X.K G sl1 σ1 H1 fs1 ∧ TS G fs H G fs1 H1 ∧ Fx R σ σ1 ∧ whF fc F m sl1 = some fl, ⟨n, sl, fs, S, TS.refl, .refl, h⟩, ?_⟩
  rintro m σ1 H1 ⟨sl1, fs1, S1, T1, X1, h1⟩
  cases m with
  | zero => cases h1
  | succ m =>
    unfold whF at h1
    cases h2 : fc sl1 with
    | none => rw [h2] at h1; cases h1
    | some p =>
      obtain ⟨k, s⟩ := p
      rw [h2] at h1
      simp only [Option.bind_some] at h1
      refine rc sl1 σ1 H1 fs1 k s _ S1 h2 fun H2 fs2 S2 T2 => ?_
      have T12 := T1.trans S1 (T2.ts C.hM)
      cases k with
      | false =>
        simp only [Bool.false_eq_true, if_false] at h1 ⊢
        cases h1
        exact P σ1 H2 fs2 (S2.leS (leL_and hn).1) (T12.weak (leL_and hn).1 (leL_and hn).2) X1
      | true =>
        simp only [if_true] at h1 ⊢
        cases h3 : F s with
        | none => rw [h3] at h1; cases h1
        | some fl2 =>
          rw [h3] at h1
          simp only [Option.bind_some] at h1
          refine ⟨fun σ' H' => ∃ sl3 fs3, SR X.K G sl3 σ' H' fs3 ∧ TS G fs H G fs3 H' ∧ Fx R σ σ' ∧ whF fc F m sl3 = some fl, fun σ' H' q => ⟨m, Nat.lt_succ_self m, q⟩, ?_⟩
          refine ra s σ1 H2 fs2 fl2 _ S2 h3 ?_
          cases fl2 with
          | nx s3 => exact fun σ3 H3 fs3 S3 T3 X3 => ⟨s3, fs3, S3, T12.trans S2 T3, X1.trans X3, h1⟩
          | ct s3 => exact fun σ3 H3 fs3 S3 T3 X3 => ⟨s3, fs3, S3, T12.trans S2 T3, X1.trans X3, h1⟩
          | bk s3 => cases h1; exact fun σ3 H3 fs3 S3 T3 X3 => P σ3 H3 fs3 S3 (T12.trans S2 T3) (X1.trans X3)
          | rt d s3 => cases h1; exact P.after T12 S2 X1
end
end Dw
/-! Dw, part J: what is walked; for; list comprehensions. -/
namespace Dw
open PySem PySem.Spec PyProof.Rows L2

/-! ### what is walked -/
/-- J gives the items, as long as the cells ufp stand as in H0 -/
def Yl (K : PySem.W.Frag) (J : It) (items : List D) (ufp : List Addr) (H0 : Hp) : Prop :=
  ∀ H, Keep (fun a => a ∈ ufp) H0 H → Sz H →
    (∀ (i : Nat) d, items[i]? = some d → J.go i H ∧ ∀ x H', J.yld i H x H' → Ext H H' ∧ ∃ fp, Rep K H' d x fp ∧ ∀ a ∈ fp, a ∈ ufp) ∧ J.stop items.length H
structure OutI (K : PySem.W.Frag) (G : List Mode) (M : List Nat) (sl : Ev) (σ : L2.St) (H : Hp) (fs : Nat → List Addr) (mk : Nat) (rs : List Nat) (items : List D) (sl' : Ev) (J : It) (H' : Hp) (fs' : Nat → List Addr) (ufp : List Addr) : Prop where
  sr : SR K (kill M G) sl' σ H' fs'
  tr : Tr M sl fs H sl' fs' H'
  yl : Yl K J items ufp H'
  dep : ∀ d ∈ items, mdep d ≤ mk
  rt : ∀ a ∈ ufp, ∀ j, (md G j).own = true → a ∈ fs' j → j ∈ rs
  kn : ∀ a ∈ ufp, Kn G fs H a
  al : ∀ a ∈ ufp, H' a ≠ none
structure DI (X : Cx) (G : List Mode) (tg iter : Expr) (mk : Nat) (rs : List Nat) (M : List Nat) (f : Ev → Option (List D × Ev)) : Prop where
  hM : ∀ j ∈ M, ∃ k, md G j = .ow k
  run : ∃ wi, PI X tg iter wi ∧ ∀ sl σ H fs items sl' (R : It → Hp → Prop), SR X.K G sl σ H fs → f sl = some (items, sl') → (∀ J H' fs' ufp, OutI X.K G M sl σ H fs mk rs items sl' J H' fs' ufp → R J H') → wi σ H R
theorem DI.congr {X : Cx} {G : List Mode} {tg iter : Expr} {mk : Nat} {rs M : List Nat} {f f' : Ev → Option (List D × Ev)} (h : DI X G tg iter mk rs M f) (l : f' = f) : DI X G tg iter mk rs M f' := by rw [l]; exact h

/-- a list or a tuple -/
def iSeq (K : PySem.W.Frag) (tl : TE) : TI := fun σ H R => tl σ H fun x H1 => ∃ a, x = .ref a ∧ (((∃ xs, SqL K H1 a xs) ∧ R (Itl K a) H1) ∨ ((∃ xs, SqT K H1 a xs) ∧ R (Itt K a) H1))
theorem pi_seq {X : Cx} {tg l : Expr} {tl : TE} (hl : PE X l tl) : PI X tg l (iSeq X.K tl) := by
  refine ⟨fun pins s σ H R I h => ?_⟩
  refine thn (hl.run pins s σ H _ I h) fun v s1 ⟨x, H1, I1, r1, q1⟩ => ?_
  obtain ⟨a, e, q1⟩ := q1
  subst e
  cases r1
  rcases q1 with ⟨⟨xs, hq⟩, q⟩ | ⟨⟨xs, hq⟩, q⟩
  · obtain ⟨its, rv, p, hz⟩ := I1.list hq
    refine wpAny_pyIter_list p.isList ?_
    refine ⟨s1.heap.objs.size, [s1.heap.objs.size], _, _, H1, rfl, I1.kept (t' := s1.toks) fun b o e => Heap.get?_push_of_some _ e, turn_list a _, ⟨_, Heap.get?_push_size _ rfl, rfl, rfl⟩, fun b hb => ?_, q⟩
    have e : b = s1.heap.objs.size := by simpa using hb
    subst e
    exact I1.fpOk (Nat.le_refl _) (I1.hok.fresh (Nat.le_refl _))
  · obtain ⟨its, rv, p, hz⟩ := I1.tuple hq
    refine wpAny_pyIter_tuple (show s1.heap.IsTuple a its.toArray from p) ?_
    refine ⟨s1.heap.objs.size, [s1.heap.objs.size], _, _, H1, rfl, I1.kept (t' := s1.toks) fun b o e => Heap.get?_push_of_some _ e, turn_tuple a _, ⟨_, Heap.get?_push_size _ rfl, rfl, rfl⟩, fun b hb => ?_, q⟩
    have e : b = s1.heap.objs.size := by simpa using hb
    subst e
    exact I1.fpOk (Nat.le_refl _) (I1.hok.fresh (Nat.le_refl _))
def seqD : D → Option (List D)
  | .lst ds => some ds
  | .tup ds => some ds
  | .frz xs => some (xs.map .int)
  | _ => none
def iSq (f : Ev → Option (D × Ev)) : Ev → Option (List D × Ev) := fun sl => (f sl).bind fun p => (seqD p.1).map fun ds => (ds, p.2)
def eSq (g : Ev → Option D) : Ev → Option (List D) := fun sl => (g sl).bind seqD
theorem iSq_lift {g : Ev → Option D} : liftL (eSq g) = iSq (lift g) := by
  funext sl
  unfold liftL eSq iSq lift
  cases h : g sl with
  | none => simp [h]
  | some a => simp [h]
section
variable {K : PySem.W.Frag}
theorem yl_list {H0 : Hp} {ds : List D} {vs : List V} {a : Addr} {fp : List Addr} (h : H0 a = some (.lst vs)) (r : Reps K H0 ds vs fp) : Yl K (Itl K a) ds (a :: fp) H0 := fun H k sz => by
  have ha : H a = some (.lst vs) := k a _ h fun _ => List.mem_cons_self
  have rr : Reps K H ds vs fp := r.keep k fun b hb => List.mem_cons_of_mem _ hb
  refine ⟨fun i d hd => ?_, ⟨vs, SqL.of ha, by rw [r.length]; exact Nat.le_refl _⟩⟩
  obtain ⟨v, f, h1, h2, h3⟩ := rr.get hd
  refine ⟨⟨vs, v, SqL.of ha, h1⟩, fun x H' y => ?_⟩
  obtain ⟨rfl, y⟩ := y
  have e := y vs (SqL.of ha)
  rw [h1] at e; cases e
  exact ⟨Ext.refl _, f, h2, fun b hb => List.mem_cons_of_mem _ (h3 b hb)⟩
theorem yl_frz {H0 : Hp} {xs : List Int} {a : Addr} (h : FrL K H0 a xs) : Yl K (Itl K a) (xs.map .int) [] H0 := fun H k sz => by
  have ha : FrL K H a xs := h.keep k
  refine ⟨fun i d hd => ?_, ⟨_, ha.sq, by rw [List.length_map, List.length_map]; exact Nat.le_refl _⟩⟩
  rw [List.getElem?_map] at hd
  obtain ⟨j, hj, e⟩ := Option.map_eq_some_iff.mp hd
  subst e
  have hj2 : (xs.map V.int)[i]? = some (.int j) := by rw [List.getElem?_map, hj]; rfl
  refine ⟨⟨_, _, ha.sq, hj2⟩, fun x H' y => ?_⟩
  obtain ⟨rfl, y⟩ := y
  have e := y _ ha.sq
  rw [hj2] at e; cases e
  exact ⟨Ext.refl _, [], .int j, fun b hb => nomatch hb⟩
theorem yl_tup {H0 : Hp} {ds : List D} {vs : List V} {a : Addr} {fp : List Addr} (h : H0 a = some (.tup vs)) (r : Reps K H0 ds vs fp) : Yl K (Itt K a) ds fp H0 := fun H k sz => by
  have ha : H a = some (.tup vs) := k a _ h fun z => nomatch z
  have rr : Reps K H ds vs fp := r.keep k fun b hb => hb
  refine ⟨fun i d hd => ?_, ⟨vs, SqT.of ha, by rw [r.length]; exact Nat.le_refl _⟩⟩
  obtain ⟨v, f, h1, h2, h3⟩ := rr.get hd
  refine ⟨⟨vs, v, SqT.of ha, h1⟩, fun x H' y => ?_⟩
  obtain ⟨rfl, y⟩ := y
  have e := y vs (SqT.of ha)
  rw [h1] at e; cases e
  exact ⟨Ext.refl _, f, h2, h3⟩
end
theorem di_seq {X : Cx} {G : List Mode} {tg l : Expr} {m : RM} {M : List Nat} {f : Ev → Option (D × Ev)} (A : DE X G l m M f) : DI X G tg l (m.k - 1) m.rs M (iSq f) := by
  obtain ⟨t, p, r⟩ := A.run
  refine ⟨A.hM, _, pi_seq p, fun sl σ H fs items sl' R S hf hq => ?_⟩
  unfold iSq at hf
  cases h1 : f sl with
  | none => rw [h1] at hf; cases hf
  | some q =>
    obtain ⟨d, s⟩ := q
    rw [h1] at hf
    simp only [Option.bind_some] at hf
    obtain ⟨ds, h2, e⟩ := Option.map_eq_some_iff.mp hf
    cases e
    refine r sl σ H fs d sl' _ S h1 fun v H' fs' fp O => ?_
    have rp := O.rep
    have dp := O.dep
    have fin : ∀ J ufp, Yl X.K J items ufp H' → (∀ a ∈ ufp, a ∈ fp) → (∀ d ∈ items, mdep d ≤ m.k - 1) → R J H' := fun J ufp y sub dep =>
      hq J H' fs' ufp ⟨O.sr, O.tr, y, dep, fun a ha => O.ok.rt a (sub a ha), fun a ha => O.ok.kn A.hM a (sub a ha), fun a ha => O.rep.alive (sub a ha)⟩
    unfold seqD at h2
    split at h2
    · cases h2
      cases rp with
      | lst h3 r3 => exact ⟨_, rfl, .inl ⟨⟨_, SqL.of h3⟩, fin _ _ (yl_list h3 r3) (fun _ h => h) (mdep_lst_le dp)⟩⟩
    · cases h2
      cases rp with
      | tup h3 r3 => exact ⟨_, rfl, .inr ⟨⟨_, SqT.of h3⟩, fin _ _ (yl_tup h3 r3) (fun _ h => h) (mdep_tup_le dp)⟩⟩
    · cases h2
      cases rp with
      | frz h3 => exact ⟨_, rfl, .inl ⟨⟨_, h3.sq⟩, fin _ _ (yl_frz h3) (fun _ h => h) (fun d hd => by obtain ⟨j, _, e⟩ := List.mem_map.mp hd; subst e; exact Nat.zero_le _)⟩⟩
    · cases h2

/-! ### ranges -/
def rngD (lo : Int) (n : Nat) : List D := (List.range n).map fun i => .int (lo + (i : Nat))
def okR (j : Int) : Bool := decide (-1000000000 ≤ j) && decide (j ≤ 16777216)
def opR1 : List D → Option (List D)
  | [.int j] => if okR j then some (rngD 0 j.toNat) else none
  | _ => none
def opR2 : List D → Option (List D)
  | [.int i, .int j] => if okR i && okR j && decide ((j - i).toNat ≤ 16777216) then some (rngD i (j - i).toNat) else none
  | _ => none
/-- a range with a step -/
def rngC (lo c : Int) (n : Nat) : List D := (List.range n).map fun i => .int (lo + (i : Nat) * c)
def rngN (i j c : Int) : Nat := if 0 < c then ((j - i + c - 1) / c).toNat else ((i - j - c - 1) / (-c)).toNat
def opR3 : List D → Option (List D)
  | [.int i, .int j, .int c] => if okR i && okR j && decide (c ≠ 0) && decide (c.natAbs ≤ 1000000) && decide (rngN i j c ≤ 16777216) then some (rngC i c (rngN i j c)) else none
  | _ => none
def iRg (op : List D → Option (List D)) (fr : Ev → Option (List D × Ev)) : Ev → Option (List D × Ev) := fun sl => (fr sl).bind fun p => (op p.1).map fun ds => (ds, p.2)
def eRg (op : List D → Option (List D)) (gr : Ev → Option (List D)) : Ev → Option (List D) := fun sl => (gr sl).bind op
theorem iRg_lift {op : List D → Option (List D)} {gr : Ev → Option (List D)} : liftL (eRg op gr) = iRg op (liftL gr) := by
  funext sl
  unfold liftL eRg iRg
  cases h : gr sl with
  | none => simp [h]
  | some a => simp [h]
theorem rngD_len {lo : Int} {n : Nat} : (rngD lo n).length = n := by unfold rngD; simp
theorem rngC_len {lo c : Int} {n : Nat} : (rngC lo c n).length = n := by unfold rngC; simp
theorem rngC_get {lo c : Int} {n i : Nat} {d : D} (h : (rngC lo c n)[i]? = some d) : i < n ∧ d = .int (lo + (i : Nat) * c) := by
  have hi : i < n := by have := (List.getElem?_eq_some_iff.mp h).1; rw [rngC_len] at this; exact this
  unfold rngC at h
  rw [List.getElem?_map, List.getElem?_range hi] at h
  cases h
  exact ⟨hi, rfl⟩
theorem rngD_eq {lo : Int} {n : Nat} : rngD lo n = rngC lo 1 n := by unfold rngD rngC; simp
theorem yl_rng {K : PySem.W.Frag} {H0 : Hp} {lo : Int} {n : Nat} : Yl K (Itr lo n) (rngD lo n) [] H0 := fun H k sz => by
  refine ⟨fun i d hd => ?_, by rw [rngD_len]; exact Nat.le_refl _⟩
  rw [rngD_eq] at hd
  obtain ⟨hi, rfl⟩ := rngC_get hd
  refine ⟨hi, fun x H' y => ?_⟩
  obtain ⟨rfl, rfl⟩ := y
  rw [Int.mul_one]
  exact ⟨Ext.refl _, [], .int _, fun _ z => nomatch z⟩
theorem yl_rngC {K : PySem.W.Frag} {H0 : Hp} {lo c : Int} {n : Nat} : Yl K (Itc lo c n) (rngC lo c n) [] H0 := fun H k sz => by
  refine ⟨fun i d hd => ?_, by rw [rngC_len]; exact Nat.le_refl _⟩
  obtain ⟨hi, rfl⟩ := rngC_get hd
  refine ⟨hi, fun x H' y => ?_⟩
  obtain ⟨rfl, rfl⟩ := y
  exact ⟨Ext.refl _, [], .int _, fun _ z => nomatch z⟩
theorem mdep_rngC {lo c : Int} {n : Nat} : ∀ d ∈ rngC lo c n, mdep d ≤ 0 := fun d hd => by
  unfold rngC at hd
  obtain ⟨i, _, rfl⟩ := List.mem_map.mp hd
  exact Nat.le_refl _
theorem Reps.ints1 {K : PySem.W.Frag} {H : Hp} {i : Int} {vs : List V} {fp : List Addr} (r : Reps K H [.int i] vs fp) : vs = [.int i] := by
  cases r with
  | cons r t => cases r; cases t; rfl
theorem Reps.ints2 {K : PySem.W.Frag} {H : Hp} {i j : Int} {vs : List V} {fp : List Addr} (r : Reps K H [.int i, .int j] vs fp) : vs = [.int i, .int j] := by
  cases r with
  | cons r t => cases r; rw [t.ints1]
theorem Reps.ints3 {K : PySem.W.Frag} {H : Hp} {i j k : Int} {vs : List V} {fp : List Addr} (r : Reps K H [.int i, .int j, .int k] vs fp) : vs = [.int i, .int j, .int k] := by
  cases r with
  | cons r t => cases r; rw [t.ints2]
section
variable {X : Cx} {G : List Mode} {tg a b c : Expr} {ms : List RM} {M : List Nat} {fr : Ev → Option (List D × Ev)} {p pos : Pos}
theorem iRg_some {op : List D → Option (List D)} {sl sl' : Ev} {items : List D} (hf : iRg op fr sl = some (items, sl')) : ∃ ds, fr sl = some (ds, sl') ∧ op ds = some items := by
  unfold iRg at hf
  cases h1 : fr sl with
  | none => rw [h1] at hf; cases hf
  | some q =>
    obtain ⟨ds, s⟩ := q
    rw [h1] at hf
    simp only [Option.bind_some] at hf
    obtain ⟨z, h2, e⟩ := Option.map_eq_some_iff.mp hf
    cases e
    exact ⟨ds, rfl, h2⟩
theorem rng_fin {sl : Ev} {σ : L2.St} {H : Hp} {fs : Nat → List Addr} {items : List D} {sl' : Ev} {R : It → Hp → Prop} {J : It} {ds : List D} {vs : List V} {H' : Hp} {fs' : Nat → List Addr} {fps : List (List Addr)}
    (P : OutA X.K G M sl σ H fs ms ds sl' vs H' fs' fps) (hq : ∀ J H' fs' ufp, OutI X.K G M sl σ H fs 0 [] items sl' J H' fs' ufp → R J H') (y : Yl X.K J items [] H') (dep : ∀ d ∈ items, mdep d ≤ 0) : R J H' :=
  hq J H' fs' [] ⟨P.sr, P.tr, y, dep, (fun _ z => nomatch z), (fun _ z => nomatch z), (fun _ z => nomatch z)⟩
theorem okR_and {j : Int} (h : okR j = true) : -1000000000 ≤ j ∧ j ≤ 16777216 := by
  unfold okR at h
  rw [Bool.and_eq_true, decide_eq_true_eq, decide_eq_true_eq] at h
  exact h
theorem di_range1 (hg : Gl X "range") (hm : X.mg "range" = none) (R : DA X G [a] ms M fr) (hs : starEach [a] X.env = [(false, eval a X.env)] := by rfl) : DI X G tg (.Call (.Name "range" p) [a] [] pos) 0 [] M (iRg opR1 fr) := by
  obtain ⟨t, pa, ra⟩ := R.run
  refine ⟨R.hM, _, pi_range1 hg hm pa hs, fun sl σ H fs items sl' Q S hf hq => ?_⟩
  obtain ⟨ds, h1, h2⟩ := iRg_some hf
  refine ra sl σ H fs ds sl' _ S h1 fun vs H' fs' fps P => ?_
  unfold opR1 at h2
  split at h2
  · rename_i j
    split at h2
    · rename_i hj
      cases h2
      obtain ⟨j1, j2⟩ := okR_and hj
      exact ⟨j, P.av.reps.ints1, by omega, by omega, rng_fin P hq yl_rng (by rw [rngD_eq]; exact mdep_rngC)⟩
    · cases h2
  · cases h2
theorem di_range2 (hg : Gl X "range") (hm : X.mg "range" = none) (R : DA X G [a, b] ms M fr) (hs : starEach [a, b] X.env = [(false, eval a X.env), (false, eval b X.env)] := by rfl) (hs2 : starEach [b] X.env = [(false, eval b X.env)] := by rfl) :
    DI X G tg (.Call (.Name "range" p) [a, b] [] pos) 0 [] M (iRg opR2 fr) := by
  obtain ⟨t, pa, ra⟩ := R.run
  refine ⟨R.hM, _, pi_range2 hg hm pa hs hs2, fun sl σ H fs items sl' Q S hf hq => ?_⟩
  obtain ⟨ds, h1, h2⟩ := iRg_some hf
  refine ra sl σ H fs ds sl' _ S h1 fun vs H' fs' fps P => ?_
  unfold opR2 at h2
  split at h2
  · rename_i i j
    split at h2
    · rename_i hj
      cases h2
      rw [Bool.and_eq_true, Bool.and_eq_true, decide_eq_true_eq] at hj
      obtain ⟨j1, j2⟩ := okR_and hj.1.1
      obtain ⟨j3, j4⟩ := okR_and hj.1.2
      exact ⟨i, j, P.av.reps.ints2, ⟨by omega, by omega, by omega, by omega⟩, rng_fin P hq yl_rng (by rw [rngD_eq]; exact mdep_rngC)⟩
    · cases h2
  · cases h2
end

/-! ### locks -/
def lockM (rs : List Nat) (i : Nat) : Mode → Mode
  | .ow k => if rs.contains i then .lk k else .ow k
  | m => m
def lockG (rs : List Nat) (G : List Mode) : List Mode := G.mapIdx fun i m => lockM rs i m
theorem md_lock {rs : List Nat} {G : List Mode} {i : Nat} : md (lockG rs G) i = lockM rs i (md G i) := by
  unfold md lockG
  rw [List.getD_eq_getElem?_getD, List.getD_eq_getElem?_getD, List.getElem?_mapIdx]
  cases G[i]? <;> rfl
theorem lockM_own {rs : List Nat} {i : Nat} {m : Mode} : (lockM rs i m).own = m.own := by
  cases m with
  | ow k =>
    show Mode.own (if rs.contains i then .lk k else .ow k) = _
    split <;> rfl
  | _ => rfl
theorem lockM_k {rs : List Nat} {i : Nat} {m : Mode} : (lockM rs i m).k = m.k := by
  cases m <;> simp [lockM]
  split <;> rfl
theorem lockM_no {rs : List Nat} {i : Nat} {m : Mode} : lockM rs i m = .no ↔ m = .no := by
  cases m <;> simp [lockM]
  split <;> simp
theorem lockM_vw {rs : List Nat} {i : Nat} {m : Mode} {k : Nat} {ss : List Nat} : lockM rs i m = .vw k ss ↔ m = .vw k ss := by
  cases m <;> simp [lockM]
  split <;> simp
theorem lockM_ow {rs : List Nat} {i : Nat} {m : Mode} {k : Nat} (h : lockM rs i m = .ow k) : m = .ow k ∧ i ∉ rs := by
  cases m <;> simp [lockM] at h
  split at h
  · cases h
  · rename_i q
    cases h
    exact ⟨rfl, by simpa using q⟩
theorem lockM_lk {rs : List Nat} {i : Nat} {m : Mode} {k : Nat} (h : m = .lk k) : lockM rs i m = .lk k := by rw [h]; rfl
/-- the locks that were laid here are taken off -/
def unlockM (rs : List Nat) (i : Nat) (m0 m : Mode) : Mode := match m with
  | .lk k => if isOw m0 then .ow k else .lk k
  | m => m
def unlockG (rs : List Nat) (G0 G : List Mode) : List Mode := G.mapIdx fun i m => unlockM rs i (md G0 i) m
theorem md_unlock {rs : List Nat} {G0 G : List Mode} {i : Nat} : md (unlockG rs G0 G) i = unlockM rs i (md G0 i) (md G i) := by
  show (unlockG rs G0 G).getD i .no = unlockM rs i (md G0 i) (G.getD i .no)
  unfold unlockG
  rw [List.getD_eq_getElem?_getD, List.getD_eq_getElem?_getD, List.getElem?_mapIdx]
  cases G[i]? <;> rfl
theorem SR.modes {K : PySem.W.Frag} {G G' : List Mode} {sl : Ev} {σ : L2.St} {H : Hp} {fs : Nat → List Addr} (S : SR K G sl σ H fs) (ho : ∀ i, (md G' i).own = (md G i).own) (hk : ∀ i, (md G' i).k = (md G i).k) (hn : ∀ i, md G' i = .no → md G i = .no) (hn2 : ∀ i, md G i = .no → md G' i = .no)
    (hv : ∀ i k rs, md G' i = .vw k rs → md G i = .vw k rs) : SR K G' sl σ H fs :=
  ⟨S.len, S.sz, fun i h => by rw [hk]; exact S.val i fun z => h (hn2 i z), fun i h => S.nd i (by rw [← ho]; exact h), fun i j h h' => S.dj i j (by rw [← ho]; exact h) (by rw [← ho]; exact h'),
    fun i k rs e a ha j h => S.vw i k rs (hv i k rs e) a ha j (by rw [← ho]; exact h)⟩
section
variable {K : PySem.W.Frag} {G G0 Gl : List Mode} {rs : List Nat} {sl : Ev} {σ : L2.St} {H H1 : Hp} {fs fs1 : Nat → List Addr}
theorem own_lock {i : Nat} : (md (lockG rs G) i).own = (md G i).own := by rw [md_lock, lockM_own]
theorem SR.lock (S : SR K G sl σ H fs) : SR K (lockG rs G) sl σ H fs :=
  S.modes (fun i => own_lock) (fun i => by rw [md_lock, lockM_k]) (fun i h => by rw [md_lock, lockM_no] at h; exact h) (fun i h => by rw [md_lock, lockM_no]; exact h) fun i k ss h => by rw [md_lock, lockM_vw] at h; exact h
theorem unlockM_own {i : Nat} {m0 m : Mode} : (unlockM rs i m0 m).own = m.own := by
  cases m with
  | lk k =>
    show Mode.own (if isOw m0 then .ow k else .lk k) = _
    split <;> rfl
  | _ => rfl
theorem SR.unlock (S : SR K Gl sl σ H fs) : SR K (unlockG rs G0 Gl) sl σ H fs :=
  S.modes (fun i => by rw [md_unlock, unlockM_own]) (fun i => by
      rw [md_unlock]
      cases md Gl i <;> simp [unlockM]
      split <;> rfl) (fun i h => by
      rw [md_unlock] at h
      cases e : md Gl i <;> rw [e] at h <;> simp [unlockM] at h ⊢
      split at h <;> cases h) (fun i h => by rw [md_unlock, h]; rfl) fun i k ss h => by
      rw [md_unlock] at h
      cases e : md Gl i <;> rw [e] at h <;> simp [unlockM] at h ⊢
      · exact h
      · split at h <;> cases h
/-- a transition from locked modes is one from the modes themselves -/
theorem T3.unlock {G' : List Mode} (T : T3 (lockG rs G) fs H G' fs1 H1) : T3 G fs H G' fs1 H1 where
  s1 := fun a o h hn => T.s1 a o h fun j k e => hn j k (lockM_ow (by rw [← md_lock]; exact e)).1
  s2 := T.s2
  s3 := fun j hj a ha => (T.s3 j hj a ha).imp (fun ⟨k, hk, q⟩ => ⟨k, by rw [← own_lock (rs := rs)]; exact hk, q⟩) id
  s5 := fun j hj a ha => (T.s5 j hj a ha).imp (fun ⟨k, hk, q⟩ => ⟨k, fun z => hk (by rw [md_lock, lockM_no]; exact z), q⟩) id
theorem TS.unlock (T : TS (lockG rs G) fs H Gl fs1 H1) : TS G fs H (unlockG rs G Gl) fs1 H1 where
  s1 := T.toT3.unlock.s1
  s2 := T.s2
  s3 := fun j hj => T.toT3.unlock.s3 j (by rw [md_unlock, unlockM_own] at hj; exact hj)
  s5 := fun j hj => T.toT3.unlock.s5 j fun z => hj (by rw [md_unlock, z]; rfl)
  s4 := fun j k h => by
    obtain ⟨e1, e2⟩ := T.s4 j k (by rw [md_lock]; exact lockM_lk h)
    refine ⟨?_, e2⟩
    rw [md_unlock, e1, h]; rfl
theorem Kn.lock {a : Addr} (h : Kn G fs H a) : Kn (lockG rs G) fs H a := h.imp (fun ⟨i, hi, q⟩ => ⟨i, fun z => hi (by rw [md_lock, lockM_no] at z; exact z), q⟩) id
end

/-! ### for -/
def forF (g : D → Ev → Option Ev) (F : Ev → Option Fl) : List D → Ev → Option Fl
  | [], sl => some (.nx sl)
  | d :: ds, sl => (g d sl).bind fun s => (F s).bind fun fl => match fl with
      | .nx s => forF g F ds s
      | .ct s => forF g F ds s
      | .bk s => some (.nx s)
      | .rt d s => some (.rt d s)
def sFor (fi : Ev → Option (List D × Ev)) (g : D → Ev → Option Ev) (F : Ev → Option Fl) : Ev → Option Fl := fun sl => (fi sl).bind fun p => forF g F p.1 p.2

/-- what stays true of the walked cells -/
structure Pr (Gl : List Mode) (rs : List Nat) (ufp : List Addr) (H1 : Hp) (fs : Nat → List Addr) (H : Hp) : Prop where
  keep : Keep (fun a => a ∈ ufp) H1 H
  al : ∀ a ∈ ufp, H a ≠ none
  off : ∀ a ∈ ufp, ∀ j k, md Gl j = .ow k → a ∉ fs j
  rt : ∀ a ∈ ufp, ∀ j, (md Gl j).own = true → a ∈ fs j → j ∈ rs
theorem Pr.step {K : PySem.W.Frag} {Gt Gl : List Mode} {rs : List Nat} {ufp : List Addr} {H1 H H' : Hp} {fs fs' : Nat → List Addr} {sl sl' : Ev} {σ σ' : L2.St} (P : Pr Gt rs ufp H1 fs H) (S : SR K Gt sl σ H fs) (T : TS Gt fs H Gl fs' H') (S' : SR K Gl sl' σ' H' fs') : Pr Gl rs ufp H1 fs' H' := by
  have kp : Keep (fun a => a ∈ ufp) H H' := fun a o e hm => T.s1 a o e fun j k hj haj => by
    obtain ⟨o', e', m'⟩ := S.mem (by rw [hj]; simp) haj
    rw [e] at e'; cases e'
    exact P.off a (hm m') j k hj haj
  -- an own cell behind was an own locked one
  have back : ∀ a ∈ ufp, ∀ j, (md Gl j).own = true → a ∈ fs' j → ∃ k, md Gt j = .lk k ∧ a ∈ fs j := fun a ha j hj haj => by
    rcases T.s3 j hj a haj with ⟨l, hl, q⟩ | q
    · cases e : md Gt l with
      | no => rw [e] at hl; cases hl
      | vw _ _ => rw [e] at hl; cases hl
      | ow k => exact absurd q (P.off a ha l k e)
      | lk k =>
        obtain ⟨e1, e2⟩ := T.s4 l k e
        by_cases ne : j = l
        · subst ne; exact ⟨k, e, q⟩
        · exact absurd (by rw [e2]; exact q) (S'.dj j l hj (by rw [e1]; rfl) ne a haj)
    · exact absurd q (P.al a ha)
  refine ⟨fun a o e hm => kp a o (P.keep a o e hm) hm, fun a ha z => P.al a ha (T.s2 a z), fun a ha j k hj haj => ?_, fun a ha j hj haj => ?_⟩
  · obtain ⟨k', e, q⟩ := back a ha j (by rw [hj]; rfl) haj
    obtain ⟨e1, _⟩ := T.s4 j k' e
    rw [hj] at e1; cases e1
  · obtain ⟨k', e, q⟩ := back a ha j hj haj
    exact P.rt a ha j (by rw [e]; rfl) q
theorem Pr.ext {Gl : List Mode} {rs : List Nat} {ufp : List Addr} {H1 H H' : Hp} {fs : Nat → List Addr} (P : Pr Gl rs ufp H1 fs H) (E : Same H H') : Pr Gl rs ufp H1 fs H' :=
  ⟨fun a o e hm => E a o (P.keep a o e hm), fun a ha z => P.al a ha (E.free z), P.off, P.rt⟩

section
variable {X : Cx} {R : RetS} {G Gl Gt : List Mode} {tg iter : Expr} {mk : Nat} {rs M : List Nat} {fi : Ev → Option (List D × Ev)} {g : D → Ev → Option Ev} {body : List Stmt} {F : Ev → Option Fl} {pos : Pos} {Gb Gc : List Mode}
theorem ds_for (hp : PassesOwn (model X.prog X.w) X.A X.env X.xe) (hc : X.calm = true) (I : DI X G tg iter mk rs M fi) (hl : leL (kill M (lockG rs G)) Gl = true) (hrm : rs.all (fun r => !M.contains r) = true) {is : List Nat} (T : DG X Gl tg (.vw mk rs) Gt is g) (B : DSs X R Gt body Gl Gl Gl F)
    (hs : ∀ x, foldedSetIterable iter X.env x = pure x := by intro _; rfl) (hfx : is.all (fun i => !R.fx.contains i) = true := by rfl) : DS X R G (.For tg iter body [] pos) (unlockG rs G Gl) Gb Gc (sFor fi g F) := by
  obtain ⟨wi, pi, ri⟩ := I.run
  obtain ⟨gg, pg, rg⟩ := T.run
  obtain ⟨tb, pb, rb⟩ := B.run
  refine ⟨_, ps_for hp hc pi pg pb hs, fun sl σ H fs fl Dn S h P => ?_⟩
  unfold sFor at h
  cases h1 : fi sl with
  | none => rw [h1] at h; cases h
  | some q =>
    obtain ⟨items, s1⟩ := q
    rw [h1] at h
    simp only [Option.bind_some] at h
    refine ri sl σ H fs items s1 _ S h1 fun J H1 fs1 ufp O => ?_
    have hML : ∀ j ∈ M, ∃ k, md (lockG rs G) j = .ow k := fun j hj => by
      obtain ⟨k, hk⟩ := I.hM j hj
      refine ⟨k, ?_⟩
      have nr : j ∉ rs := fun z => by
        have := List.all_eq_true.mp hrm j z
        simp at this
        exact this hj
      rw [md_lock, hk]
      simp [lockM, nr]
    have kl : ∀ i, md (kill M (lockG rs G)) i = lockM rs i (md (kill M G) i) := fun i => by
      rw [md_kill, md_lock, md_kill]
      cases e : md G i with
      | no => rfl
      | ow k => simp only [lockM]; split <;> simp [killM, lockM, *]
      | lk k => rfl
      | vw k ss =>
        show killM M (.vw k ss) = lockM rs i (killM M (.vw k ss))
        by_cases z : killM M (.vw k ss) = .no
        · rw [z]; rfl
        · rw [killM_ne z]; rfl
    have S1 : SR X.K (kill M (lockG rs G)) s1 σ H1 fs1 := (O.sr.lock (rs := rs)).modes (fun i => by rw [kl, md_lock]) (fun i => by rw [kl, md_lock]) (fun i z => by rw [md_lock, ← kl]; exact z) (fun i z => by rw [kl, ← md_lock]; exact z) fun i k ss z => by rw [md_lock, ← kl]; exact z
    have Sl := S1.leS (leL_and hl).1
    have T0 : TS (lockG rs G) fs H Gl fs1 H1 := (O.tr.ts hML).weak (leL_and hl).1 (leL_and hl).2
    have ownG : ∀ j, (md Gl j).own = true → (md G j).own = true := fun j o => by
      have := (leS_at (leL_and hl).1 j).elim (fun z => (leM_own (leM_leX z) o).1) fun z => by rw [z] at o; cases o
      rw [own_kill, own_lock] at this
      exact this
    have P0 : Pr Gl rs ufp H1 fs1 H1 := by
      refine ⟨fun a o e _ => e, O.al, fun a ha j k hj haj => ?_, fun a ha j hj haj => O.rt a ha j (ownG j hj) haj⟩
      have hr := O.rt a ha j (ownG j (by rw [hj]; rfl)) haj
      have q := (leS_at (leL_and hl).1 j).resolve_right (by rw [hj]; simp)
      rw [hj, kl] at q
      cases e : md (kill M G) j with
      | no => rw [e] at q; simp [lockM, leM] at q
      | vw _ _ => rw [e] at q; simp [lockM, leM] at q
      | lk _ => rw [e] at q; simp [lockM, leM] at q
      | ow k' => rw [e] at q; simp [lockM, hr, leM] at q
    refine ⟨fun i m σ3 H3 => ∃ sl3 fs3, m = items.length - i ∧ i ≤ items.length ∧ SR X.K Gl sl3 σ3 H3 fs3 ∧ TS (lockG rs G) fs H Gl fs3 H3 ∧ Pr Gl rs ufp H1 fs3 H3 ∧ Fx R σ σ3 ∧ forF g F (items.drop i) sl3 = some fl,
      ⟨items.length, s1, fs1, by simp, Nat.zero_le _, Sl, T0, P0, .refl, h⟩, ?_⟩
    rintro i m σ3 H3 ⟨sl3, fs3, rfl, hi, S3, T3', P3, X3, h3⟩
    obtain ⟨yg, ys⟩ := O.yl H3 P3.keep S3.sz
    by_cases hlt : i < items.length
    · have hd : items[i]? = some items[i] := List.getElem?_eq_getElem hlt
      rw [List.drop_eq_getElem_cons hlt] at h3
      unfold forF at h3
      cases h4 : g items[i] sl3 with
      | none => rw [h4] at h3; cases h3
      | some s4 =>
        rw [h4] at h3
        simp only [Option.bind_some] at h3
        cases h5 : F s4 with
        | none => rw [h5] at h3; cases h3
        | some fl2 =>
          rw [h5] at h3
          simp only [Option.bind_some] at h3
          obtain ⟨go, yy⟩ := yg i _ hd
          refine .inr ⟨go, fun σ' H' => ∃ sl6 fs6, SR X.K Gl sl6 σ' H' fs6 ∧ TS (lockG rs G) fs H Gl fs6 H' ∧ Pr Gl rs ufp H1 fs6 H' ∧ Fx R σ σ' ∧ forF g F (items.drop (i + 1)) sl6 = some fl, fun σ' H' ⟨sl6, fs6, a1, a2, a3, a4, a5⟩ => ⟨items.length - (i + 1), by omega, sl6, fs6, rfl, hlt, a1, a2, a3, a4, a5⟩, fun x H4 y => ?_⟩
          obtain ⟨E, fp, rx, sub⟩ := yy x H4 y
          have S4 := S3.same E
          have P4 := P3.ext E.same
          have dx : mdep items[i] ≤ mk := O.dep _ (List.getElem_mem hlt)
          refine rg sl3 σ3 H4 fs3 items[i] s4 x fp _ S4 h4 ⟨rx, dx, fun a ha j hj haj => P4.rt a (sub a ha) j hj haj⟩ fun σ5 fs5 S5 Q5 F5 => ?_
          have T5 : TS (lockG rs G) fs H Gt fs5 H4 := asg_post (m := .vw mk rs) ⟨S4, T3'.ext2 E.same, ⟨rx, dx, fun a ha j hj haj => P4.rt a (sub a ha) j hj haj⟩, (fun ⟨k, e⟩ => nomatch e), fun a ha => (O.kn a (sub a ha)).lock⟩ S5 Q5
          have un : ∀ j, (md Gt j).own = true → md Gt j = md Gl j ∧ fs5 j = fs3 j := fun j hj => by
            rcases Q5.p1 j with z | ⟨_, z⟩
            · exact z
            · obtain ⟨k, e⟩ := z hj; cases e
          have P5 : Pr Gt rs ufp H1 fs5 H4 := by
            refine ⟨P4.keep, P4.al, fun a ha j k hj haj => ?_, fun a ha j hj haj => ?_⟩
            · obtain ⟨e1, e2⟩ := un j (by rw [hj]; rfl)
              exact P4.off a ha j k (by rw [← e1]; exact hj) (by rw [← e2]; exact haj)
            · obtain ⟨e1, e2⟩ := un j hj
              exact P4.rt a ha j (by rw [← e1]; exact hj) (by rw [← e2]; exact haj)
          have X5 : Fx R σ σ5 := X3.trans fun j hj => (F5.out j fun z => by have := List.all_eq_true.mp hfx j z; simp at this; exact this hj).2.2.2
          refine rb s4 σ5 H4 fs5 fl2 _ S5 h5 ?_
          cases fl2 with
          | nx s6 => exact fun σ6 H6 fs6 S6 T6 X6 => ⟨s6, fs6, S6, T5.trans S5 T6, P5.step S5 T6 S6, X5.trans X6, h3⟩
          | ct s6 => exact fun σ6 H6 fs6 S6 T6 X6 => ⟨s6, fs6, S6, T5.trans S5 T6, P5.step S5 T6 S6, X5.trans X6, h3⟩
          | bk s6 =>
            cases h3
            exact fun σ6 H6 fs6 S6 T6 X6 => P σ6 H6 fs6 S6.unlock (T5.trans S5 T6).unlock (X5.trans X6)
          | rt d6 s6 =>
            cases h3
            exact fun v σ6 H6 fs6 fp6 Q6 => P v σ6 H6 fs6 fp6 (by
              have Z := Q6.ok.back (K := X.K) T5
              refine ⟨Q6.sr, (T3.trans T5 S5 Q6.ts).unlock, Q6.rep, Q6.dep, ?_, X5.trans Q6.fx⟩
              cases e : R.m with
              | vw k ss =>
                rw [e] at Z
                exact ⟨Z.1, fun a ha => (Z.2 a ha).imp (fun ⟨k, hk, q⟩ => ⟨k, fun z => hk (by rw [md_lock, lockM_no]; exact z), q⟩) id⟩
              | ow k =>
                rw [e] at Z
                exact ⟨Z.1, Z.2.1, fun a ha => (Z.2.2 a ha).imp (fun ⟨k, hk, q⟩ => ⟨k, by rw [← own_lock (rs := rs)]; exact hk, q⟩) id⟩)
    · have e : i = items.length := by omega
      subst e
      rw [List.drop_length] at h3
      cases h3
      exact .inl ⟨ys, P σ3 H3 fs3 S3.unlock T3'.unlock X3⟩
end
end Dw
/-! Dw, part K: list comprehensions. -/
namespace Dw
open PySem PySem.Spec PyProof.Rows L2

/-! ### readings that are told by modes alone -/
def canE (K : PySem.W.Frag) (G : List Mode) (m : RM) (M : List Nat) (f : Ev → Option (D × Ev)) : TE := fun σ H Q => ∃ sl fs d sl', SR K G sl σ H fs ∧ f sl = some (d, sl') ∧ ∀ v H' fs' fp, Out K G M sl σ H fs m d sl' v H' fs' fp → Q v H'
theorem DE.can {X : Cx} {G : List Mode} {e : Expr} {m : RM} {M : List Nat} {f : Ev → Option (D × Ev)} (A : DE X G e m M f) : PE X e (canE X.K G m M f) := by
  obtain ⟨t, p, r⟩ := A.run
  exact ⟨fun pins s σ H Q I ⟨sl, fs, d, sl', S, h, q⟩ => p.run pins s σ H Q I (r sl σ H fs d sl' Q S h q)⟩
def canT (K : PySem.W.Frag) (G : List Mode) (M : List Nat) (f : Ev → Option (Bool × Ev)) : TT := fun σ H Q => ∃ sl fs b sl', SR K G sl σ H fs ∧ f sl = some (b, sl') ∧ ∀ H' fs', SR K (kill M G) sl' σ H' fs' → Tr M sl fs H sl' fs' H' → Q b H'
theorem DT.can {X : Cx} {G : List Mode} {c : Expr} {M : List Nat} {f : Ev → Option (Bool × Ev)} (A : DT X G c M f) : PT X c (canT X.K G M f) := by
  obtain ⟨t, p, r⟩ := A.run
  exact ⟨fun pins s σ H Q I ⟨sl, fs, d, sl', S, h, q⟩ => p.run pins s σ H Q I (r sl σ H fs d sl' Q S h q)⟩
def canG (K : PySem.W.Frag) (G : List Mode) (m : RM) (G' : List Mode) (is : List Nat) (f : D → Ev → Option Ev) : TG := fun v σ H Q => ∃ sl fs d sl' fp, SR K G sl σ H fs ∧ f d sl = some sl' ∧ GIn K G fs H m d v fp ∧
  ∀ σ' fs', SR K G' sl' σ' H fs' → GPost G fs fp m G' fs' → Frm is G fs sl σ G' fs' sl' σ' → Q σ' H
theorem DG.can {X : Cx} {G : List Mode} {tg : Expr} {m : RM} {G' : List Mode} {is : List Nat} {f : D → Ev → Option Ev} (A : DG X G tg m G' is f) : PG X tg (canG X.K G m G' is f) := by
  obtain ⟨t, p, r⟩ := A.run
  exact ⟨fun pins s σ H v u Q I rv ⟨sl, fs, d, sl', fp, S, h, g, q⟩ => p.run pins s σ H v u Q I rv (r sl σ H fs d sl' v fp Q S h g q)⟩
def canI (K : PySem.W.Frag) (G : List Mode) (mk : Nat) (rs M : List Nat) (f : Ev → Option (List D × Ev)) : TI := fun σ H R => ∃ sl fs items sl', SR K G sl σ H fs ∧ f sl = some (items, sl') ∧ ∀ J H' fs' ufp, OutI K G M sl σ H fs mk rs items sl' J H' fs' ufp → R J H'
theorem DI.can {X : Cx} {G : List Mode} {tg iter : Expr} {mk : Nat} {rs M : List Nat} {f : Ev → Option (List D × Ev)} (A : DI X G tg iter mk rs M f) : PI X tg iter (canI X.K G mk rs M f) := by
  obtain ⟨t, p, r⟩ := A.run
  exact ⟨fun pins s σ H R I ⟨sl, fs, items, sl', S, h, q⟩ => p.run pins s σ H R I (r sl σ H fs items sl' R S h q)⟩
/-- a clause's tests: none or one -/
structure DTs (X : Cx) (G : List Mode) (ifs : List Expr) (M : List Nat) (f : Ev → Option (Bool × Ev)) : Prop where
  hM : ∀ j ∈ M, ∃ k, md G j = .ow k
  can : PTs X ifs (canT X.K G M f)
def tYesF : Ev → Option (Bool × Ev) := fun sl => some (true, sl)
def eYes : Ev → Option Bool := fun _ => some true
theorem dts_nil {X : Cx} {G : List Mode} : DTs X G [] [] tYesF :=
  ⟨(fun _ z => nomatch z), ⟨fun pins s σ H Q I ⟨sl, fs, b, sl', S, h, q⟩ => by cases h; exact pts_nil.run pins s σ H Q I (q H fs S (.pure (Same.refl H)))⟩⟩
theorem dts_one {X : Cx} {G : List Mode} {c : Expr} {M : List Nat} {f : Ev → Option (Bool × Ev)} (A : DT X G c M f) : DTs X G [c] M f := ⟨A.hM, pts_one A.can⟩

/-! ### slots wiped and put back -/
def wipeD (sl : Ev) : List Nat → Ev
  | [] => sl
  | v :: vs => (wipeD sl vs).set v none
def wipeG (vs : List Nat) (G : List Mode) : List Mode := match vs with
  | [] => G
  | v :: vs => (wipeG vs G).set v .no
def putBack (sl0 sl : Ev) : List Nat → Ev
  | [] => sl
  | v :: vs => (putBack sl0 sl vs).set v (sl0[v]?).join
theorem wipeD_len (sl : Ev) : ∀ vs : List Nat, (wipeD sl vs).length = sl.length
  | [] => rfl
  | v :: vs => by unfold wipeD; rw [List.length_set, wipeD_len sl vs]
theorem putBack_len (sl0 sl : Ev) : ∀ vs : List Nat, (putBack sl0 sl vs).length = sl.length
  | [] => rfl
  | v :: vs => by unfold putBack; rw [List.length_set, putBack_len sl0 sl vs]
theorem wipeD_out {sl : Ev} {i : Nat} : ∀ {vs : List Nat}, i ∉ vs → (wipeD sl vs)[i]? = sl[i]?
  | [], _ => rfl
  | v :: vs, h => by
    have h1 : v ≠ i := fun e => h (by rw [e]; exact List.mem_cons_self)
    unfold wipeD
    rw [List.getElem?_set_ne h1]
    exact wipeD_out fun m => h (List.mem_cons_of_mem _ m)
theorem putBack_out {sl0 sl : Ev} {i : Nat} : ∀ {vs : List Nat}, i ∉ vs → (putBack sl0 sl vs)[i]? = sl[i]?
  | [], _ => rfl
  | v :: vs, h => by
    have h1 : v ≠ i := fun e => h (by rw [e]; exact List.mem_cons_self)
    unfold putBack
    rw [List.getElem?_set_ne h1]
    exact putBack_out fun m => h (List.mem_cons_of_mem _ m)
theorem putBack_in {sl0 sl : Ev} {i : Nat} (hl : sl.length = sl0.length) : ∀ {vs : List Nat}, i ∈ vs → (putBack sl0 sl vs)[i]? = sl0[i]?
  | [], h => nomatch h
  | v :: vs, h => by
    unfold putBack
    by_cases e : v = i
    · subst e
      by_cases hv : v < sl0.length
      · rw [List.getElem?_set_self (by rw [putBack_len, hl]; exact hv), List.getElem?_eq_getElem hv]; rfl
      · rw [List.getElem?_eq_none (by rw [List.length_set, putBack_len, hl]; omega), List.getElem?_eq_none (by omega)]
    · rw [List.getElem?_set_ne e]
      exact putBack_in hl ((List.mem_cons.mp h).resolve_left (Ne.symm e))
theorem wipeG_len {G : List Mode} : ∀ {vs : List Nat}, (wipeG vs G).length = G.length
  | [] => rfl
  | v :: vs => by unfold wipeG; rw [List.length_set, wipeG_len]
theorem kill_len {M : List Nat} {G : List Mode} : (kill M G).length = G.length := by
  unfold kill
  split
  · rfl
  · rw [List.length_map]
theorem md_wipeG {G : List Mode} {i : Nat} : ∀ {vs : List Nat}, md (wipeG vs G) i = if i ∈ vs then .no else md G i
  | [] => rfl
  | v :: vs => by
    have ih := @md_wipeG G i vs
    unfold wipeG
    by_cases hv : v < (wipeG vs G).length
    · rw [md_set hv, ih]
      by_cases e : i = v
      · subst e; simp
      · simp [e]
    · have e : (wipeG vs G).set v .no = wipeG vs G := List.set_eq_of_length_le (by omega)
      rw [e, ih]
      by_cases e2 : i = v
      · subst e2
        have : md G i = .no := by
          unfold md
          rw [List.getD_eq_getElem?_getD, List.getElem?_eq_none (by rw [wipeG_len] at hv; omega)]; rfl
        rw [this]; simp
      · simp [e2]
theorem wipe_in {σ : L2.St} {i : Nat} {vs : List Nat} (h : i ∈ vs) : (wipe σ vs)[i]? = if i < σ.length then some none else none := by
  by_cases hi : i < σ.length
  · rw [if_pos hi]
    cases e : (wipe σ vs)[i]? with
    | none =>
      have := List.getElem?_eq_none_iff.mp e
      rw [wipe_length] at this; omega
    | some o =>
      cases o with
      | none => rfl
      | some v => exact absurd h (wipe_some e).2
  · rw [if_neg hi]
    exact List.getElem?_eq_none (by rw [wipe_length]; omega)
theorem wipe_eq {σ σ' : L2.St} {is vs : List Nat} (hl : σ'.length = σ.length) (h : ∀ j, j ∉ is → σ'[j]? = σ[j]?) (hs : ∀ j ∈ is, j ∈ vs) : wipe σ' vs = wipe σ vs := by
  refine List.ext_getElem? fun j => ?_
  by_cases e : j ∈ vs
  · rw [wipe_in e, wipe_in e, hl]
  · rw [wipe_out e, wipe_out e]
    exact h j fun z => e (hs j z)
theorem wipe_wipe {σ : L2.St} {vs : List Nat} : wipe (wipe σ vs) vs = wipe σ vs :=
  wipe_eq (is := vs) (wipe_length σ vs) (fun j hj => wipe_out hj) fun _ h => h

/-! ### the state within a block -/
section
variable {K : PySem.W.Frag}
theorem SR.agree {G : List Mode} {sl sl' : Ev} {σ σ' : L2.St} {H : Hp} {fs fs' : Nat → List Addr} (S : SR K G sl σ H fs) (h : ∀ i, md G i ≠ .no → sl'[i]? = sl[i]? ∧ σ'[i]? = σ[i]? ∧ fs' i = fs i) (hl : sl'.length = σ'.length) : SR K G sl' σ' H fs' := by
  refine ⟨hl, S.sz, fun i hi => ?_, fun i hi => ?_, fun i j hi hj ne => ?_, fun i k rs e a ha j hj haj => ?_⟩
  · obtain ⟨d, v, h1, h2, r, m⟩ := S.val i hi
    obtain ⟨e1, e2, e3⟩ := h i hi
    exact ⟨d, v, e1.trans h1, e2.trans h2, by rw [e3]; exact r, m⟩
  · rw [(h i (own_ne_no hi)).2.2]; exact S.nd i hi
  · rw [(h i (own_ne_no hi)).2.2, (h j (own_ne_no hj)).2.2]; exact S.dj i j hi hj ne
  · rw [(h i (by rw [e]; simp)).2.2] at ha
    rw [(h j (own_ne_no hj)).2.2] at haj
    exact S.vw i k rs e a ha j hj haj
/-- one list that no local reaches is written -/
theorem SR.upd_out {G : List Mode} {sl : Ev} {σ : L2.St} {H : Hp} {fs : Nat → List Addr} {p : Addr} {xs ys : List V} (S : SR K G sl σ H fs) (hp : H p = some (.lst xs)) (off : ∀ j, md G j ≠ .no → p ∉ fs j) (hz : ys.length ≤ sizeLine) : SR K G sl σ (upd H p (.lst ys)) fs :=
  ⟨S.len, S.sz.upd (szO_lst hz), fun i hi => by
    obtain ⟨d, v, h1, h2, r, m⟩ := S.val i hi
    refine ⟨d, v, h1, h2, r.keep (U := fun a => a ≠ p) (fun a o e hm => ?_) (fun a ha z => off i hi (z ▸ ha)), m⟩
    have ne : a ≠ p := by
      by_cases q : isM o = true
      · exact hm q
      · intro z; subst z
        rw [hp] at e; cases e
        exact q rfl
    rw [upd_ne ne]; exact e, S.nd, S.dj, S.vw⟩
theorem Rep.upd_out {d : D} {v : V} {fp : List Addr} {H : Hp} {p : Addr} {xs ys : List V} (r : Rep K H d v fp) (hp : H p = some (.lst xs)) (off : p ∉ fp) : Rep K (upd H p (.lst ys)) d v fp :=
  r.keep (U := fun a => a ≠ p) (fun a o e hm => by
    have ne : a ≠ p := by
      by_cases q : isM o = true
      · exact hm q
      · intro z; subst z
        rw [hp] at e; cases e
        exact q rfl
    rw [upd_ne ne]; exact e) fun a ha z => off (z ▸ ha)
theorem Reps.upd_out {ds : List D} {vs : List V} {fp : List Addr} {H : Hp} {p : Addr} {xs ys : List V} (r : Reps K H ds vs fp) (hp : H p = some (.lst xs)) (off : p ∉ fp) : Reps K (upd H p (.lst ys)) ds vs fp :=
  r.keep (U := fun a => a ≠ p) (fun a o e hm => by
    have ne : a ≠ p := by
      by_cases q : isM o = true
      · exact hm q
      · intro z; subst z
        rw [hp] at e; cases e
        exact q rfl
    rw [upd_ne ne]; exact e) fun a ha z => off (z ▸ ha)
/-- what is collected -/
def AccOk (G0 Gk : List Mode) (N : List Nat) (fsk : Nat → List Addr) (Hk : Hp) (fs1 : Nat → List Addr) (H1 : Hp) (fs2 : Nat → List Addr) (fp : List Addr) : RM → Prop
  | .ow _ => fp.Nodup ∧ (∀ a ∈ fp, H1 a = none ∨ ∃ j ∈ N, a ∈ fs1 j) ∧ ∀ a ∈ fp, ∀ j ∈ N, a ∉ fs2 j
  | .vw _ rs => (∀ a ∈ fp, ∀ j, (md G0 j).own = true → a ∈ fs1 j → j ∈ rs) ∧ ∀ a ∈ fp, Kn Gk fsk Hk a
/-- the cells ufp, walked as they stand in Hb, are kept -/
structure PU (N : List Nat) (p : Addr) (ufp : List Addr) (Hb : Hp) (fs : Nat → List Addr) (H : Hp) : Prop where
  keep : Keep (fun a => a ∈ ufp) Hb H
  al : ∀ a ∈ ufp, H a ≠ none
  off : ∀ a ∈ ufp, ∀ j ∈ N, a ∉ fs j
  pn : p ∉ ufp
  pb : ∀ o, Hb p = some o → isM o = true
theorem PU.ext {N : List Nat} {p : Addr} {ufp : List Addr} {Hb H H' : Hp} {fs : Nat → List Addr} (P : PU N p ufp Hb fs H) (E : Same H H') : PU N p ufp Hb fs H' :=
  ⟨fun a o e hm => E a o (P.keep a o e hm), fun a ha z => P.al a ha (E.free z), P.off, P.pn, P.pb⟩
theorem PU.slots {N : List Nat} {p : Addr} {ufp : List Addr} {Hb H : Hp} {fs fs' : Nat → List Addr} (P : PU N p ufp Hb fs H) (h : ∀ j ∈ N, fs' j = fs j) : PU N p ufp Hb fs' H :=
  ⟨P.keep, P.al, fun a ha j hj => by rw [h j hj]; exact P.off a ha j hj, P.pn, P.pb⟩
theorem PU.tr {G : List Mode} {sl sl' : Ev} {σ : L2.St} {M N : List Nat} {p : Addr} {ufp : List Addr} {Hb H H' : Hp} {fs fs' : Nat → List Addr} (P : PU N p ufp Hb fs H) (S : SR K G sl σ H fs) (hM : ∀ j ∈ M, md G j ≠ .no) (sub : ∀ j ∈ M, j ∈ N) (T : Tr M sl fs H sl' fs' H') : PU N p ufp Hb fs' H' where
  keep := fun a o e hm => T.t1 a o (P.keep a o e hm) fun j hj haj => by
    obtain ⟨o', e', m'⟩ := S.mem (hM j hj) haj
    rw [P.keep a o e hm] at e'; cases e'
    exact P.off a (hm m') j (sub j hj) haj
  al := fun a ha z => P.al a ha (T.t2 a z)
  off := fun a ha j hj haj => by
    by_cases hm : j ∈ M
    · rcases T.t4 j hm a haj with ⟨i, hi, q⟩ | q
      · exact P.off a ha i (sub i hi) q
      · exact P.al a ha q
    · rw [(T.t3 j hm).1] at haj
      exact P.off a ha j hj haj
  pn := P.pn
  pb := P.pb
theorem PU.upd {N : List Nat} {p : Addr} {ufp : List Addr} {Hb H : Hp} {fs : Nat → List Addr} {o : HO} (P : PU N p ufp Hb fs H) : PU N p ufp Hb fs (upd H p o) where
  keep := fun a u e hm => by
    have ne : a ≠ p := fun z => by
      subst z
      exact P.pn (hm (P.pb u e))
    rw [upd_ne ne]; exact P.keep a u e hm
  al := fun a ha z => by
    by_cases e : a = p
    · rw [e, upd_same] at z; cases z
    · rw [upd_ne e] at z; exact P.al a ha z
  off := P.off
  pn := P.pn
  pb := P.pb
/-- G0: the modes at the block's start; N: what the block may write; vs: its names; p: the new list, with the items acc -/
structure LI (K : PySem.W.Frag) (Gk G0 : List Mode) (fsk : Nat → List Addr) (Hk : Hp) (N vs : List Nat) (m : RM) (sl1 : Ev) (fs1 : Nat → List Addr) (H1 : Hp) (p : Addr) (U : List Addr → Hp → Prop) (G : List Mode) (sl : Ev) (σ : L2.St) (H : Hp) (fs : Nat → List Addr) (acc : List D) (aV : List V) (fA : List Addr) : Prop where
  sr : SR K G sl σ H fs
  len : sl.length = sl1.length
  t1 : ∀ a o, H1 a = some o → (∀ j ∈ N, a ∉ fs1 j) → H a = some o
  t2 : ∀ a, H a = none → H1 a = none
  t3 : ∀ j, j ∉ N → j ∉ vs → fs j = fs1 j ∧ sl[j]? = sl1[j]?
  t4 : ∀ j ∈ N, ∀ a ∈ fs j, (∃ i ∈ N, a ∈ fs1 i) ∨ H1 a = none
  off : ∀ j, md G j ≠ .no → p ∉ fs j
  kn : ∀ j, md G j ≠ .no → ∀ a ∈ fs j, Kn Gk fsk Hk a
  own : ∀ j, (md G j).own = true → (md G0 j).own = true ∧ j ∉ vs
  nown : ∀ j ∈ N, (md G j).own = true
  pr : ∀ ufp Hb, U ufp Hb → PU N p ufp Hb fs H
  pn : H1 p = none
  cv : (∃ k, m = .ow k) ∨ m.k = 0 ∨ N = []
  -- a new cell of the block's start is new at the def's
  new : ∀ a, H1 a = none → Hk a = none
  ac : H p = some (.lst aV) ∧ Reps K H acc aV fA ∧ (∀ d ∈ acc, mdep d ≤ m.k) ∧ p ∉ fA ∧ AccOk G0 Gk N fsk Hk fs1 H1 fs fA m
section
variable {Gk G0 : List Mode} {fsk : Nat → List Addr} {Hk : Hp} {N vs : List Nat} {m : RM} {sl1 : Ev} {fs1 : Nat → List Addr} {H1 : Hp} {p : Addr} {U : List Addr → Hp → Prop} {G G' : List Mode} {sl sl' : Ev} {σ σ' : L2.St} {H H' : Hp} {fs fs' : Nat → List Addr} {acc : List D} {aV : List V} {fA : List Addr}
theorem LI.ext (L : LI K Gk G0 fsk Hk N vs m sl1 fs1 H1 p U G sl σ H fs acc aV fA) (E : Ext H H') : LI K Gk G0 fsk Hk N vs m sl1 fs1 H1 p U G sl σ H' fs acc aV fA where
  sr := L.sr.same E
  len := L.len
  t1 := fun a o e n => E.same a o (L.t1 a o e n)
  t2 := fun a e => L.t2 a (E.same.free e)
  t3 := L.t3
  t4 := L.t4
  off := L.off
  kn := L.kn
  own := L.own
  nown := L.nown
  pr := fun u h q => (L.pr u h q).ext E.same
  pn := L.pn
  cv := L.cv
  new := L.new
  ac := let ⟨h1, h2, h3, h4, h5⟩ := L.ac; ⟨E.same _ _ h1, h2.same E.same, h3, h4, h5⟩
theorem LI.weak (L : LI K Gk G0 fsk Hk N vs m sl1 fs1 H1 p U G sl σ H fs acc aV fA) (h : leS G G' = true) (hn : ∀ j ∈ N, (md G' j).own = true) : LI K Gk G0 fsk Hk N vs m sl1 fs1 H1 p U G' sl σ H fs acc aV fA where
  sr := L.sr.leS h
  len := L.len
  t1 := L.t1
  t2 := L.t2
  t3 := L.t3
  t4 := L.t4
  off := fun j hj => L.off j (leX_no ((leS_at h j).imp leM_leX id) hj)
  kn := fun j hj => L.kn j (leX_no ((leS_at h j).imp leM_leX id) hj)
  own := fun j o => L.own j ((leS_at h j).elim (fun z => (leM_own (leM_leX z) o).1) fun z => by rw [z] at o; cases o)
  nown := hn
  pr := L.pr
  pn := L.pn
  cv := L.cv
  new := L.new
  ac := L.ac
/-- a store -/
theorem LI.set {is : List Nat} {k : Nat} {rs : List Nat} {fp : List Addr} (L : LI K Gk G0 fsk Hk N vs m sl1 fs1 H1 p U G sl σ H fs acc aV fA) (hN : ∀ j ∈ N, j ∉ vs) (his : ∀ j ∈ is, j ∈ vs) (S : SR K G' sl' σ' H fs') (P : GPost G fs fp (.vw k rs) G' fs') (F : Frm is G fs sl σ G' fs' sl' σ')
    (hp : p ∉ fp) (hk : ∀ a ∈ fp, Kn Gk fsk Hk a) : LI K Gk G0 fsk Hk N vs m sl1 fs1 H1 p U G' sl' σ' H fs' acc aV fA where
  sr := S
  len := F.len.1.trans L.len
  t1 := L.t1
  t2 := L.t2
  t3 := fun j h1 h2 => by
    obtain ⟨e1, e2⟩ := L.t3 j h1 h2
    obtain ⟨_, e3, e4, _⟩ := F.out j fun z => h2 (his j z)
    exact ⟨e3.trans e1, e4.trans e2⟩
  t4 := fun j hj a ha => L.t4 j hj a (by rw [← (F.out j fun z => hN j hj (his j z)).2.1]; exact ha)
  off := fun j hj => by
    rcases P.p1 j with ⟨e1, e2⟩ | ⟨z, _⟩
    · rw [e2]; exact L.off j (by rw [← e1]; exact hj)
    · exact fun q => hp (z p q)
  kn := fun j hj a ha => by
    rcases P.p1 j with ⟨e1, e2⟩ | ⟨z, _⟩
    · exact L.kn j (by rw [← e1]; exact hj) a (by rw [← e2]; exact ha)
    · exact hk a (z a ha)
  own := fun j hj => by
    rcases P.p1 j with ⟨e1, e2⟩ | ⟨_, z⟩
    · exact L.own j (by rw [← e1]; exact hj)
    · obtain ⟨k', e⟩ := z hj; cases e
  nown := fun j hj => by rw [(F.out j fun z => hN j hj (his j z)).1]; exact L.nown j hj
  pr := fun u h q => (L.pr u h q).slots fun j hj => (F.out j fun z => hN j hj (his j z)).2.1
  pn := L.pn
  cv := L.cv
  new := L.new
  ac := by
    obtain ⟨h1, h2, h3, h4, h5⟩ := L.ac
    refine ⟨h1, h2, h3, h4, ?_⟩
    cases m with
    | vw k rs => exact h5
    | ow k => exact ⟨h5.1, h5.2.1, fun a ha j hj => by rw [(F.out j fun z => hN j hj (his j z)).2.1]; exact h5.2.2 a ha j hj⟩
/-- an expression's transition -/
theorem LI.tr {M : List Nat} (L : LI K Gk G0 fsk Hk N vs m sl1 fs1 H1 p U G sl σ H fs acc aV fA) (hM : ∀ j ∈ M, ∃ k, md G j = .ow k) (sub : ∀ j ∈ M, j ∈ N) (S : SR K (kill M G) sl' σ H' fs') (T : Tr M sl fs H sl' fs' H') (hl : sl'.length = sl.length) :
    LI K Gk G0 fsk Hk N vs m sl1 fs1 H1 p U (kill M G) sl' σ H' fs' acc aV fA := by
  have nn : ∀ j ∈ M, md G j ≠ .no := fun j hj => by obtain ⟨k, e⟩ := hM j hj; rw [e]; simp
  obtain ⟨h1, h2, h3, h4, h5⟩ := L.ac
  -- back to the cells ahead
  have back : ∀ j a, a ∈ fs' j → (∃ i, (i = j ∨ i ∈ M) ∧ a ∈ fs i ∧ (j ∉ M → i = j)) ∨ (H a = none ∧ j ∈ M) := fun j a ha => by
    by_cases hj : j ∈ M
    · rcases T.t4 j hj a ha with ⟨i, hi, q⟩ | q
      · exact .inl ⟨i, .inr hi, q, fun z => absurd hj z⟩
      · exact .inr ⟨q, hj⟩
    · rw [(T.t3 j hj).1] at ha
      exact .inl ⟨j, .inl rfl, ha, fun _ => rfl⟩
  refine ⟨S, hl.trans L.len, fun a o e n => ?_, fun a e => L.t2 a (T.t2 a e), fun j hj hv => ?_, fun j hj a ha => ?_, fun j hj ha => ?_, fun j hj a ha => ?_, fun j hj => L.own j (by rw [own_kill] at hj; exact hj), fun j hj => by rw [own_kill]; exact L.nown j hj, fun u h q => (L.pr u h q).tr L.sr nn sub T, L.pn, L.cv, L.new, ?_, ?_, h3, h4, ?_⟩
  · refine T.t1 a o (L.t1 a o e n) fun j hj haj => ?_
    rcases L.t4 j (sub j hj) a haj with ⟨i, hi, q⟩ | q
    · exact n i hi q
    · rw [e] at q; cases q
  · have hm : j ∉ M := fun z => hj (sub j z)
    exact ⟨(T.t3 j hm).1.trans (L.t3 j hj hv).1, (T.t3 j hm).2.trans (L.t3 j hj hv).2⟩
  · rcases back j a ha with ⟨i, hi, q, _⟩ | ⟨q, _⟩
    · exact L.t4 i (hi.elim (fun e => e ▸ hj) (sub i)) a q
    · exact .inr (L.t2 a q)
  · rcases back j p ha with ⟨i, hi, q, e⟩ | ⟨q, _⟩
    · refine L.off i ?_ q
      rcases hi with rfl | hi
      · rw [md_kill] at hj
        exact fun z => hj (by rw [z]; rfl)
      · exact nn i hi
    · rw [h1] at q; cases q
  · rcases back j a ha with ⟨i, hi, q, e⟩ | ⟨q, _⟩
    · refine L.kn i ?_ a q
      rcases hi with rfl | hi
      · rw [md_kill] at hj
        exact fun z => hj (by rw [z]; rfl)
      · exact nn i hi
    · exact .inr (L.new a (L.t2 a q))
  · exact T.t1 p _ h1 fun j hj => L.off j (nn j hj)
  · by_cases hN : M = []
    · subst hN; exact h2.same T.same.1
    · cases m with
      | ow k =>
        refine h2.keep (U := fun a => a ∈ fA) (fun a o e hm => T.t1 a o e fun j hj haj => ?_) fun a ha => ha
        obtain ⟨o', e', m'⟩ := L.sr.mem (nn j hj) haj
        rw [e] at e'; cases e'
        exact h5.2.2 a (hm m') j (sub j hj) haj
      | vw k rs =>
        rcases L.cv with ⟨_, e⟩ | e | e
        · cases e
        · have e0 : k = 0 := e
          subst e0
          have hf : fA = [] := h2.imm_of h3
          subst hf
          refine h2.keep (U := fun a => a ∈ ([] : List Addr)) (fun a o e hm => T.t1 a o e fun j hj haj => ?_) fun a ha => ha
          obtain ⟨o', e', m'⟩ := L.sr.mem (nn j hj) haj
          rw [e] at e'; cases e'
          exact nomatch hm m'
        · exfalso
          cases M with
          | nil => exact hN rfl
          | cons j _ =>
            have := sub j List.mem_cons_self
            rw [e] at this; cases this
  · cases m with
    | vw k rs => exact h5
    | ow k =>
      refine ⟨h5.1, h5.2.1, fun a ha j hj haj => ?_⟩
      rcases back j a haj with ⟨i, hi, q, e⟩ | ⟨q, _⟩
      · exact h5.2.2 a ha i (hi.elim (fun e => e ▸ hj) (sub i)) q
      · exact h2.alive ha q
/-- slots wiped -/
theorem LI.wipe {vs' : List Nat} (L : LI K Gk G0 fsk Hk N vs m sl1 fs1 H1 p U G sl σ H fs acc aV fA) (hv : ∀ j ∈ vs', j ∈ vs) (hN : ∀ j ∈ N, j ∉ vs) : LI K Gk G0 fsk Hk N vs m sl1 fs1 H1 p U (wipeG vs' G) (wipeD sl vs') (L2.wipe σ vs') H fs acc aV fA := by
  have g : ∀ j, md (wipeG vs' G) j ≠ .no → j ∉ vs' ∧ md (wipeG vs' G) j = md G j := fun j hj => by
    rw [md_wipeG] at hj ⊢
    by_cases e : j ∈ vs'
    · rw [if_pos e] at hj; exact absurd rfl hj
    · rw [if_neg e]; exact ⟨e, rfl⟩
  refine ⟨?_, (wipeD_len _ _).trans L.len, L.t1, L.t2, fun j h1 h2 => ?_, L.t4, fun j hj => ?_, fun j hj => ?_, fun j hj => ?_, fun j hj => ?_, L.pr, L.pn, L.cv, L.new, L.ac⟩
  · have S : SR K (wipeG vs' G) sl σ H fs := L.sr.less fun j => by
      rw [md_wipeG]
      by_cases e : j ∈ vs'
      · rw [if_pos e]; exact .inr rfl
      · rw [if_neg e]; exact .inl rfl
    exact S.agree (fun j hj => ⟨wipeD_out (g j hj).1, wipe_out (g j hj).1, rfl⟩) (by rw [wipeD_len, wipe_length]; exact L.sr.len)
  · obtain ⟨e1, e2⟩ := L.t3 j h1 h2
    exact ⟨e1, (wipeD_out fun z => h2 (hv j z)).trans e2⟩
  · obtain ⟨_, e⟩ := g j hj
    exact L.off j (by rw [← e]; exact hj)
  · obtain ⟨_, e⟩ := g j hj
    exact L.kn j (by rw [← e]; exact hj)
  · obtain ⟨_, e⟩ := g j (own_ne_no hj)
    exact L.own j (by rw [← e]; exact hj)
  · rw [md_wipeG, if_neg fun z => hN j hj (hv j z)]
    exact L.nown j hj
/-- an item comes to the list -/
theorem LI.app {M : List Nat} {d : D} {v : V} {fp5 : List Addr} (L : LI K Gk G0 fsk Hk N vs m sl1 fs1 H1 p U G sl σ H fs acc aV fA) (hM : ∀ j ∈ M, ∃ k, md G j = .ow k) (sub : ∀ j ∈ M, j ∈ N) (O : Out K G M sl σ H fs m d sl' v H' fs' fp5)
    (hown : m.k = 0 ∨ (∃ k, m = .ow k) ∨ ∀ j, (md G0 j).own = true → (md G j).own = true ∨ j ∈ m.rs) (hz : acc.length < sizeLine) :
    H' p = some (.lst aV) ∧ aV.length < sizeLine ∧ LI K Gk G0 fsk Hk N vs m sl1 fs1 H1 p U (kill M G) sl' σ (upd H' p (.lst (aV ++ [v]))) fs' (acc ++ [d]) (aV ++ [v]) (fA ++ fp5) := by
  have nn : ∀ j ∈ M, md G j ≠ .no := fun j hj => by obtain ⟨k, e⟩ := hM j hj; rw [e]; simp
  have L5 := L.tr hM sub O.sr O.tr (O.sr.len.trans L.sr.len.symm)
  obtain ⟨g1, g2, g3, g4, g5⟩ := L.ac
  obtain ⟨h1, h2, h3, h4, h5⟩ := L5.ac
  have hx : aV.length < sizeLine := by rw [← h2.length]; exact hz
  have hp5 : p ∉ fp5 := fun q => by
    rcases O.ok.kn hM p q with ⟨i, hi, z⟩ | z
    · exact L.off i hi z
    · rw [g1] at z; cases z
  refine ⟨h1, hx, ⟨L5.sr.upd_out h1 L5.off (by rw [List.length_append]; exact hx), L5.len, fun a o e n => ?_, fun a e => ?_, L5.t3, L5.t4, L5.off, L5.kn, L5.own, L5.nown, fun u h q => (L5.pr u h q).upd, L5.pn, L5.cv, L5.new, upd_same, ?_, ?_, ?_, ?_⟩⟩
  · have q := L5.t1 a o e n
    by_cases z : a = p
    · subst z
      rw [L.pn] at e; cases e
    · rw [upd_ne z]; exact q
  · by_cases z : a = p
    · subst z; rw [upd_same] at e; cases e
    · rw [upd_ne z] at e; exact L5.t2 a e
  · have := (h2.upd_out (ys := aV ++ [v]) h1 h4).append (.cons (O.rep.upd_out (ys := aV ++ [v]) h1 hp5) .nil)
    rwa [List.append_nil] at this
  · intro e he
    rcases List.mem_append.mp he with he | he
    · exact h3 e he
    · rw [List.mem_singleton.mp he]; exact O.dep
  · exact fun z => (List.mem_append.mp z).elim h4 hp5
  · have im : m.k = 0 → fp5 = [] := fun e => O.rep.imm (by have := O.dep; omega)
    have ok := O.ok
    cases m with
    | ow k =>
      -- where a cell of the new item stood
      have from5 : ∀ a ∈ fp5, H a = none ∨ ∃ j ∈ M, a ∈ fs j := fun a ha => ok.2.1 a ha
      refine ⟨List.nodup_append.mpr ⟨h5.1, ok.1, fun a ha b hb e => ?_⟩, fun a ha => ?_, fun a ha j hj => ?_⟩
      · subst e
        rcases from5 a hb with q | ⟨j, hj, q⟩
        · exact g2.alive ha q
        · exact g5.2.2 a ha j (sub j hj) q
      · rcases List.mem_append.mp ha with ha | ha
        · exact h5.2.1 a ha
        · rcases from5 a ha with q | ⟨j, hj, q⟩
          · exact .inl (L.t2 a q)
          · rcases L.t4 j (sub j hj) a q with ⟨i, hi, z⟩ | z
            · exact .inr ⟨i, hi, z⟩
            · exact .inl z
      · rcases List.mem_append.mp ha with ha | ha
        · exact h5.2.2 a ha j hj
        · exact ok.2.2 a ha j (L.nown j hj)
    | vw k rs =>
      refine ⟨fun a ha j hj haj => ?_, fun a ha => ?_⟩
      · rcases List.mem_append.mp ha with ha | ha
        · exact h5.1 a ha j hj haj
        · rcases L.cv with ⟨_, e⟩ | e | e
          · cases e
          · rw [im e] at ha; cases ha
          · subst e
            rcases hown with q | ⟨_, q⟩ | q
            · rw [im q] at ha; cases ha
            · cases q
            · rcases q j hj with q | q
              · obtain ⟨_, nv⟩ := L.own j q
                have e1 := (L5.t3 j (fun z => nomatch z) nv).1
                exact ok.1 a ha j q (by rw [e1]; exact haj)
              · exact q
      · rcases List.mem_append.mp ha with ha | ha
        · exact h5.2 a ha
        · rcases ok.2 a ha with ⟨i, hi, z⟩ | z
          · exact L.kn i hi a z
          · exact .inr (L.new a (L.t2 a z))
/-- a transition, the modes of what it does not write kept -/
theorem SR.frame {s2 : Ev} {H2 : Hp} {fs2 : Nat → List Addr} (S : SR K G0 sl1 σ H1 fs1) (T : Tr N sl1 fs1 H1 s2 fs2 H2) (hN : ∀ j ∈ N, (md G0 j).own = true) (sz : Sz H2) (len : s2.length = sl1.length)
    (val : ∀ j ∈ N, ∃ d v, s2[j]? = some (some d) ∧ σ[j]? = some (some v) ∧ Rep K H2 d v (fs2 j) ∧ mdep d ≤ (md G0 j).k) (nd : ∀ j ∈ N, (fs2 j).Nodup) (dj : ∀ i ∈ N, ∀ j ∈ N, i ≠ j → ∀ a ∈ fs2 i, a ∉ fs2 j) : SR K (kill N G0) s2 σ H2 fs2 := by
  have kn : ∀ {i}, md (kill N G0) i ≠ .no → md (kill N G0) i = md G0 i := fun {i} h => by rw [md_kill] at h ⊢; exact killM_ne h
  have far : ∀ i, i ∉ N → (md G0 i).own = true → ∀ j ∈ N, ∀ a ∈ fs2 j, a ∉ fs1 i := fun i hi ho j hj a ha hai => by
    rcases T.t4 j hj a ha with ⟨l, hl, q⟩ | q
    · exact S.dj l i (hN l hl) ho (fun e => hi (e ▸ hl)) a q hai
    · exact S.alive (own_ne_no ho) hai q
  refine ⟨len.trans S.len, sz, fun i hi => ?_, fun i hi => ?_, fun i j hi hj ne a ha haj => ?_, fun i k rs e a ha j hj haj => ?_⟩
  · rw [kn hi]
    by_cases hm : i ∈ N
    · exact val i hm
    · obtain ⟨e1, e2⟩ := T.t3 i hm
      have hi' := hi
      rw [kn hi] at hi'
      obtain ⟨d, v, h1, h2, r, dd⟩ := S.val i hi'
      refine ⟨d, v, e2.trans h1, h2, ?_, dd⟩
      rw [e1]
      refine r.keep (U := fun a => a ∈ fs1 i) (fun a o e hm' => T.t1 a o e fun j hj haj => ?_) fun a ha => ha
      obtain ⟨o', e', m'⟩ := S.mem (own_ne_no (hN j hj)) haj
      rw [e] at e'; cases e'
      have hai := hm' m'
      by_cases ho : (md G0 i).own = true
      · exact S.dj j i (hN j hj) ho (fun e => hm (e ▸ hj)) a haj hai
      · cases e3 : md G0 i with
        | no => exact hi' e3
        | ow _ => rw [e3] at ho; exact ho rfl
        | lk _ => rw [e3] at ho; exact ho rfl
        | vw l rs =>
          have q := kn hi
          rw [md_kill, e3] at q
          obtain ⟨_, z⟩ := killM_vw q
          by_cases l0 : l = 0
          · rw [e3] at dd
            have d2 : mdep d ≤ l := dd
            rw [r.imm (by omega)] at hai; cases hai
          · exact z l0 j (S.vw i l rs e3 a hai j (hN j hj) haj) hj
  · rw [own_kill] at hi
    by_cases hm : i ∈ N
    · exact nd i hm
    · rw [(T.t3 i hm).1]; exact S.nd i hi
  · rw [own_kill] at hi hj
    by_cases hm : i ∈ N
    · by_cases hm' : j ∈ N
      · exact dj i hm j hm' ne a ha haj
      · rw [(T.t3 j hm').1] at haj
        exact far j hm' hj i hm a ha haj
    · rw [(T.t3 i hm).1] at ha
      by_cases hm' : j ∈ N
      · exact far i hm hi j hm' a haj ha
      · rw [(T.t3 j hm').1] at haj
        exact S.dj i j hi hj ne a ha haj
  · rw [md_kill] at e
    obtain ⟨e1, z⟩ := killM_vw e
    rw [own_kill] at hj
    have hi : i ∉ N := fun q => by have := hN i q; rw [e1] at this; cases this
    rw [(T.t3 i hi).1] at ha
    by_cases hm : j ∈ N
    · rcases T.t4 j hm a haj with ⟨l, hl, q⟩ | q
      · by_cases k0 : k = 0
        · obtain ⟨d, v, _, _, r, dd⟩ := S.val i (by rw [e1]; simp)
          rw [e1] at dd
          have d2 : mdep d ≤ k := dd
          rw [r.imm (by omega)] at ha; cases ha
        · exact absurd hl (z k0 l (S.vw i k rs e1 a ha l (hN l hl) q))
      · exact absurd q (S.alive (by rw [e1]; simp) ha)
    · rw [(T.t3 j hm).1] at haj
      exact S.vw i k rs e1 a ha j hj haj
def lcM (m : RM) : RM := if m.k = 0 then .ow 1 else match m with
  | .ow k => .ow (k + 1)
  | .vw k rs => .vw (k + 1) rs
theorem lcM_k (m : RM) : (lcM m).k = m.k + 1 := by
  unfold lcM
  by_cases h : m.k = 0
  · rw [if_pos h, h]; rfl
  · rw [if_neg h]; cases m <;> rfl
theorem LI.start {Gl : List Mode} (S : SR K G0 sl1 σ H1 fs1) (hp : H1 p = none) (hN : ∀ j ∈ N, j ∉ vs ∧ (md Gl j).own = true ∧ md Gl j = md G0 j) (hl : leS (wipeG vs G0) Gl = true) (kn : ∀ j, md G0 j ≠ .no → ∀ a ∈ fs1 j, Kn Gk fsk Hk a) (cv : (∃ k, m = .ow k) ∨ m.k = 0 ∨ N = []) (new : ∀ a, H1 a = none → Hk a = none) :
    LI K Gk G0 fsk Hk N vs m sl1 fs1 H1 p (fun _ _ => False) Gl (wipeD sl1 vs) (L2.wipe σ vs) (upd H1 p (.lst [])) fs1 [] [] [] := by
  have E : Ext H1 (upd H1 p (.lst [])) := Ext.upd hp (szO_lst (Nat.zero_le _))
  have base : LI K Gk G0 fsk Hk N vs m sl1 fs1 H1 p (fun _ _ => False) (wipeG vs G0) (wipeD sl1 vs) (L2.wipe σ vs) (upd H1 p (.lst [])) fs1 [] [] [] := by
    have g : ∀ j, md (wipeG vs G0) j ≠ .no → j ∉ vs ∧ md (wipeG vs G0) j = md G0 j := fun j hj => by
      rw [md_wipeG] at hj ⊢
      by_cases e : j ∈ vs
      · rw [if_pos e] at hj; exact absurd rfl hj
      · rw [if_neg e]; exact ⟨e, rfl⟩
    have S' : SR K (wipeG vs G0) sl1 σ (upd H1 p (.lst [])) fs1 := (S.same E).less fun j => by
      rw [md_wipeG]
      by_cases e : j ∈ vs
      · rw [if_pos e]; exact .inr rfl
      · rw [if_neg e]; exact .inl rfl
    refine ⟨S'.agree (fun j hj => ⟨wipeD_out (g j hj).1, wipe_out (g j hj).1, rfl⟩) (by rw [wipeD_len, wipe_length]; exact S.len), wipeD_len _ _, fun a o e _ => E.same a o e, fun a e => E.same.free e, fun j _ hv => ⟨rfl, wipeD_out hv⟩, fun j hj a ha => .inl ⟨j, hj, ha⟩,
      fun j hj ha => ?_, fun j hj a ha => kn j ?_ a ha, fun j hj => ?_, fun j hj => ?_, (fun _ _ z => z.elim), hp, cv, new, upd_same, .nil, (fun _ z => nomatch z), (fun z => nomatch z), ?_⟩
    · obtain ⟨_, e⟩ := g j hj
      exact S.alive (by rw [← e]; exact hj) ha hp
    · obtain ⟨_, e⟩ := g j hj
      rw [← e]; exact hj
    · obtain ⟨q, e⟩ := g j (own_ne_no hj)
      exact ⟨by rw [← e]; exact hj, q⟩
    · rw [md_wipeG, if_neg (hN j hj).1, ← (hN j hj).2.2]
      exact (hN j hj).2.1
    · cases m with
      | ow k => exact ⟨List.nodup_nil, (fun _ z => nomatch z), (fun _ z => nomatch z)⟩
      | vw k rs => exact ⟨(fun _ z => nomatch z), (fun _ z => nomatch z)⟩
  exact base.weak hl fun j hj => (hN j hj).2.1
theorem LI.fin {M0 : List Nat} {sl0 : Ev} {σ0 : L2.St} {Gl : List Mode} (L : LI K Gk (kill M0 Gk) fsk Hk N vs m sl1 fs1 H1 p U Gl sl (L2.wipe σ0 vs) H fs acc aV fA) (S : SR K (kill M0 Gk) sl1 σ0 H1 fs1) (T : Tr M0 sl0 fsk Hk sl1 fs1 H1) (hM : ∀ j ∈ M0, ∃ k, md Gk j = .ow k)
    (hN : ∀ j ∈ N, j ∉ vs ∧ md Gl j = md (kill M0 Gk) j) : ∃ fs', Out K Gk (M0 ++ N) sl0 σ0 Hk fsk (lcM m) (.lst acc) (putBack sl1 sl vs) (.ref p) H fs' (p :: fA) := by
  obtain ⟨h1, h2, h3, h4, h5⟩ := L.ac
  refine ⟨fun j => if j ∈ vs then fs1 j else fs j, ?_⟩
  have e1 : ∀ j ∈ N, (if j ∈ vs then fs1 j else fs j) = fs j := fun j hj => if_neg (hN j hj).1
  have e2 : ∀ j, j ∉ N → (if j ∈ vs then fs1 j else fs j) = fs1 j := fun j hj => by
    by_cases q : j ∈ vs
    · rw [if_pos q]
    · rw [if_neg q]; exact (L.t3 j hj q).1
  have oN : ∀ j ∈ N, (md (kill M0 Gk) j).own = true := fun j hj => by rw [← (hN j hj).2]; exact L.nown j hj
  have U : Tr N sl1 fs1 H1 (putBack sl1 sl vs) (fun j => if j ∈ vs then fs1 j else fs j) H := by
    refine ⟨L.t1, L.t2, fun j hj => ⟨e2 j hj, ?_⟩, fun j hj a ha => L.t4 j hj a (by rw [← e1 j hj]; exact ha)⟩
    by_cases q : j ∈ vs
    · exact putBack_in L.len q
    · rw [putBack_out q]; exact (L.t3 j hj q).2
  have S2 : SR K (kill N (kill M0 Gk)) (putBack sl1 sl vs) σ0 H (fun j => if j ∈ vs then fs1 j else fs j) := by
    refine S.frame U oN L.sr.sz ((putBack_len _ _ _).trans L.len) (fun j hj => ?_) (fun j hj => ?_) fun i hi j hj ne => ?_
    · obtain ⟨d, v, q1, q2, q3, q4⟩ := L.sr.val j (own_ne_no (L.nown j hj))
      refine ⟨d, v, by rw [putBack_out (hN j hj).1]; exact q1, by rw [wipe_out (hN j hj).1] at q2; exact q2, by rw [e1 j hj]; exact q3, by rw [← (hN j hj).2]; exact q4⟩
    · show (if j ∈ vs then fs1 j else fs j).Nodup
      rw [e1 j hj]; exact L.sr.nd j (L.nown j hj)
    · show ∀ a ∈ (if i ∈ vs then fs1 i else fs i), a ∉ (if j ∈ vs then fs1 j else fs j)
      rw [e1 i hi, e1 j hj]; exact L.sr.dj i j (L.nown i hi) (L.nown j hj) ne
  rw [kill_kill] at S2
  have oo : ∀ j, (md Gk j).own = true → (md (kill M0 Gk) j).own = true := fun j h => by rw [own_kill]; exact h
  have pk : Hk p = none := L.new p L.pn
  have poff : ∀ j, (md Gk j).own = true → p ∉ (if j ∈ vs then fs1 j else fs j) := fun j hj hpj => by
    by_cases q : j ∈ N
    · rw [e1 j q] at hpj
      exact L.off j (own_ne_no (L.nown j q)) hpj
    · rw [e2 j q] at hpj
      exact S.alive (own_ne_no (oo j hj)) hpj L.pn
  refine ⟨S2, T.trans (G := Gk) (K := K) U, .lst h1 h2, by rw [lcM_k]; exact le_mdep_lst h3, ?_⟩
  have nil : m.k = 0 → RMok Gk (M0 ++ N) fsk Hk (fun j => if j ∈ vs then fs1 j else fs j) (p :: fA) (.ow 1) := fun e => by
    have hf : fA = [] := h2.imm_of (by intro d hd; have := h3 d hd; omega)
    subst hf
    refine ⟨by simp, fun a ha => ?_, fun a ha j hj => ?_⟩
    · rw [List.mem_singleton.mp ha]; exact .inl pk
    · rw [List.mem_singleton.mp ha]; exact poff j hj
  unfold lcM
  by_cases h0 : m.k = 0
  · rw [if_pos h0]; exact nil h0
  · rw [if_neg h0]
    cases m with
    | ow k =>
      refine ⟨List.nodup_cons.mpr ⟨h4, h5.1⟩, fun a ha => ?_, fun a ha j hj haj => ?_⟩
      · rcases List.mem_cons.mp ha with e | ha
        · subst e; exact .inl pk
        · rcases h5.2.1 a ha with q | ⟨j, hj, q⟩
          · exact .inl (L.new a q)
          · by_cases hm : j ∈ M0
            · rcases T.t4 j hm a q with ⟨i, hi, z⟩ | z
              · exact .inr ⟨i, List.mem_append_left _ hi, z⟩
              · exact .inl z
            · rw [(T.t3 j hm).1] at q
              exact .inr ⟨j, List.mem_append_right _ hj, q⟩
      · rcases List.mem_cons.mp ha with e | ha
        · subst e; exact poff j hj haj
        · replace haj : a ∈ (if j ∈ vs then fs1 j else fs j) := haj
          by_cases q : j ∈ N
          · rw [e1 j q] at haj
            exact h5.2.2 a ha j q haj
          · rw [e2 j q] at haj
            rcases h5.2.1 a ha with z | ⟨i, hi, z⟩
            · exact S.alive (own_ne_no (oo j hj)) haj z
            · exact S.dj i j (oN i hi) (oo j hj) (fun e => q (e ▸ hi)) a z haj
    | vw k rs =>
      rcases L.cv with ⟨_, e⟩ | e | e
      · cases e
      · exact absurd e h0
      · subst e
        refine ⟨fun a ha j hj haj => ?_, fun a ha => ?_⟩
        · rcases List.mem_cons.mp ha with e | ha
          · subst e; exact absurd haj (poff j hj)
          · replace haj : a ∈ (if j ∈ vs then fs1 j else fs j) := haj
            rw [e2 j (fun z => nomatch z)] at haj
            exact h5.1 a ha j (oo j hj) haj
        · rcases List.mem_cons.mp ha with e | ha
          · subst e; exact .inr pk
          · exact h5.2 a ha
theorem LI.prot {U' : List Addr → Hp → Prop} (L : LI K Gk G0 fsk Hk N vs m sl1 fs1 H1 p U G sl σ H fs acc aV fA) (h : ∀ ufp Hb, U' ufp Hb → PU N p ufp Hb fs H) : LI K Gk G0 fsk Hk N vs m sl1 fs1 H1 p U' G sl σ H fs acc aV fA :=
  ⟨L.sr, L.len, L.t1, L.t2, L.t3, L.t4, L.off, L.kn, L.own, L.nown, h, L.pn, L.cv, L.new, L.ac⟩
theorem LI.less (L : LI K Gk G0 fsk Hk N vs m sl1 fs1 H1 p U G sl σ H fs acc aV fA) (h : ∀ i, md G' i = md G i ∨ md G' i = .no) (hn : ∀ j ∈ N, (md G' j).own = true) : LI K Gk G0 fsk Hk N vs m sl1 fs1 H1 p U G' sl σ H fs acc aV fA :=
  have nn : ∀ {j}, md G' j ≠ .no → md G j = md G' j := fun {j} hj => ((h j).resolve_right hj).symm
  ⟨L.sr.less h, L.len, L.t1, L.t2, L.t3, L.t4, fun j hj => L.off j (by rw [nn hj]; exact hj), fun j hj => L.kn j (by rw [nn hj]; exact hj), fun j hj => L.own j (by rw [nn (own_ne_no hj)]; exact hj), hn, L.pr, L.pn, L.cv, L.new, L.ac⟩
theorem LI.kill {M : List Nat} (L : LI K Gk G0 fsk Hk N vs m sl1 fs1 H1 p U G sl σ H fs acc aV fA) : LI K Gk G0 fsk Hk N vs m sl1 fs1 H1 p U (kill M G) sl σ H fs acc aV fA :=
  L.less (fun j => by
    rw [md_kill]
    by_cases e : killM M (md G j) = .no
    · exact .inr e
    · exact .inl (killM_ne e)) fun j hj => by rw [own_kill]; exact L.nown j hj
theorem LI.wipeS {vs' : List Nat} (L : LI K Gk G0 fsk Hk N vs m sl1 fs1 H1 p U G sl σ H fs acc aV fA) (hv : ∀ j ∈ vs', j ∈ vs) (hN : ∀ j ∈ N, j ∉ vs) : LI K Gk G0 fsk Hk N vs m sl1 fs1 H1 p U (wipeG vs' G) sl σ H fs acc aV fA :=
  L.less (fun j => by
    rw [md_wipeG]
    by_cases e : j ∈ vs'
    · rw [if_pos e]; exact .inr rfl
    · rw [if_neg e]; exact .inl rfl) fun j hj => by
    rw [md_wipeG, if_neg fun z => hN j hj (hv j z)]
    exact L.nown j hj
/-- other slots where nothing is known -/
theorem LI.slots (L : LI K Gk G0 fsk Hk N vs m sl1 fs1 H1 p U G sl σ H fs acc aV fA) (h : ∀ j, md G j ≠ .no → σ'[j]? = σ[j]?) (hl : σ'.length = σ.length) : LI K Gk G0 fsk Hk N vs m sl1 fs1 H1 p U G sl σ' H fs acc aV fA :=
  ⟨L.sr.agree (fun j hj => ⟨rfl, h j hj, rfl⟩) (L.sr.len.trans hl.symm), L.len, L.t1, L.t2, L.t3, L.t4, L.off, L.kn, L.own, L.nown, L.pr, L.pn, L.cv, L.new, L.ac⟩
end

/-! ### a loop that collects -/
def lpF (vs : List Nat) (g : D → Ev → Option Ev) (fb : Ev → Option (List D × Ev)) : List D → Ev → Option (List D × Ev)
  | [], sl => some ([], sl)
  | x :: xs, sl => (g x sl).bind fun s1 => (fb s1).bind fun q => (lpF vs g fb xs (wipeD q.2 vs)).map fun r => (q.1 ++ r.1, r.2)
theorem loopW {Gk G0 : List Mode} {fsk : Nat → List Addr} {Hk : Hp} {N vs : List Nat} {m : RM} {sl1 : Ev} {fs1 : Nat → List Addr} {H1 : Hp} {p : Addr} {U : List Addr → Hp → Prop} {Gl Gt Ge : List Mode} {is vl rs : List Nat} {mk : Nat} {J : It} {items : List D} {ufp : List Addr} {Hb : Hp}
    {g : D → Ev → Option Ev} {fb : Ev → Option (List D × Ev)} {Body : L2.St → Hp → (Hp → Prop) → Prop} {Post : Hp → Prop} {sl s2 : Ev} {σ : L2.St} {H : Hp} {fs : Nat → List Addr} {acc ds : List D} {aV : List V} {fA : List Addr}
    (hN : ∀ j ∈ N, j ∉ vs ∧ (md Gl j).own = true) (his : ∀ j ∈ is, j ∈ vl) (hvl : ∀ j ∈ vl, j ∈ vs) (hw : leS (wipeG vl Ge) Gl = true) (y : Yl K J items ufp Hb) (dep : ∀ d ∈ items, mdep d ≤ mk) (rt : ∀ a ∈ ufp, ∀ j, j ∉ N → (md Gl j).own = true → a ∈ fs1 j → j ∈ rs) (kn : ∀ a ∈ ufp, Kn Gk fsk Hk a)
    (hu : U ufp Hb)
    (hB : ∀ sl σ2 H fs acc aV fA ds s' (Nx : Hp → Prop), LI K Gk G0 fsk Hk N vs m sl1 fs1 H1 p U Gt sl σ2 H fs acc aV fA → fb sl = some (ds, s') → acc.length + ds.length ≤ sizeLine → (∀ H' fs' aV' fA', LI K Gk G0 fsk Hk N vs m sl1 fs1 H1 p U Ge s' σ2 H' fs' (acc ++ ds) aV' fA' → Nx H') → Body σ2 H Nx)
    (L : LI K Gk G0 fsk Hk N vs m sl1 fs1 H1 p U Gl sl (L2.wipe σ vl) H fs acc aV fA) (hf : lpF vl g fb items sl = some (ds, s2)) (hz : acc.length + ds.length ≤ sizeLine)
    (fin : ∀ H' fs' aV' fA', LI K Gk G0 fsk Hk N vs m sl1 fs1 H1 p U Gl s2 (L2.wipe σ vl) H' fs' (acc ++ ds) aV' fA' → Post H') :
    ∃ W : Nat → Nat → Hp → Prop, (∃ n, W 0 n H) ∧ ∀ i n H, W i n H → (J.stop i H ∧ Post H) ∨ (J.go i H ∧ ∃ Nx : Hp → Prop, (∀ H', Nx H' → ∃ m', m' < n ∧ W (i + 1) m' H') ∧ ∀ x H', J.yld i H x H' →
      canG K Gl (.vw mk rs) Gt is g x (L2.wipe σ vl) H' fun σ2 H2 => L2.wipe σ2 vl = L2.wipe σ vl ∧ Body σ2 H2 Nx) := by
  refine ⟨fun i n H2 => n = items.length - i ∧ i ≤ items.length ∧ ∃ sl2 fs2 acc2 aV2 fA2 rest, LI K Gk G0 fsk Hk N vs m sl1 fs1 H1 p U Gl sl2 (L2.wipe σ vl) H2 fs2 acc2 aV2 fA2 ∧ lpF vl g fb (items.drop i) sl2 = some (rest, s2) ∧ acc2 ++ rest = acc ++ ds,
    ⟨items.length, by simp, Nat.zero_le _, sl, fs, acc, aV, fA, ds, L, hf, rfl⟩, ?_⟩
  rintro i n H2 ⟨rfl, hi, sl2, fs2, acc2, aV2, fA2, rest, Lc, hr, ha⟩
  have P2 := Lc.pr _ _ hu
  obtain ⟨yg, ys⟩ := y H2 P2.keep Lc.sr.sz
  by_cases hlt : i < items.length
  · rw [List.drop_eq_getElem_cons hlt] at hr
    obtain ⟨go, yy⟩ := yg i _ (List.getElem?_eq_getElem hlt)
    unfold lpF at hr
    cases h3 : g items[i] sl2 with
    | none => rw [h3] at hr; cases hr
    | some s3 =>
      rw [h3] at hr
      simp only [Option.bind_some] at hr
      cases h4 : fb s3 with
      | none => rw [h4] at hr; cases hr
      | some q =>
        obtain ⟨d3, s4⟩ := q
        rw [h4] at hr
        simp only [Option.bind_some] at hr
        obtain ⟨r, h6, e6⟩ := Option.map_eq_some_iff.mp hr
        obtain ⟨r, s6⟩ := r
        cases e6
        refine .inr ⟨go, fun H3 => ∃ sl2 fs2 acc2 aV2 fA2 rest, LI K Gk G0 fsk Hk N vs m sl1 fs1 H1 p U Gl sl2 (L2.wipe σ vl) H3 fs2 acc2 aV2 fA2 ∧ lpF vl g fb (items.drop (i + 1)) sl2 = some (rest, s6) ∧ acc2 ++ rest = acc ++ ds, fun H3 ⟨a1, a2, a3, a4, a5, a6, a7⟩ => ⟨items.length - (i + 1), by omega, rfl, hlt, a1, a2, a3, a4, a5, a6, a7⟩, fun x H3 y3 => ?_⟩
        obtain ⟨E, fp, rx, sb⟩ := yy x H3 y3
        have L3 := Lc.ext E
        have P3 := L3.pr _ _ hu
        refine ⟨sl2, fs2, items[i], s3, fp, L3.sr, h3, ⟨rx, dep _ (List.getElem_mem hlt), fun a ha' j hj haj => ?_⟩, fun σ3 fs3 S3 Q3 F3 => ?_⟩
        · by_cases hm : j ∈ N
          · exact absurd haj (P3.off a (sb a ha') j hm)
          · rw [(L3.t3 j hm (L3.own j hj).2).1] at haj
            exact rt a (sb a ha') j hm hj haj
        have ew : L2.wipe σ3 vl = L2.wipe σ vl := (wipe_eq F3.len.2 (fun j hj => (F3.out j hj).2.2.2) his).trans wipe_wipe
        have L4 := L3.set (fun j hj => (hN j hj).1) (fun j hj => hvl j (his j hj)) S3 Q3 F3 (fun z => P3.pn (sb p z)) fun a ha' => kn a (sb a ha')
        refine ⟨ew, hB s3 σ3 H3 fs3 acc2 aV2 fA2 d3 s4 _ L4 h4 ?_ fun H' fs' aV' fA' L5 => ?_⟩
        · have e1 := congrArg List.length ha
          simp only [List.length_append] at e1
          omega
        · have L6 := (L5.wipe hvl fun j hj => (hN j hj).1).weak hw fun j hj => (hN j hj).2
          rw [ew] at L6
          exact ⟨_, fs', acc2 ++ d3, aV', fA', r, L6, h6, by rw [List.append_assoc]; exact ha⟩
  · have e : i = items.length := by omega
    subst e
    rw [List.drop_length] at hr
    cases hr
    rw [List.append_nil] at ha
    subst ha
    exact .inl ⟨ys, fin H2 fs2 aV2 fA2 Lc⟩

/-- the innermost turn -/
def bdF (ft : Ev → Option (Bool × Ev)) (fe : Ev → Option (D × Ev)) : Ev → Option (List D × Ev) := fun sl => (ft sl).bind fun q => if q.1 then (fe q.2).map fun r => ([r.1], r.2) else some ([], q.2)
theorem bd_run {Gk G0 : List Mode} {fsk : Nat → List Addr} {Hk : Hp} {N vs : List Nat} {m : RM} {sl1 : Ev} {fs1 : Nat → List Addr} {H1 : Hp} {p : Addr} {U : List Addr → Hp → Prop} {Gt : List Mode} {M1 M2 : List Nat} {ft : Ev → Option (Bool × Ev)} {fe : Ev → Option (D × Ev)}
    (hM1 : ∀ j ∈ M1, ∃ k, md Gt j = .ow k) (hM2 : ∀ j ∈ M2, ∃ k, md (kill M1 Gt) j = .ow k) (s1 : ∀ j ∈ M1, j ∈ N) (s2 : ∀ j ∈ M2, j ∈ N) (hown : m.k = 0 ∨ (∃ k, m = .ow k) ∨ ∀ j, (md G0 j).own = true → (md Gt j).own = true ∨ j ∈ m.rs) :
    ∀ sl σ2 H fs acc aV fA ds s' (Nx : Hp → Prop), LI K Gk G0 fsk Hk N vs m sl1 fs1 H1 p U Gt sl σ2 H fs acc aV fA → bdF ft fe sl = some (ds, s') → acc.length + ds.length ≤ sizeLine → (∀ H' fs' aV' fA', LI K Gk G0 fsk Hk N vs m sl1 fs1 H1 p U (kill M2 (kill M1 Gt)) s' σ2 H' fs' (acc ++ ds) aV' fA' → Nx H') →
      canT K Gt M1 ft σ2 H fun b H3 => if b = true then canE K (kill M1 Gt) m M2 fe σ2 H3 fun y H4 => ∃ acc, H4 p = some (.lst acc) ∧ acc.length < sizeLine ∧ Nx (upd H4 p (.lst (acc ++ [y]))) else Nx H3 := by
  intro sl σ2 H fs acc aV fA ds s' Nx L hf hz hn
  unfold bdF at hf
  cases h1 : ft sl with
  | none => rw [h1] at hf; cases hf
  | some q =>
    obtain ⟨b, s4⟩ := q
    rw [h1] at hf
    simp only [Option.bind_some] at hf
    refine ⟨sl, fs, b, s4, L.sr, h1, fun H4 fs4 S4 T4 => ?_⟩
    have L5 := L.tr hM1 s1 S4 T4 (S4.len.trans L.sr.len.symm)
    cases b with
    | false =>
      simp only [Bool.false_eq_true, if_false] at hf ⊢
      cases hf
      have := hn H4 fs4 aV fA
      rw [List.append_nil] at this
      exact this L5.kill
    | true =>
      simp only [if_true] at hf ⊢
      obtain ⟨r, h5, e5⟩ := Option.map_eq_some_iff.mp hf
      obtain ⟨z, s5⟩ := r
      cases e5
      refine ⟨s4, fs4, z, s5, L5.sr, h5, fun v H5 fs5 fp5 P => ?_⟩
      obtain ⟨q1, q2, L6⟩ := L5.app hM2 s2 P (by
        rcases hown with q | q | q
        · exact .inl q
        · exact .inr (.inl q)
        · exact .inr (.inr fun j hj => by rw [own_kill]; exact q j hj)) (by simp only [List.length_cons, List.length_nil] at hz; omega)
      exact ⟨aV, q1, q2, hn _ fs5 _ _ L6⟩

/-! ### one clause -/
def mLc (vs : List Nat) (fi : Ev → Option (List D × Ev)) (g : D → Ev → Option Ev) (fb : Ev → Option (List D × Ev)) : Ev → Option (D × Ev) := fun sl =>
  (fi sl).bind fun p => (lpF vs g fb p.1 (wipeD p.2 vs)).bind fun r => if r.1.length ≤ sizeLine then some (.lst r.1, putBack p.2 r.2 vs) else none
theorem isOw_own {m : Mode} (h : isOw m = true) : m.own = true := by cases m <;> first | rfl | cases h
theorem isOw_ex {m : Mode} (h : isOw m = true) : ∃ k, m = .ow k := by cases m <;> first | exact ⟨_, rfl⟩ | cases h
def isOwR : RM → Bool
  | .ow _ => true
  | _ => false
def lcOk (vs is M0 M1 M2 rs : List Nat) (G Gl Gt : List Mode) (m : RM) : Bool :=
  vs.all (fun v => (md Gl v).isNo) && is.all (fun j => vs.contains j) && leL (wipeG vs (kill M0 G)) Gl && leL (wipeG vs (kill M2 (kill M1 Gt))) Gl &&
    (M1 ++ M2).all (fun j => !rs.contains j && !vs.contains j && isOw (md Gl j) && decide (md Gl j = md (kill M0 G) j)) &&
    (decide (m.k = 0) || isOwR m || ((M1 ++ M2).isEmpty && (List.range G.length).all fun j => !(md (kill M0 G) j).own || (md Gt j).own || m.rs.contains j))
theorem md_none {G : List Mode} {j : Nat} (h : ¬ j < G.length) : md G j = .no := by
  unfold md
  rw [List.getD_eq_getElem?_getD, List.getElem?_eq_none (by omega)]; rfl
theorem lc_run {X : Cx} {G Gl Gt : List Mode} {mk : Nat} {vs is rs M0 M1 M2 : List Nat} {m : RM} {fi : Ev → Option (List D × Ev)} {g : D → Ev → Option Ev} {ft : Ev → Option (Bool × Ev)} {fe : Ev → Option (D × Ev)}
    (hM0 : ∀ j ∈ M0, ∃ k, md G j = .ow k) (hM1 : ∀ j ∈ M1, ∃ k, md Gt j = .ow k) (hM2 : ∀ j ∈ M2, ∃ k, md (kill M1 Gt) j = .ow k) (ok : lcOk vs is M0 M1 M2 rs G Gl Gt m = true) :
    RunsE X G (lcM m) (M0 ++ (M1 ++ M2)) (mLc vs fi g (bdF ft fe)) (tLc (canI X.K G mk rs M0 fi) (canG X.K Gl (.vw mk rs) Gt is g) (canT X.K Gt M1 ft) (canE X.K (kill M1 Gt) m M2 fe) vs) := by
  unfold lcOk at ok
  simp only [Bool.and_eq_true] at ok
  obtain ⟨⟨⟨⟨⟨o1, o2⟩, o3⟩, o4⟩, o5⟩, o6⟩ := ok
  have c2 : ∀ j ∈ is, j ∈ vs := fun j hj => by simpa using List.all_eq_true.mp o2 j hj
  have c5 : ∀ j ∈ M1 ++ M2, j ∉ rs ∧ j ∉ vs ∧ (md Gl j).own = true ∧ md Gl j = md (kill M0 G) j := fun j hj => by
    have := List.all_eq_true.mp o5 j hj
    simp only [Bool.and_eq_true, decide_eq_true_eq] at this
    obtain ⟨⟨⟨a, b⟩, c⟩, d⟩ := this
    exact ⟨by simpa using a, by simpa using b, isOw_own c, d⟩
  have cv : (∃ k, m = .ow k) ∨ m.k = 0 ∨ M1 ++ M2 = [] := by
    simp only [Bool.or_eq_true, Bool.and_eq_true, decide_eq_true_eq] at o6
    rcases o6 with (z | z) | z
    · exact .inr (.inl z)
    · cases m with
      | ow k => exact .inl ⟨k, rfl⟩
      | vw k rs => cases z
    · exact .inr (.inr (List.isEmpty_iff.mp z.1))
  have hown : m.k = 0 ∨ (∃ k, m = .ow k) ∨ ∀ j, (md (kill M0 G) j).own = true → (md Gt j).own = true ∨ j ∈ m.rs := by
    simp only [Bool.or_eq_true, Bool.and_eq_true, decide_eq_true_eq] at o6
    rcases o6 with (z | z) | z
    · exact .inl z
    · cases m with
      | ow k => exact .inr (.inl ⟨k, rfl⟩)
      | vw k rs => cases z
    · refine .inr (.inr fun j hj => ?_)
      by_cases hl : j < G.length
      · have := List.all_eq_true.mp z.2 j (List.mem_range.mpr hl)
        simp only [Bool.or_eq_true] at this
        rcases this with (q | q) | q
        · rw [hj] at q; cases q
        · exact .inl q
        · exact .inr (by simpa using q)
      · rw [own_kill] at hj
        unfold md at hj
        rw [List.getD_eq_getElem?_getD, List.getElem?_eq_none (by omega)] at hj
        cases hj
  intro sl σ H fs d sl' Q S hf hq
  unfold mLc at hf
  cases h1 : fi sl with
  | none => rw [h1] at hf; cases hf
  | some q =>
    obtain ⟨items, s1⟩ := q
    rw [h1] at hf
    simp only [Option.bind_some] at hf
    cases h2 : lpF vs g (bdF ft fe) items (wipeD s1 vs) with
    | none => rw [h2] at hf; cases hf
    | some q =>
      obtain ⟨ds, s2⟩ := q
      rw [h2] at hf
      simp only [Option.bind_some] at hf
      split at hf
      · rename_i hz
        cases hf
        refine ⟨sl, fs, items, s1, S, h1, fun J H1 fs1 ufp O => fun p hp => ?_⟩
        have L0 := (LI.start (K := X.K) (Gk := G) (fsk := fs) (Hk := H) (m := m) (N := M1 ++ M2) O.sr hp (fun j hj => (c5 j hj).2) (leL_and o3).1 (fun j hj a ha => Kn.early hM0 O.tr (.inl ⟨j, hj, ha⟩)) cv fun a h => O.tr.t2 a h).prot (U' := fun a b => a = ufp ∧ b = H1) fun a b ⟨e1, e2⟩ => by
          subst e1 e2
          refine ⟨fun a o e _ => by rw [upd_ne (fun z => by subst z; rw [hp] at e; cases e)]; exact e, fun b hb z => ?_, fun b hb j hj hbj => ?_, fun z => O.al p z hp, fun o e => by rw [hp] at e; cases e⟩
          · by_cases e : b = p
            · rw [e, upd_same] at z; cases z
            · rw [upd_ne e] at z; exact O.al b hb z
          · have oj : (md (kill M0 G) j).own = true := by rw [← (c5 j hj).2.2.2]; exact (c5 j hj).2.2.1
            exact (c5 j hj).1 (O.rt b hb j (by rw [own_kill] at oj; exact oj) hbj)
        have og : ∀ j, (md Gl j).own = true → (md G j).own = true := fun j hj => by
          have := (leS_at (leL_and o3).1 j).elim (fun z => (leM_own (leM_leX z) hj).1) fun z => by rw [z] at hj; cases hj
          rw [md_wipeG] at this
          by_cases e : j ∈ vs
          · rw [if_pos e] at this; cases this
          · rw [if_neg e, own_kill] at this; exact this
        refine loopW (fun j hj => ⟨(c5 j hj).2.1, (c5 j hj).2.2.1⟩) c2 (fun _ h => h) (leL_and o4).1 O.yl O.dep (fun a ha j _ hj haj => O.rt a ha j (og j hj) haj) O.kn ⟨rfl, rfl⟩ (bd_run hM1 hM2 (fun j hj => List.mem_append_left _ hj) (fun j hj => List.mem_append_right _ hj) hown) L0 h2 (by simpa using hz) fun H' fs' aV' fA' L' => ?_
        obtain ⟨fs2, O'⟩ := L'.fin O.sr O.tr hM0 fun j hj => ⟨(c5 j hj).2.1, (c5 j hj).2.2.2⟩
        exact hq _ _ _ _ O'
      · cases hf
end
/-- [elt for tg in iter if ..] as a value -/
theorem de_lc {X : Cx} {G Gl Gt : List Mode} {mk : Nat} {is rs M0 M1 M2 : List Nat} {m : RM} {fi : Ev → Option (List D × Ev)} {g : D → Ev → Option Ev} {ft : Ev → Option (Bool × Ev)} {fe : Ev → Option (D × Ev)} {elt tg iter : Expr} {ifs : List Expr} {scope : Scope} {own : List (Str × Nat)} {pos : Pos}
    (hc : X.calm = true) (hN : X.N.Nodup) (bk : blkC X.N X.env.scope scope own = true) (I : DI X G tg iter mk rs M0 fi)
    (hg : ∀ (s : Shared) (H : Hp) (C : Addr) (cl : List (Str × Addr)) (fp : List Addr), DG (X.blk s H scope (compEnvC scope cl C X.env) fp) Gl tg (.vw mk rs) Gt is g)
    (ht : ∀ (s : Shared) (H : Hp) (C : Addr) (cl : List (Str × Addr)) (fp : List Addr), DTs (X.blk s H scope (compEnvC scope cl C X.env) fp) Gt ifs M1 ft)
    (he : ∀ (s : Shared) (H : Hp) (C : Addr) (cl : List (Str × Addr)) (fp : List Addr), DE (X.blk s H scope (compEnvC scope cl C X.env) fp) (kill M1 Gt) elt m M2 fe)
    (ok : lcOk (own.map (·.2)) is M0 M1 M2 rs G Gl Gt m = true := by first | rfl | decide) (hs : ∀ x, foldedSetIterable iter X.env x = pure x := by intro _; rfl) :
    DE X G (.ListComp elt [⟨tg, iter, ifs, 0⟩] scope pos) (lcM m) (M0 ++ (M1 ++ M2)) (mLc (own.map (·.2)) fi g (bdF ft fe)) := by
  have hM : ∀ j ∈ M1 ++ M2, ∃ k, md (kill M0 G) j = .ow k := fun j hj => by
    unfold lcOk at ok
    simp only [Bool.and_eq_true] at ok
    have := List.all_eq_true.mp ok.1.2 j hj
    simp only [Bool.and_eq_true, decide_eq_true_eq] at this
    rw [← this.2]
    exact isOw_ex this.1.2
  have hM1 : ∀ j ∈ M1, ∃ k, md Gt j = .ow k := (ht X.s_0 X.H_0 0 [] []).hM
  have hM2 : ∀ j ∈ M2, ∃ k, md (kill M1 Gt) j = .ow k := (he X.s_0 X.H_0 0 [] []).hM
  exact ⟨hM_append I.hM hM, _, pe_lc (wi := canI X.K G mk rs M0 fi) (g := canG X.K Gl (.vw mk rs) Gt is g) (tt := canT X.K Gt M1 ft) (te := canE X.K (kill M1 Gt) m M2 fe) hc hN I.can (blkOk_by bk) (fun s H C cl fp => (hg s H C cl fp).can) (fun s H C cl fp => (ht s H C cl fp).can) (fun s H C cl fp => (he s H C cl fp).can) hs, lc_run I.hM hM1 hM2 ok⟩
theorem RunsE.outv {X : Cx} {G : List Mode} {m : RM} {M : List Nat} {f : Ev → Option (D × Ev)} {t : TE} (hM : ∀ j ∈ M, ∃ k, md G j = .ow k) (r : RunsE X G m M f t) :
    ∀ sl σ H fs d sl' (Q : VK), SR X.K G sl σ H fs → f sl = some (d, sl') → (∀ v H' fs' fp, OutV X.K G σ H fs m d (kill M G) sl' v H' fs' fp → Q v H') → t σ H Q :=
  fun sl σ H fs d sl' Q S hf hq => r sl σ H fs d sl' Q S hf fun v H' fs' fp O => hq v H' fs' fp ⟨O.sr, O.tr.ts hM, O.gin S hM, fun ⟨k, e⟩ a ha => by
    have ok := O.ok
    rw [e] at ok
    rcases ok.2.1 a ha with q | ⟨j, hj, q⟩
    · exact .inr q
    · obtain ⟨k', hk⟩ := hM j hj
      exact .inl ⟨j, by rw [hk]; rfl, q⟩, O.ok.kn hM⟩
/-- name = [..] on one line, the name a local -/
theorem ds_setLc {X : Cx} {R : RetS} {Gb Gc : List Mode} {G Gl Gt : List Mode} {mk : Nat} {is rs M0 M1 M2 : List Nat} {m : RM} {fi : Ev → Option (List D × Ev)} {g : D → Ev → Option Ev} {ft : Ev → Option (Bool × Ev)} {fe : Ev → Option (D × Ev)} {elt tg iter : Expr} {ifs : List Expr} {scope : Scope} {own : List (Str × Nat)} {pos py spos : Pos} {i : Nat} {y : Str}
    (hc : X.calm = true) (hN : X.N.Nodup) (hi : (decide (i < G.length) && notLk (md (kill (M0 ++ (M1 ++ M2)) G) i)) = true) (hy : X.N[i]? = some y) (hyl : X.env.scope.names.lookup y = some .local)
    (hsw : swapsWith (.ListComp elt [⟨tg, iter, ifs, 0⟩] scope pos) (some (.Name y py)) spos.line X.env = pure true) (bk : blkC X.N X.env.scope scope own = true) (I : DI X G tg iter mk rs M0 fi)
    (hg : ∀ (s : Shared) (H : Hp) (C : Addr) (cl : List (Str × Addr)) (fp : List Addr), DG (X.blk s H scope (compEnvC scope cl C X.env) fp) Gl tg (.vw mk rs) Gt is g)
    (ht : ∀ (s : Shared) (H : Hp) (C : Addr) (cl : List (Str × Addr)) (fp : List Addr), DTs (X.blk s H scope (compEnvC scope cl C X.env) fp) Gt ifs M1 ft)
    (he : ∀ (s : Shared) (H : Hp) (C : Addr) (cl : List (Str × Addr)) (fp : List Addr), DE (X.blk s H scope (compEnvC scope cl C X.env) fp) (kill M1 Gt) elt m M2 fe)
    (ok : lcOk (own.map (·.2)) is M0 M1 M2 rs G Gl Gt m = true := by first | rfl | decide) (hs : ∀ x, foldedSetIterable iter X.env x = pure x := by intro _; rfl) (hfx : R.fx.contains i = false := by rfl) :
    DS X R G (.Assign [.Name y py] (.ListComp elt [⟨tg, iter, ifs, 0⟩] scope pos) spos) ((kill (M0 ++ (M1 ++ M2)) G).set i (toM (lcM m))) Gb Gc (sAsg (mLc (own.map (·.2)) fi g (bdF ft fe)) (gSet i)) := by
  have A := de_lc (pos := pos) hc hN bk I hg ht he ok hs
  have hM1 : ∀ j ∈ M1, ∃ k, md Gt j = .ow k := (ht X.s_0 X.H_0 0 [] []).hM
  have hM2 : ∀ j ∈ M2, ∃ k, md (kill M1 Gt) j = .ow k := (he X.s_0 X.H_0 0 [] []).hM
  refine ⟨_, ps_setLc (wi := canI X.K G mk rs M0 fi) (g := canG X.K Gl (.vw mk rs) Gt is g) (tt := canT X.K Gt M1 ft) (te := canE X.K (kill M1 Gt) m M2 fe) hc hN hy hyl hsw I.can (blkOk_by bk) (fun s H C cl fp => (hg s H C cl fp).can) (fun s H C cl fp => (ht s H C cl fp).can) (fun s H C cl fp => (he s H C cl fp).can) hs, fun sl σ H fs fl Dn S h P => ?_⟩
  refine set_run (RunsE.outv A.hM (lc_run I.hM hM1 hM2 ok)) (by rw [Bool.and_eq_true, decide_eq_true_eq] at hi ⊢; exact ⟨by rw [kill_len]; exact hi.1, hi.2⟩) hfx S h P
end Dw
/-! Dw, part L: list comprehensions of two clauses. -/
namespace Dw
open PySem PySem.Spec PyProof.Rows L2

/-- the first clause's turn -/
def bd2F (vs1 : List Nat) (ft : Ev → Option (Bool × Ev)) (f1 : Ev → Option (List D × Ev)) (g1 : D → Ev → Option Ev) (fb : Ev → Option (List D × Ev)) : Ev → Option (List D × Ev) := fun sl => (ft sl).bind fun q => if q.1 then (f1 q.2).bind fun r => lpF vs1 g1 fb r.1 (wipeD r.2 vs1) else some ([], q.2)
def lc2Ok (vs vs1 is is1 M0 M1 M3 M4 M5 rs rs1 : List Nat) (G Gl Gt Gl1 Gt1 : List Mode) (m : RM) : Bool :=
  vs.all (fun v => (md Gl v).isNo) && vs1.all (fun v => (md Gl1 v).isNo) && is.all (fun j => vs.contains j) && vs1.all (fun j => vs.contains j) && is1.all (fun j => vs1.contains j) &&
    leL (wipeG vs (kill M0 G)) Gl && leL (wipeG vs1 (kill M3 (kill M1 Gt))) Gl1 && leL (wipeG vs1 (kill M5 (kill M4 Gt1))) Gl1 && leL (wipeG vs Gl1) Gl &&
    (M1 ++ (M3 ++ (M4 ++ M5))).all (fun j => !rs.contains j && !rs1.contains j && !vs.contains j && isOw (md Gl j) && decide (md Gl j = md (kill M0 G) j) && (md Gl1 j).own) &&
    (decide (m.k = 0) || isOwR m || ((M1 ++ (M3 ++ (M4 ++ M5))).isEmpty && (List.range G.length).all fun j => !(md (kill M0 G) j).own || (md Gt1 j).own || m.rs.contains j))
theorem lc2_run {X : Cx} {G Gl Gt Gl1 Gt1 : List Mode} {mk mk1 : Nat} {vs vs1 is is1 rs rs1 M0 M1 M3 M4 M5 : List Nat} {m : RM} {fi f1 : Ev → Option (List D × Ev)} {g g1 : D → Ev → Option Ev} {ft ft1 : Ev → Option (Bool × Ev)} {fe : Ev → Option (D × Ev)}
    (hM0 : ∀ j ∈ M0, ∃ k, md G j = .ow k) (hM1 : ∀ j ∈ M1, ∃ k, md Gt j = .ow k) (hM3 : ∀ j ∈ M3, ∃ k, md (kill M1 Gt) j = .ow k) (hM4 : ∀ j ∈ M4, ∃ k, md Gt1 j = .ow k) (hM5 : ∀ j ∈ M5, ∃ k, md (kill M4 Gt1) j = .ow k)
    (ok : lc2Ok vs vs1 is is1 M0 M1 M3 M4 M5 rs rs1 G Gl Gt Gl1 Gt1 m = true) :
    RunsE X G (lcM m) (M0 ++ (M1 ++ (M3 ++ (M4 ++ M5)))) (mLc vs fi g (bd2F vs1 ft f1 g1 (bdF ft1 fe)))
      (tLc2 (canI X.K G mk rs M0 fi) (canG X.K Gl (.vw mk rs) Gt is g) (canT X.K Gt M1 ft) (canI X.K (kill M1 Gt) mk1 rs1 M3 f1) (canG X.K Gl1 (.vw mk1 rs1) Gt1 is1 g1) (canT X.K Gt1 M4 ft1) (canE X.K (kill M4 Gt1) m M5 fe) vs vs1) := by
  unfold lc2Ok at ok
  simp only [Bool.and_eq_true] at ok
  obtain ⟨⟨⟨⟨⟨⟨⟨⟨⟨⟨o1, o11⟩, o2⟩, o21⟩, o22⟩, o3⟩, o31⟩, o4⟩, o41⟩, o5⟩, o6⟩ := ok
  have c2 : ∀ j ∈ is, j ∈ vs := fun j hj => by simpa using List.all_eq_true.mp o2 j hj
  have c21 : ∀ j ∈ vs1, j ∈ vs := fun j hj => by simpa using List.all_eq_true.mp o21 j hj
  have c22 : ∀ j ∈ is1, j ∈ vs1 := fun j hj => by simpa using List.all_eq_true.mp o22 j hj
  have c11 : ∀ j ∈ vs1, md Gl1 j = .no := fun j hj => by
    have := List.all_eq_true.mp o11 j hj
    cases e : md Gl1 j <;> rw [e] at this <;> first | rfl | cases this
  generalize hNN : M1 ++ (M3 ++ (M4 ++ M5)) = N at o5 o6 ⊢
  have n1 : ∀ j ∈ M1, j ∈ N := fun j h => by rw [← hNN]; simp [h]
  have n3 : ∀ j ∈ M3, j ∈ N := fun j h => by rw [← hNN]; simp [h]
  have n4 : ∀ j ∈ M4, j ∈ N := fun j h => by rw [← hNN]; simp [h]
  have n5 : ∀ j ∈ M5, j ∈ N := fun j h => by rw [← hNN]; simp [h]
  have c5 : ∀ j ∈ N, j ∉ rs ∧ j ∉ rs1 ∧ j ∉ vs ∧ (md Gl j).own = true ∧ md Gl j = md (kill M0 G) j ∧ (md Gl1 j).own = true := fun j hj => by
    have := List.all_eq_true.mp o5 j hj
    simp only [Bool.and_eq_true, decide_eq_true_eq] at this
    obtain ⟨⟨⟨⟨⟨a, a'⟩, b⟩, c⟩, d⟩, e⟩ := this
    exact ⟨by simpa using a, by simpa using a', by simpa using b, isOw_own c, d, e⟩
  have cv : (∃ k, m = .ow k) ∨ m.k = 0 ∨ N = [] := by
    simp only [Bool.or_eq_true, Bool.and_eq_true, decide_eq_true_eq] at o6
    rcases o6 with (z | z) | z
    · exact .inr (.inl z)
    · cases m with
      | ow k => exact .inl ⟨k, rfl⟩
      | vw k rs => cases z
    · exact .inr (.inr (List.isEmpty_iff.mp z.1))
  have hown : m.k = 0 ∨ (∃ k, m = .ow k) ∨ ∀ j, (md (kill M0 G) j).own = true → (md Gt1 j).own = true ∨ j ∈ m.rs := by
    simp only [Bool.or_eq_true, Bool.and_eq_true, decide_eq_true_eq] at o6
    rcases o6 with (z | z) | z
    · exact .inl z
    · cases m with
      | ow k => exact .inr (.inl ⟨k, rfl⟩)
      | vw k rs => cases z
    · refine .inr (.inr fun j hj => ?_)
      by_cases hl : j < G.length
      · have := List.all_eq_true.mp z.2 j (List.mem_range.mpr hl)
        simp only [Bool.or_eq_true] at this
        rcases this with (q | q) | q
        · rw [hj] at q; cases q
        · exact .inl q
        · exact .inr (by simpa using q)
      · rw [own_kill, md_none hl] at hj
        cases hj
  intro sl σ H fs d sl' Q S hf hq
  unfold mLc at hf
  cases h1 : fi sl with
  | none => rw [h1] at hf; cases hf
  | some q =>
    obtain ⟨items, s1⟩ := q
    rw [h1] at hf
    simp only [Option.bind_some] at hf
    cases h2 : lpF vs g (bd2F vs1 ft f1 g1 (bdF ft1 fe)) items (wipeD s1 vs) with
    | none => rw [h2] at hf; cases hf
    | some q =>
      obtain ⟨ds, s2⟩ := q
      rw [h2] at hf
      simp only [Option.bind_some] at hf
      split at hf
      · rename_i hz
        cases hf
        refine ⟨sl, fs, items, s1, S, h1, fun J H1 fs1 ufp O => fun p hp => ?_⟩
        have L0 := (LI.start (K := X.K) (Gk := G) (fsk := fs) (Hk := H) (m := m) (N := N) (vs := vs) O.sr hp (fun j hj => ⟨(c5 j hj).2.2.1, (c5 j hj).2.2.2.1, (c5 j hj).2.2.2.2.1⟩) (leL_and o3).1 (fun j hj a ha => Kn.early hM0 O.tr (.inl ⟨j, hj, ha⟩)) cv fun a h => O.tr.t2 a h).prot (U' := fun a b => a = ufp ∧ b = H1) fun a b ⟨e1, e2⟩ => by
          subst e1 e2
          refine ⟨fun a o e _ => by rw [upd_ne (fun z => by subst z; rw [hp] at e; cases e)]; exact e, fun b hb z => ?_, fun b hb j hj hbj => ?_, fun z => O.al p z hp, fun o e => by rw [hp] at e; cases e⟩
          · by_cases e : b = p
            · rw [e, upd_same] at z; cases z
            · rw [upd_ne e] at z; exact O.al b hb z
          · have oj : (md (kill M0 G) j).own = true := by rw [← (c5 j hj).2.2.2.2.1]; exact (c5 j hj).2.2.2.1
            exact (c5 j hj).1 (O.rt b hb j (by rw [own_kill] at oj; exact oj) hbj)
        have og : ∀ j, (md Gl j).own = true → (md G j).own = true := fun j hj => by
          have := (leS_at (leL_and o3).1 j).elim (fun z => (leM_own (leM_leX z) hj).1) fun z => by rw [z] at hj; cases hj
          rw [md_wipeG] at this
          by_cases e : j ∈ vs
          · rw [if_pos e] at this; cases this
          · rw [if_neg e, own_kill] at this; exact this
        have og1 : ∀ j, (md Gl1 j).own = true → (md (kill M1 Gt) j).own = true := fun j hj => by
          have := (leS_at (leL_and o31).1 j).elim (fun z => (leM_own (leM_leX z) hj).1) fun z => by rw [z] at hj; cases hj
          rw [md_wipeG] at this
          by_cases e : j ∈ vs1
          · rw [if_pos e] at this; cases this
          · rw [if_neg e, own_kill] at this; exact this
        refine loopW (Ge := Gl1) (fun j hj => ⟨(c5 j hj).2.2.1, (c5 j hj).2.2.2.1⟩) c2 (fun _ h => h) (leL_and o41).1 O.yl O.dep (fun a ha j _ hj haj => O.rt a ha j (og j hj) haj) O.kn ⟨rfl, rfl⟩ ?_ L0 h2 (by simpa using hz) fun H' fs' aV' fA' L' => ?_
        rotate_left
        · obtain ⟨fs2, O'⟩ := L'.fin O.sr O.tr hM0 fun j hj => ⟨(c5 j hj).2.2.1, (c5 j hj).2.2.2.2.1⟩
          exact hq _ _ _ _ O'
        intro sl2 σ2 H2 fs2 acc aV fA ds2 s3 Nx L hfb hz2 hn
        unfold bd2F at hfb
        cases h3 : ft sl2 with
        | none => rw [h3] at hfb; cases hfb
        | some q =>
          obtain ⟨b, s4⟩ := q
          rw [h3] at hfb
          simp only [Option.bind_some] at hfb
          refine ⟨sl2, fs2, b, s4, L.sr, h3, fun H4 fs4 S4 T4 => ?_⟩
          have L5 := L.tr hM1 n1 S4 T4 (S4.len.trans L.sr.len.symm)
          cases b with
          | false =>
            simp only [Bool.false_eq_true, if_false] at hfb ⊢
            cases hfb
            have := hn H4 fs4 aV fA
            rw [List.append_nil] at this
            exact this ((L5.kill.wipeS c21 fun j hj => (c5 j hj).2.2.1).weak (leL_and o31).1 fun j hj => (c5 j hj).2.2.2.2.2)
          | true =>
            simp only [if_true] at hfb ⊢
            cases h4 : f1 s4 with
            | none => rw [h4] at hfb; cases hfb
            | some q =>
              obtain ⟨items1, s5⟩ := q
              rw [h4] at hfb
              simp only [Option.bind_some] at hfb
              refine ⟨s4, fs4, items1, s5, L5.sr, h4, fun J1 H5 fs5 ufp1 O1 => ?_⟩
              have L6 := L5.tr hM3 n3 O1.sr O1.tr (O1.sr.len.trans L5.sr.len.symm)
              have L7 := ((L6.wipe c21 fun j hj => (c5 j hj).2.2.1).weak (leL_and o31).1 fun j hj => (c5 j hj).2.2.2.2.2).prot (U' := fun a b => (a = ufp ∧ b = H1) ∨ (a = ufp1 ∧ b = H5)) fun a b e => by
                rcases e with e | ⟨e1, e2⟩
                · exact L6.pr a b e
                · subst e1 e2
                  refine ⟨fun a o e _ => e, O1.al, fun b hb j hj hbj => ?_, fun z => ?_, fun o e => ?_⟩
                  · exact (c5 j hj).2.1 (O1.rt b hb j (og1 j (c5 j hj).2.2.2.2.2) hbj)
                  · rcases O1.kn p z with ⟨i, hi, q⟩ | q
                    · exact L5.off i hi q
                    · rw [L5.ac.1] at q; cases q
                  · rw [L6.ac.1] at e; cases e; rfl
              refine loopW (Gt := Gt1) (fun j hj => ⟨(c5 j hj).2.2.1, (c5 j hj).2.2.2.2.2⟩) c22 c21 (leL_and o4).1 O1.yl O1.dep (fun a ha j hj ho haj => ?_) (fun a ha => ?_) (.inr ⟨rfl, rfl⟩) (bd_run hM4 hM5 n4 n5 hown) L7 hfb hz2 fun H' fs' aV' fA' L' => ?_
              · refine O1.rt a ha j (og1 j ho) ?_
                rw [(L6.t3 j hj (L7.own j ho).2).1]; exact haj
              · rcases O1.kn a ha with ⟨i, hi, q⟩ | q
                · exact L5.kn i hi a q
                · exact .inr (L5.new a (L5.t2 a q))
              · refine hn H' fs' aV' fA' ((L'.prot (U' := fun a b => a = ufp ∧ b = H1) fun a b e => L'.pr a b (.inl e)).slots (fun j hj => ?_) (wipe_length _ _).symm)
                exact (wipe_out fun z => hj (c11 j z)).symm
      · cases hf
section
variable {X : Cx} {G Gl Gt Gl1 Gt1 : List Mode} {mk mk1 : Nat} {vs1 is is1 rs rs1 M0 M1 M3 M4 M5 : List Nat} {m : RM} {fi f1 : Ev → Option (List D × Ev)} {g g1 : D → Ev → Option Ev} {ft ft1 : Ev → Option (Bool × Ev)} {fe : Ev → Option (D × Ev)} {elt tg iter tg1 iter1 : Expr} {ifs ifs1 : List Expr} {scope : Scope} {own : List (Str × Nat)} {pos : Pos}
theorem lc2_hM (I : DI X G tg iter mk rs M0 fi) (ok : lc2Ok (own.map (·.2)) vs1 is is1 M0 M1 M3 M4 M5 rs rs1 G Gl Gt Gl1 Gt1 m = true) : ∀ j ∈ M0 ++ (M1 ++ (M3 ++ (M4 ++ M5))), ∃ k, md G j = .ow k := by
  refine hM_append I.hM fun j hj => ?_
  unfold lc2Ok at ok
  simp only [Bool.and_eq_true] at ok
  have := List.all_eq_true.mp ok.1.2 j hj
  simp only [Bool.and_eq_true, decide_eq_true_eq] at this
  rw [← this.1.2]
  exact isOw_ex this.1.1.2
theorem de_lc2 (hc : X.calm = true) (hN : X.N.Nodup) (bk : blkC X.N X.env.scope scope own = true) (I : DI X G tg iter mk rs M0 fi)
    (hg : ∀ (s : Shared) (H : Hp) (C : Addr) (cl : List (Str × Addr)) (fp : List Addr), DG (X.blk s H scope (compEnvC scope cl C X.env) fp) Gl tg (.vw mk rs) Gt is g)
    (ht : ∀ (s : Shared) (H : Hp) (C : Addr) (cl : List (Str × Addr)) (fp : List Addr), DTs (X.blk s H scope (compEnvC scope cl C X.env) fp) Gt ifs M1 ft)
    (hi1 : ∀ (s : Shared) (H : Hp) (C : Addr) (cl : List (Str × Addr)) (fp : List Addr), DI (X.blk s H scope (compEnvC scope cl C X.env) fp) (kill M1 Gt) tg1 iter1 mk1 rs1 M3 f1)
    (hg1 : ∀ (s : Shared) (H : Hp) (C : Addr) (cl : List (Str × Addr)) (fp : List Addr), DG (X.blk s H scope (compEnvC scope cl C X.env) fp) Gl1 tg1 (.vw mk1 rs1) Gt1 is1 g1)
    (ht1 : ∀ (s : Shared) (H : Hp) (C : Addr) (cl : List (Str × Addr)) (fp : List Addr), DTs (X.blk s H scope (compEnvC scope cl C X.env) fp) Gt1 ifs1 M4 ft1)
    (he : ∀ (s : Shared) (H : Hp) (C : Addr) (cl : List (Str × Addr)) (fp : List Addr), DE (X.blk s H scope (compEnvC scope cl C X.env) fp) (kill M4 Gt1) elt m M5 fe)
    (ok : lc2Ok (own.map (·.2)) vs1 is is1 M0 M1 M3 M4 M5 rs rs1 G Gl Gt Gl1 Gt1 m = true := by first | rfl | decide) (hs : ∀ x, foldedSetIterable iter X.env x = pure x := by intro _; rfl) (hs1 : ∀ env x, foldedSetIterable iter1 env x = pure x := by intro _ _; rfl) :
    DE X G (.ListComp elt [⟨tg, iter, ifs, 0⟩, ⟨tg1, iter1, ifs1, 0⟩] scope pos) (lcM m) (M0 ++ (M1 ++ (M3 ++ (M4 ++ M5)))) (mLc (own.map (·.2)) fi g (bd2F vs1 ft f1 g1 (bdF ft1 fe))) := by
  have hv : ∀ i ∈ vs1, i ∈ own.map (·.2) := by
    have ok' := ok
    unfold lc2Ok at ok'
    simp only [Bool.and_eq_true] at ok'
    exact fun j hj => by simpa using List.all_eq_true.mp ok'.1.1.1.1.1.1.1.2 j hj
  exact ⟨lc2_hM I ok, _, pe_lc2 (wi := canI X.K G mk rs M0 fi) (g := canG X.K Gl (.vw mk rs) Gt is g) (tt := canT X.K Gt M1 ft) (wi1 := canI X.K (kill M1 Gt) mk1 rs1 M3 f1) (g1 := canG X.K Gl1 (.vw mk1 rs1) Gt1 is1 g1) (tt1 := canT X.K Gt1 M4 ft1) (te := canE X.K (kill M4 Gt1) m M5 fe) hc hN I.can (blkOk_by bk) hv
    (fun s H C cl fp => (hg s H C cl fp).can) (fun s H C cl fp => (ht s H C cl fp).can) (fun s H C cl fp => (hi1 s H C cl fp).can) (fun s H C cl fp => (hg1 s H C cl fp).can) (fun s H C cl fp => (ht1 s H C cl fp).can) (fun s H C cl fp => (he s H C cl fp).can) hs hs1,
    lc2_run I.hM (ht X.s_0 X.H_0 0 [] []).hM (hi1 X.s_0 X.H_0 0 [] []).hM (ht1 X.s_0 X.H_0 0 [] []).hM (he X.s_0 X.H_0 0 [] []).hM ok⟩
theorem ds_setLc2 {R : RetS} {Gb Gc : List Mode} {py spos : Pos} {i : Nat} {y : Str} (hc : X.calm = true) (hN : X.N.Nodup) (hi : (decide (i < G.length) && notLk (md (kill (M0 ++ (M1 ++ (M3 ++ (M4 ++ M5)))) G) i)) = true) (hy : X.N[i]? = some y) (hyl : X.env.scope.names.lookup y = some .local)
    (hsw : swapsWith (.ListComp elt [⟨tg, iter, ifs, 0⟩, ⟨tg1, iter1, ifs1, 0⟩] scope pos) (some (.Name y py)) spos.line X.env = pure true) (bk : blkC X.N X.env.scope scope own = true) (I : DI X G tg iter mk rs M0 fi)
    (hg : ∀ (s : Shared) (H : Hp) (C : Addr) (cl : List (Str × Addr)) (fp : List Addr), DG (X.blk s H scope (compEnvC scope cl C X.env) fp) Gl tg (.vw mk rs) Gt is g)
    (ht : ∀ (s : Shared) (H : Hp) (C : Addr) (cl : List (Str × Addr)) (fp : List Addr), DTs (X.blk s H scope (compEnvC scope cl C X.env) fp) Gt ifs M1 ft)
    (hi1 : ∀ (s : Shared) (H : Hp) (C : Addr) (cl : List (Str × Addr)) (fp : List Addr), DI (X.blk s H scope (compEnvC scope cl C X.env) fp) (kill M1 Gt) tg1 iter1 mk1 rs1 M3 f1)
    (hg1 : ∀ (s : Shared) (H : Hp) (C : Addr) (cl : List (Str × Addr)) (fp : List Addr), DG (X.blk s H scope (compEnvC scope cl C X.env) fp) Gl1 tg1 (.vw mk1 rs1) Gt1 is1 g1)
    (ht1 : ∀ (s : Shared) (H : Hp) (C : Addr) (cl : List (Str × Addr)) (fp : List Addr), DTs (X.blk s H scope (compEnvC scope cl C X.env) fp) Gt1 ifs1 M4 ft1)
    (he : ∀ (s : Shared) (H : Hp) (C : Addr) (cl : List (Str × Addr)) (fp : List Addr), DE (X.blk s H scope (compEnvC scope cl C X.env) fp) (kill M4 Gt1) elt m M5 fe)
    (ok : lc2Ok (own.map (·.2)) vs1 is is1 M0 M1 M3 M4 M5 rs rs1 G Gl Gt Gl1 Gt1 m = true := by first | rfl | decide) (hs : ∀ x, foldedSetIterable iter X.env x = pure x := by intro _; rfl) (hs1 : ∀ env x, foldedSetIterable iter1 env x = pure x := by intro _ _; rfl) (hfx : R.fx.contains i = false := by rfl) :
    DS X R G (.Assign [.Name y py] (.ListComp elt [⟨tg, iter, ifs, 0⟩, ⟨tg1, iter1, ifs1, 0⟩] scope pos) spos) ((kill (M0 ++ (M1 ++ (M3 ++ (M4 ++ M5)))) G).set i (toM (lcM m))) Gb Gc (sAsg (mLc (own.map (·.2)) fi g (bd2F vs1 ft f1 g1 (bdF ft1 fe))) (gSet i)) := by
  have hv : ∀ i ∈ vs1, i ∈ own.map (·.2) := by
    have ok' := ok
    unfold lc2Ok at ok'
    simp only [Bool.and_eq_true] at ok'
    exact fun j hj => by simpa using List.all_eq_true.mp ok'.1.1.1.1.1.1.1.2 j hj
  refine ⟨_, ps_setLc2 (wi := canI X.K G mk rs M0 fi) (g := canG X.K Gl (.vw mk rs) Gt is g) (tt := canT X.K Gt M1 ft) (wi1 := canI X.K (kill M1 Gt) mk1 rs1 M3 f1) (g1 := canG X.K Gl1 (.vw mk1 rs1) Gt1 is1 g1) (tt1 := canT X.K Gt1 M4 ft1) (te := canE X.K (kill M4 Gt1) m M5 fe) hc hN hy hyl hsw I.can (blkOk_by bk) hv
    (fun s H C cl fp => (hg s H C cl fp).can) (fun s H C cl fp => (ht s H C cl fp).can) (fun s H C cl fp => (hi1 s H C cl fp).can) (fun s H C cl fp => (hg1 s H C cl fp).can) (fun s H C cl fp => (ht1 s H C cl fp).can) (fun s H C cl fp => (he s H C cl fp).can) hs hs1, fun sl σ H fs fl Dn S h P => ?_⟩
  refine set_run (RunsE.outv (lc2_hM I ok) (lc2_run I.hM (ht X.s_0 X.H_0 0 [] []).hM (hi1 X.s_0 X.H_0 0 [] []).hM (ht1 X.s_0 X.H_0 0 [] []).hM (he X.s_0 X.H_0 0 [] []).hM ok)) (by rw [Bool.and_eq_true, decide_eq_true_eq] at hi ⊢; exact ⟨by rw [kill_len]; exact hi.1, hi.2⟩) hfx S h P
end
end Dw
/-! Dw, part M: defs and their calls. -/
namespace Dw
open PySem PySem.Spec PyProof.Rows L2

/-- a parameter: only read; or the caller's own, written -/
inductive PM where
  | fz (k : Nat) | io (k : Nat)
  deriving DecidableEq
def PM.md : PM → Mode
  | .fz k => .vw k []
  | .io k => .ow k
def PM.rm : PM → Mode
  | .fz _ => .no
  | .io k => .ow k
def pG (ps : List PM) : List Mode := ps.map PM.md
def pR (ps : List PM) : List Mode := ps.map PM.rm
def ioIx : List PM → Nat → List Nat
  | [], _ => []
  | .fz _ :: ps, n => ioIx ps (n + 1)
  | .io _ :: ps, n => n :: ioIx ps (n + 1)
/-- what a def promises: its parameters, its result's mode, what it computes: the result, and the parameters' data behind -/
structure Spec where
  ps : List PM
  m : RM
  F : List D → Option (D × List D)
def Spec.R (S : Spec) : RetS := ⟨S.m, pR S.ps, ioIx S.ps 0⟩
structure CO (K : PySem.W.Frag) (ps : List PM) (m : RM) (H : Hp) (fs : Nat → List Addr) (z : D) (ds' : List D) (vs : List V) (v : V) (H' : Hp) (fs' : Nat → List Addr) (fp : List Addr) : Prop where
  sr : SR K (pG ps) (ds'.map some) (vs.map some) H' fs'
  ts : T3 (pG ps) fs H (pG ps) fs' H'
  rep : Rep K H' z v fp
  dep : mdep z ≤ m.k
  ok : RetOk (pG ps) fs H (pG ps) fs' fp m
def spD (K : PySem.W.Frag) (S : Spec) : Sp := fun vs H Q _ => ∃ ds fs z ds', S.F ds = some (z, ds') ∧ vs.length = S.ps.length ∧ SR K (pG S.ps) (ds.map some) (vs.map some) H fs ∧ ∀ v H' fs' fp, CO K S.ps S.m H fs z ds' vs v H' fs' fp → Q v H'

theorem md_pG {ps : List PM} {i : Nat} : md (pG ps) i = (ps[i]?.map PM.md).getD .no := by
  unfold md pG
  rw [List.getD_eq_getElem?_getD, List.getElem?_map]
theorem md_pR {ps : List PM} {i : Nat} : md (pR ps) i = (ps[i]?.map PM.rm).getD .no := by
  unfold md pR
  rw [List.getD_eq_getElem?_getD, List.getElem?_map]
theorem own_pG {ps : List PM} {i : Nat} : (md (pG ps) i).own = true ↔ ∃ k, ps[i]? = some (.io k) := by
  rw [md_pG]
  cases e : ps[i]? with
  | none => simp [Mode.own]
  | some p => cases p <;> simp [PM.md, Mode.own]
theorem own_pR {ps : List PM} {i : Nat} : (md (pR ps) i).own = true ↔ ∃ k, ps[i]? = some (.io k) := by
  rw [md_pR]
  cases e : ps[i]? with
  | none => simp [Mode.own]
  | some p => cases p <;> simp [PM.rm, Mode.own]
theorem ioIx_mem : ∀ {ps : List PM} {n i k : Nat}, ps[i]? = some (.io k) → n + i ∈ ioIx ps n
  | [], _, _, _, h => by simp at h
  | p :: ps, n, 0, k, h => by
    simp at h; subst h
    exact List.mem_cons_self
  | p :: ps, n, i + 1, k, h => by
    have ih := ioIx_mem (n := n + 1) (show ps[i]? = some (.io k) by simpa using h)
    rw [show n + 1 + i = n + (i + 1) by omega] at ih
    cases p with
    | fz _ => exact ih
    | io _ => exact List.mem_cons_of_mem _ ih
theorem md_app {G : List Mode} {n i : Nat} : md (G ++ List.replicate n .no) i = md G i := by
  unfold md
  rw [List.getD_eq_getElem?_getD, List.getD_eq_getElem?_getD]
  by_cases h : i < G.length
  · rw [List.getElem?_append_left h]
  · rw [List.getElem?_append_right (by omega), List.getElem?_eq_none (l := G) (by omega), List.getElem?_replicate]
    split <;> rfl
/-- the parameters' data behind a run -/
def outP : List PM → List D → Ev → List D
  | .fz _ :: ps, d :: ds, _ :: s => d :: outP ps ds s
  | .io _ :: ps, d :: ds, o :: s => o.getD d :: outP ps ds s
  | _, ds, _ => ds
theorem outP_len : ∀ {ps : List PM} {ds : List D} {s : Ev}, (outP ps ds s).length = ds.length
  | [], ds, s => by cases ds <;> rfl
  | .fz _ :: ps, [], s => by cases s <;> rfl
  | .io _ :: ps, [], s => by cases s <;> rfl
  | .fz _ :: ps, d :: ds, [] => rfl
  | .io _ :: ps, d :: ds, [] => rfl
  | .fz _ :: ps, d :: ds, _ :: s => by unfold outP; rw [List.length_cons, List.length_cons, outP_len]
  | .io _ :: ps, d :: ds, _ :: s => by unfold outP; rw [List.length_cons, List.length_cons, outP_len]
theorem outP_fz : ∀ {ps : List PM} {ds : List D} {s : Ev} {i k : Nat}, ps[i]? = some (.fz k) → (outP ps ds s)[i]? = ds[i]?
  | [], ds, s, i, k, h => by simp at h
  | p :: ps, [], s, i, k, h => by cases p <;> cases s <;> rfl
  | p :: ps, d :: ds, [], i, k, h => by cases p <;> rfl
  | p :: ps, d :: ds, o :: s, 0, k, h => by
    simp at h; subst h
    rfl
  | p :: ps, d :: ds, o :: s, i + 1, k, h => by
    have ih := outP_fz (ps := ps) (ds := ds) (s := s) (i := i) (k := k) (by simpa using h)
    cases p <;> simpa [outP] using ih
theorem outP_io : ∀ {ps : List PM} {ds : List D} {s : Ev} {i k : Nat} {d : D}, ps[i]? = some (.io k) → i < ds.length → s[i]? = some (some d) → (outP ps ds s)[i]? = some d
  | [], ds, s, i, k, d, h, _, _ => by simp at h
  | p :: ps, [], s, i, k, d, _, h, _ => by simp at h
  | p :: ps, e :: ds, [], i, k, d, _, _, h => by simp at h
  | p :: ps, e :: ds, o :: s, 0, k, d, h, _, h2 => by
    simp at h h2; subst h h2
    rfl
  | p :: ps, e :: ds, o :: s, i + 1, k, d, h, h1, h2 => by
    have ih := outP_io (ps := ps) (ds := ds) (s := s) (i := i) (k := k) (d := d) (by simpa using h) (by simpa using h1) (by simpa using h2)
    cases p <;> simpa [outP] using ih
def startD (n : Nat) (ds : List D) : Ev := ds.map some ++ List.replicate (n - ds.length) none
/-- what a def computes, by its body -/
def runD (ps : List PM) (n : Nat) (F0 : Ev → Option Fl) : List D → Option (D × List D) := fun ds => (F0 (startD n ds)).bind fun fl => match fl with
  | .nx s => some (.non, outP ps ds s)
  | .rt d s => some (d, outP ps ds s)
  | _ => none

section
variable {P : Program} {w : World} {K : PySem.W.Frag} {mg : Str → Option Value} {base : Heap}
theorem SR.extend {ps : List PM} {ds : List D} {vs : List V} {H : Hp} {fs : Nat → List Addr} {n : Nat} {N : List Str} (S : SR K (pG ps) (ds.map some) (vs.map some) H fs) (hv : vs.length = ps.length) :
    SR K (pG ps ++ List.replicate n .no) (startD N.length ds) (L2.start N vs) H fs := by
  have hl : ds.length = vs.length := by have := S.len; simpa using this
  have md' : ∀ i, md (pG ps ++ List.replicate n .no) i = md (pG ps) i := fun i => md_app
  refine ⟨by unfold startD L2.start; simp only [List.length_append, List.length_map, List.length_replicate, hl], S.sz, fun i hi => ?_, fun i hi => ?_, fun i j hi hj => ?_, fun i k rs e a ha j hj => ?_⟩
  · rw [md'] at hi ⊢
    obtain ⟨d, v, h1, h2, r, m⟩ := S.val i hi
    refine ⟨d, v, ?_, ?_, r, m⟩
    · unfold startD
      rw [List.getElem?_append_left (List.getElem?_eq_some_iff.mp h1).1]; exact h1
    · unfold L2.start
      rw [List.getElem?_append_left (List.getElem?_eq_some_iff.mp h2).1]; exact h2
  · rw [md'] at hi; exact S.nd i hi
  · rw [md'] at hi hj; exact S.dj i j hi hj
  · rw [md'] at e hj; exact S.vw i k rs e a ha j hj
/-- what lies behind a body, told to the caller -/
theorem co_of {ps : List PM} {m : RM} {ds : List D} {vs : List V} {H H' : Hp} {fs fs' : Nat → List Addr} {G0 : List Mode} {sl' : Ev} {σ σ' : L2.St} {d : D} {v : V} {fp : List Addr}
    (S : SR K (pG ps) (ds.map some) (vs.map some) H fs) (hG : ∀ i, md G0 i = md (pG ps) i) (hv : vs.length = ps.length) (hσ : ∀ i < vs.length, σ[i]? = (vs.map some)[i]?) (Q : PRt K ⟨m, pR ps, ioIx ps 0⟩ G0 σ fs H d sl' v σ' H' fs' fp) :
    ∃ fs'', CO K ps m H fs d (outP ps ds sl') vs v H' fs'' fp := by
  have hl : ds.length = vs.length := by have := S.len; simpa using this
  let q : Nat → Bool := fun i => (md (pG ps) i).own
  refine ⟨fun i => if (md (pG ps) i).own = true then fs' i else fs i, ?_⟩
  have e1 : ∀ i, (md (pG ps) i).own = true → (if (md (pG ps) i).own = true then fs' i else fs i) = fs' i := fun i h => if_pos h
  have e2 : ∀ i, ¬ (md (pG ps) i).own = true → (if (md (pG ps) i).own = true then fs' i else fs i) = fs i := fun i h => if_neg h
  have ro : ∀ i, (md (pR ps) i).own = true ↔ (md (pG ps) i).own = true := fun i => own_pR.trans own_pG.symm
  have T := Q.ts
  -- cells of a parameter that is only read
  have vwk : ∀ i, md (pG ps) i ≠ .no → ¬ (md (pG ps) i).own = true → ∃ k, md (pG ps) i = .vw k [] ∧ ps[i]? = some (.fz k) := fun i h1 h2 => by
    rw [md_pG] at h1 h2 ⊢
    cases e : ps[i]? with
    | none => rw [e] at h1; exact absurd rfl h1
    | some p =>
      cases p with
      | fz k => exact ⟨k, rfl, rfl⟩
      | io k => rw [e] at h2; exact absurd rfl h2
  have far : ∀ i, md (pG ps) i ≠ .no → ¬ (md (pG ps) i).own = true → ∀ a ∈ fs i, ∀ j, (md (pG ps) j).own = true → a ∉ fs j := fun i h1 h2 a ha j hj haj => by
    obtain ⟨k, e, _⟩ := vwk i h1 h2
    exact nomatch S.vw i k [] e a ha j hj haj
  have far' : ∀ i, md (pG ps) i ≠ .no → ¬ (md (pG ps) i).own = true → ∀ a ∈ fs i, ∀ j, (md (pG ps) j).own = true → a ∉ fs' j := fun i h1 h2 a ha j hj haj => by
    rcases T.s3 j ((ro j).mpr hj) a haj with ⟨l, hl, z⟩ | z
    · rw [hG] at hl
      exact far i h1 h2 a ha l hl z
    · exact S.alive h1 ha z
  have SR' : SR K (pG ps) ((outP ps ds sl').map some) (vs.map some) H' (fun i => if (md (pG ps) i).own = true then fs' i else fs i) := by
    refine ⟨by rw [List.length_map, List.length_map, outP_len]; exact hl, Q.sr.sz, fun i hi => ?_, fun i hi => ?_, fun i j hi hj ne a ha haj => ?_, fun i k rs e a ha j hj haj => ?_⟩
    · have hlt : i < ds.length := by have := S.lt hi; simpa using this
      by_cases ho : (md (pG ps) i).own = true
      · obtain ⟨k, hk⟩ := own_pG.mp ho
        have hr : md (pR ps) i = .ow k := by rw [md_pR, hk]; rfl
        have hg : md (pG ps) i = .ow k := by rw [md_pG, hk]; rfl
        obtain ⟨d', v', h1, h2, r, dd⟩ := Q.sr.val i (by rw [show (RetS.G ⟨m, pR ps, ioIx ps 0⟩) = pR ps from rfl, hr]; simp)
        have ex := Q.fx i (by have := ioIx_mem (n := 0) hk; rwa [Nat.zero_add] at this)
        rw [h2, hσ i (by omega)] at ex
        refine ⟨d', v', ?_, ex.symm, ?_, ?_⟩
        · rw [List.getElem?_map, outP_io hk hlt h1]; rfl
        · rw [e1 i ho]; exact r
        · rw [show (RetS.G ⟨m, pR ps, ioIx ps 0⟩) = pR ps from rfl, hr] at dd
          rw [hg]; exact dd
      · obtain ⟨k, hk, hp⟩ := vwk i hi ho
        obtain ⟨d', v', h1, h2, r, dd⟩ := S.val i hi
        refine ⟨d', v', ?_, h2, ?_, dd⟩
        · rw [List.getElem?_map, outP_fz hp, ← List.getElem?_map]; exact h1
        · rw [e2 i ho]
          refine r.keep (U := fun a => a ∈ fs i) (fun a o e hm => T.s1 a o e fun j k' hj haj => ?_) fun a ha => ha
          rw [hG] at hj
          obtain ⟨o', e', m'⟩ := S.mem (show md (pG ps) j ≠ .no by rw [hj]; simp) haj
          rw [e] at e'; cases e'
          exact far i hi ho a (hm m') j (by rw [hj]; rfl) haj
    · show (if (md (pG ps) i).own = true then fs' i else fs i).Nodup
      rw [e1 i hi]; exact Q.sr.nd i ((ro i).mpr hi)
    · replace ha : a ∈ (if (md (pG ps) i).own = true then fs' i else fs i) := ha
      replace haj : a ∈ (if (md (pG ps) j).own = true then fs' j else fs j) := haj
      rw [e1 i hi] at ha; rw [e1 j hj] at haj
      exact Q.sr.dj i j ((ro i).mpr hi) ((ro j).mpr hj) ne a ha haj
    · have ho : ¬ (md (pG ps) i).own = true := by rw [e]; intro z; cases z
      have hn : md (pG ps) i ≠ .no := by rw [e]; simp
      replace ha : a ∈ (if (md (pG ps) i).own = true then fs' i else fs i) := ha
      replace haj : a ∈ (if (md (pG ps) j).own = true then fs' j else fs j) := haj
      rw [e2 i ho] at ha; rw [e1 j hj] at haj
      exact absurd haj (far' i hn ho a ha j hj)
  have knG : ∀ {a}, Kn G0 fs H a → Kn (pG ps) fs H a := fun {a} h => h.imp (fun ⟨i, hi, z⟩ => ⟨i, by rw [← hG]; exact hi, z⟩) id
  refine ⟨SR', ⟨fun a o e hn => T.s1 a o e fun j k hj => hn j k (by rw [← hG]; exact hj), T.s2, fun j hj a ha => ?_, fun j hj a ha => ?_⟩, Q.rep, Q.dep, ?_⟩
  · replace ha : a ∈ (if (md (pG ps) j).own = true then fs' j else fs j) := ha
    rw [e1 j hj] at ha
    exact (T.s3 j ((ro j).mpr hj) a ha).imp (fun ⟨k, hk, z⟩ => ⟨k, by rw [← hG]; exact hk, z⟩) id
  · replace ha : a ∈ (if (md (pG ps) j).own = true then fs' j else fs j) := ha
    by_cases ho : (md (pG ps) j).own = true
    · rw [e1 j ho] at ha
      exact knG (T.s5 j (own_ne_no ((ro j).mpr ho)) a ha)
    · rw [e2 j ho] at ha
      exact .inl ⟨j, hj, ha⟩
  · have ok := Q.ok
    have off : (∀ a ∈ fp, ∀ j, (md (pR ps) j).own = true → a ∉ fs' j) → ∀ a ∈ fp, ∀ j, (md (pG ps) j).own = true → a ∉ (if (md (pG ps) j).own = true then fs' j else fs j) := fun h a ha j hj haj => by
      rw [e1 j hj] at haj
      exact h a ha j ((ro j).mpr hj) haj
    cases m with
    | vw k rs => exact ⟨off ok.1, fun a ha => knG (ok.2 a ha)⟩
    | ow k => exact ⟨ok.1, off ok.2.1, fun a ha => (ok.2.2 a ha).imp (fun ⟨k, hk, z⟩ => ⟨k, by rw [← hG]; exact hk, z⟩) id⟩
/-- THE RULE for a def -/
theorem ok_def {x qual : Str} {st : Stmt} {f : Addr} {fd : FuncData} {N ps : List Str} {k : Nat} {Gn : List Mode} {F0 : Ev → Option Fl} (S : Spec) (F : Fun K x qual st f fd) (sc : FnScope N ps (defScope st)) (hps : S.ps.length = ps.length)
    (hb : ∀ (cdv : Value) (A : Around) (outer : List Env) (s : Shared) (H : Hp) (E : XK), Room k (A.deeper (envOfC qual (defScope st) s.heap.objs.size f cdv)) →
      DSs (cxOf CX0 P w K mg base N qual (defScope st) f cdv A outer s H E).nox S.R (pG S.ps ++ List.replicate (N.length - ps.length) .no) (defBody st) Gn [] [] F0)
    (hn : leG leX Gn S.R.G = true) (hF : ∀ ds z, S.F ds = some z → runD S.ps N.length F0 ds = some z) : FnOk P w K mg base CX0 (k + 1) f fd ps (spD K S) := by
  refine F.ok sc (fun vs H Q E ⟨_, _, _, _, _, hv, _⟩ => hv.trans hps) fun cdv A outer s H vs Q E hr ⟨ds, fs, z, ds', hz, hv, Sr, q⟩ => ?_
  obtain ⟨t, pt, rt⟩ := (hb cdv A outer s H E hr).run
  refine ⟨t, pt, ?_⟩
  have hl : ds.length = vs.length := by have := Sr.len; simpa using this
  have hz' := hF ds _ hz
  unfold runD at hz'
  cases h0 : F0 (startD N.length ds) with
  | none => rw [h0] at hz'; cases hz'
  | some fl =>
    rw [h0] at hz'
    simp only [Option.bind_some] at hz'
    have hσ : ∀ i < vs.length, (L2.start N vs)[i]? = (vs.map some)[i]? := fun i hi => by
      unfold L2.start
      rw [List.getElem?_append_left (by simpa using hi)]
    refine rt _ _ H fs fl { nx := fun _ H' => Q .non H', rt := Q } (Sr.extend hv) h0 ?_
    cases fl with
    | nx s =>
      cases hz'
      refine fun σ' H' fs' S' T' X' => ?_
      have lx := leX_at hn
      obtain ⟨fs2, C⟩ := co_of (m := S.m) (d := .non) (v := .non) (fp := []) Sr (fun i => md_app) hv hσ ⟨S'.le lx, T'.toT3.weakX lx, .non, Nat.zero_le _, (by
        show RetOk _ fs H _ fs' [] S.m
        cases S.m with
        | vw k rs => exact ⟨(fun _ z => nomatch z), (fun _ z => nomatch z)⟩
        | ow k => exact ⟨List.nodup_nil, (fun _ z => nomatch z), (fun _ z => nomatch z)⟩), X'⟩
      exact q _ _ _ _ C
    | bk s => cases hz'
    | ct s => cases hz'
    | rt d s =>
      cases hz'
      refine fun v σ' H' fs' fp Q' => ?_
      obtain ⟨fs2, C⟩ := co_of Sr (fun i => md_app) hv hσ Q'
      exact q _ _ _ _ C
/-- nothing is promised -/
theorem ok_void {f : Addr} {fd : FuncData} {ps : List Str} {k : Nat} {S : Spec} (h : ∀ ds, S.F ds = none) : FnOk P w K mg base CX0 k f fd ps (spD K S) :=
  have no : ∀ {vs H Q E}, ¬ spD K S vs H Q E := fun {vs H Q E} ⟨ds, _, _, _, hz, _⟩ => by rw [h ds] at hz; cases hz
  ⟨fun _ _ _ _ q => absurd q no, fun _ _ _ _ _ _ _ _ _ _ _ _ _ q => absurd q no⟩
end
end Dw
/-! Dw, part N: calls of defs. -/
namespace Dw
open PySem PySem.Spec PyProof.Rows L2

/-- values, some of them own locals of the caller by name -/
inductive Mix (σ : L2.St) : List (Option Nat) → List V → List V → Prop
  | nil : Mix σ [] [] []
  | ex {ts : List (Option Nat)} {w : V} {ws vs : List V} : Mix σ ts ws vs → Mix σ (none :: ts) (w :: ws) (w :: vs)
  | io {ts : List (Option Nat)} {j : Nat} {v : V} {ws vs : List V} : σ[j]? = some (some v) → Mix σ ts ws vs → Mix σ (some j :: ts) ws (v :: vs)
structure DC (X : Cx) (G : List Mode) (es : List Expr) (ts : List (Option Nat)) (ms : List RM) (M : List Nat) (f : Ev → Option (List D × Ev)) : Prop where
  hM : ∀ j ∈ M, ∃ k, md G j = .ow k
  run : ∃ t, PA X es t ∧ ∀ sl σ H fs ds sl' (Q : List V → Hp → Prop), SR X.K G sl σ H fs → f sl = some (ds, sl') → (∀ ws vs H' fs' fps, OutA X.K G M sl σ H fs ms ds sl' ws H' fs' fps → Mix σ ts ws vs → Q vs H') → t σ H Q
section
variable {X : Cx} {G : List Mode} {a : Expr} {es : List Expr} {ts : List (Option Nat)} {ma : RM} {ms : List RM} {M N : List Nat} {fa : Ev → Option (D × Ev)} {fr : Ev → Option (List D × Ev)} {pos : Pos}
theorem dc_nil : DC X G [] [] [] [] mNil := by
  refine ⟨fun _ z => (nomatch z), _, pa_nil, fun sl σ H fs ds sl' Q S hf hq => ?_⟩
  cases hf
  exact hq [] [] H fs [] ⟨S, .pure (Same.refl H), .nil, List.nodup_nil⟩ .nil
theorem dc_ex (A : DE X G a ma M fa) (R : DC X (kill M G) es ts ms N fr) (ap : apart ma N = true := by rfl) (hs : starEach (a :: es) X.env = (false, eval a X.env) :: starEach es X.env := by rfl) : DC X G (a :: es) (none :: ts) (ma :: ms) (M ++ N) (mCons fa fr) := by
  obtain ⟨ta, pa, ra⟩ := A.run
  obtain ⟨tr, pr, rr⟩ := R.run
  refine ⟨hM_append A.hM R.hM, _, pa_cons pa pr hs, fun sl σ H fs ds sl' Q S hf hq => ?_⟩
  unfold mCons at hf
  cases h1 : fa sl with
  | none => rw [h1] at hf; cases hf
  | some p =>
    obtain ⟨d, sl1⟩ := p
    rw [h1] at hf
    simp only [Option.bind_some] at hf
    obtain ⟨q, h2, e⟩ := Option.map_eq_some_iff.mp hf
    obtain ⟨r, sl2⟩ := q
    cases e
    refine ra sl σ H fs d sl1 _ S h1 fun x H1 fs1 fp O => ?_
    refine rr sl1 σ H1 fs1 r sl2 _ O.sr h2 fun ws vs H2 fs2 fps P Mx => ?_
    have Z := O.later R.hM P.tr ap
    refine hq (x :: ws) (x :: vs) H2 fs2 (fp :: fps) ⟨by rw [← kill_kill]; exact P.sr, O.tr.trans (K := X.K) (G := G) P.tr, .cons Z.1 O.dep Z.2 (P.av.early A.hM O.tr), ?_⟩ (.ex Mx)
    cases ma with
    | vw k rs => exact P.nd
    | ow k =>
      refine List.nodup_append.mpr ⟨O.ok.1, P.nd, fun c hc d' hd' e => ?_⟩
      subst e
      rcases P.av.owned c hd' with q | ⟨j, hj, q⟩
      · exact O.rep.alive hc q
      · obtain ⟨k', hk⟩ := R.hM j hj
        exact O.ok.2.2 c hc j (by rw [← own_kill (M := M), hk]; rfl) q
theorem dc_io {i : Nat} {x : Str} (R : DC X G es ts ms N fr) (hn : isOw (md G i) = true) (hN : X.N[i]? = some x) (hv : Vis X.env.scope x) (hd : (x == ("__debug__" : Str)) = false := by decide) (hcd : (x == ("__classdict__" : Str)) = false := by decide)
    (hs : starEach (.Name x pos :: es) X.env = (false, eval (.Name x pos) X.env) :: starEach es X.env := by rfl) : DC X G (.Name x pos :: es) (some i :: ts) ms N fr := by
  obtain ⟨tr, pr, rr⟩ := R.run
  refine ⟨R.hM, _, pa_cons (pe_var hN hv hd hcd) pr hs, fun sl σ H fs ds sl' Q S hf hq => ?_⟩
  obtain ⟨d, v, h1, h2, r, dp⟩ := S.val i (own_ne_no (isOw_own hn))
  exact ⟨v, h2, rr sl σ H fs ds sl' _ S hf fun ws vs H' fs' fps O Mx => hq ws (v :: vs) H' fs' fps O (.io h2 Mx)⟩
end
/-- the parameters' data, those of the written ones from the slots -/
def fillD : List (Option Nat) → List D → Ev → Option (List D)
  | [], ds, _ => some ds
  | none :: _, [], _ => some []
  | none :: ts, d :: ds, sl => (fillD ts ds sl).map (d :: ·)
  | some j :: ts, ds, sl => (eVar j sl).bind fun d => (fillD ts ds sl).map (d :: ·)
/-- .. and back into the slots -/
def storeD : List (Option Nat) → List D → Ev → Ev
  | none :: ts, _ :: ds, sl => storeD ts ds sl
  | some j :: ts, d :: ds, sl => storeD ts ds (sl.set j (some d))
  | _, _, sl => sl
def mCall (F : List D → Option (D × List D)) (ts : List (Option Nat)) (fr : Ev → Option (List D × Ev)) : Ev → Option (D × Ev) := fun sl => (fr sl).bind fun p => (fillD ts p.1 p.2).bind fun ds => (F ds).map fun q => (q.1, storeD ts q.2 p.2)
def iosOf (ts : List (Option Nat)) : List Nat := ts.filterMap id
def mixOk (ios : List Nat) (G : List Mode) : List PM → List (Option Nat) → List RM → Bool
  | [], [], [] => true
  | .fz k :: ps, none :: ts, m :: ms => decide (m.k ≤ k) && (decide (m.k = 0) || m.rs.all fun r => !ios.contains r) && mixOk ios G ps ts ms
  | .io k :: ps, some j :: ts, ms => decide (md G j = .ow k) && mixOk ios G ps ts ms
  | _, _, _ => false
def callOk (S : Spec) (ts : List (Option Nat)) (ms : List RM) (G : List Mode) : Bool := decide (iosOf ts).Nodup && mixOk (iosOf ts) G S.ps ts ms
def callM (m : RM) (ms : List RM) : RM := match m with
  | .ow k => .ow k
  | .vw k _ => if k = 0 then .vw 0 [] else .vw k (allRs ms)
/-- the arguments, place by place -/
inductive CA (K : PySem.W.Frag) (G : List Mode) (M : List Nat) (fs : Nat → List Addr) (H : Hp) (fs' : Nat → List Addr) (H' : Hp) (σ : L2.St) (sl' : Ev) (ios rsA : List Nat) : List PM → List (Option Nat) → List D → List V → List (List Addr) → Prop
  | nil : CA K G M fs H fs' H' σ sl' ios rsA [] [] [] [] []
  | fz {k : Nat} {m : RM} {d : D} {v : V} {f : List Addr} {ps : List PM} {ts : List (Option Nat)} {ds : List D} {vs : List V} {fps : List (List Addr)} : Rep K H' d v f → mdep d ≤ k → RMok G M fs H fs' f m → (∀ a ∈ f, ∀ j ∈ ios, (md G j).own = true → a ∉ fs' j) → (∀ a ∈ f, ∀ j, (md G j).own = true → a ∈ fs' j → j ∈ rsA) →
      CA K G M fs H fs' H' σ sl' ios rsA ps ts ds vs fps → CA K G M fs H fs' H' σ sl' ios rsA (.fz k :: ps) (none :: ts) (d :: ds) (v :: vs) (f :: fps)
  | io {k j : Nat} {d : D} {v : V} {ps : List PM} {ts : List (Option Nat)} {ds : List D} {vs : List V} {fps : List (List Addr)} : sl'[j]? = some (some d) → σ[j]? = some (some v) → Rep K H' d v (fs' j) → mdep d ≤ k → md G j = .ow k →
      CA K G M fs H fs' H' σ sl' ios rsA ps ts ds vs fps → CA K G M fs H fs' H' σ sl' ios rsA (.io k :: ps) (some j :: ts) (d :: ds) (v :: vs) (fs' j :: fps)
section
variable {K : PySem.W.Frag} {G : List Mode} {M : List Nat} {sl sl' : Ev} {σ : L2.St} {H H' : Hp} {fs fs' : Nat → List Addr} {ios rsA : List Nat}
theorem allRs_tl {m : RM} {ms : List RM} {r : Nat} (h : r ∈ allRs ms) : r ∈ allRs (m :: ms) := by
  unfold allRs
  exact List.mem_append_right _ h
theorem allRs_hd {m : RM} {ms : List RM} {r : Nat} (h : r ∈ m.rs) (h0 : m.k ≠ 0) : r ∈ allRs (m :: ms) := by
  unfold allRs
  rw [if_neg h0]
  exact List.mem_append_left _ h
theorem CA.of (S : SR K (kill M G) sl' σ H' fs') : ∀ {ps : List PM} {ts : List (Option Nat)} {ms : List RM} {ds ds' : List D} {ws vs : List V} {fps : List (List Addr)}, mixOk ios G ps ts ms = true → AV K G M fs H fs' H' ms ds ws fps → Mix σ ts ws vs → fillD ts ds sl' = some ds' → (∀ r ∈ allRs ms, r ∈ rsA) →
    ∃ fps', CA K G M fs H fs' H' σ sl' ios rsA ps ts ds' vs fps'
  | [], [], [], _, _, _, _, _, _, .nil, .nil, hf, _ => by cases hf; exact ⟨_, .nil⟩
  | .fz k :: ps, none :: ts, m :: ms, _, _, _, _, _, ok, .cons r dd o t, .ex mx, hf, hr => by
    simp only [mixOk, Bool.and_eq_true, Bool.or_eq_true, decide_eq_true_eq] at ok
    obtain ⟨r', h2, e⟩ := Option.map_eq_some_iff.mp hf
    subst e
    obtain ⟨fps', C⟩ := CA.of S ok.2 t mx h2 fun r h => hr r (allRs_tl h)
    refine ⟨_, .fz r (Nat.le_trans dd ok.1.1) o (fun a ha j hj ho haj => ?_) (fun a ha j ho haj => hr j (allRs_hd (o.rt a ha j ho haj) fun z => by rw [r.imm (by omega)] at ha; cases ha)) C⟩
    have hrt := o.rt a ha j ho haj
    rcases ok.1.2 with z | z
    · rw [r.imm (by omega)] at ha; cases ha
    · have := List.all_eq_true.mp z j hrt
      simp at this
      exact this hj
  | .io k :: ps, some j :: ts, ms, ds, _, _, _, _, ok, av, .io hv mx, hf, hr => by
    simp only [mixOk, Bool.and_eq_true, decide_eq_true_eq] at ok
    obtain ⟨d, h1, hf⟩ := Option.bind_eq_some_iff.mp hf
    obtain ⟨r', h2, e⟩ := Option.map_eq_some_iff.mp hf
    subst e
    obtain ⟨fps', C⟩ := CA.of S ok.2 av mx h2 hr
    obtain ⟨d', v', q1, q2, q3, q4⟩ := S.val j (by rw [kill_ow ok.1]; simp)
    rw [eVar_some q1] at h1; cases h1
    rw [hv] at q2; cases q2
    rw [kill_ow ok.1] at q4
    exact ⟨_, .io q1 hv q3 q4 ok.1 C⟩
  | [], [], _ :: _, _, _, _, _, _, ok, _, _, _, _ => by simp [mixOk] at ok
  | [], _ :: _, _, _, _, _, _, _, ok, _, _, _, _ => by simp [mixOk] at ok
  | .fz _ :: _, [], _, _, _, _, _, _, ok, _, _, _, _ => by simp [mixOk] at ok
  | .fz _ :: _, some _ :: _, _, _, _, _, _, _, ok, _, _, _, _ => by simp [mixOk] at ok
  | .fz _ :: _, none :: _, [], _, _, _, _, _, ok, _, _, _, _ => by simp [mixOk] at ok
  | .io _ :: _, [], _, _, _, _, _, _, ok, _, _, _, _ => by simp [mixOk] at ok
  | .io _ :: _, none :: _, _, _, _, _, _, _, ok, _, _, _, _ => by simp [mixOk] at ok
theorem CA.len : ∀ {ps : List PM} {ts : List (Option Nat)} {ds : List D} {vs : List V} {fps : List (List Addr)}, CA K G M fs H fs' H' σ sl' ios rsA ps ts ds vs fps → ts.length = ps.length ∧ ds.length = ps.length ∧ vs.length = ps.length ∧ fps.length = ps.length
  | _, _, _, _, _, .nil => ⟨rfl, rfl, rfl, rfl⟩
  | _, _, _, _, _, .fz _ _ _ _ _ t => by obtain ⟨a, b, c, d⟩ := t.len; exact ⟨by simp [a], by simp [b], by simp [c], by simp [d]⟩
  | _, _, _, _, _, .io _ _ _ _ _ t => by obtain ⟨a, b, c, d⟩ := t.len; exact ⟨by simp [a], by simp [b], by simp [c], by simp [d]⟩
theorem CA.get : ∀ {ps : List PM} {ts : List (Option Nat)} {ds : List D} {vs : List V} {fps : List (List Addr)}, CA K G M fs H fs' H' σ sl' ios rsA ps ts ds vs fps → ∀ {i : Nat} {p : PM}, ps[i]? = some p →
    ∃ d v f, ds[i]? = some d ∧ vs[i]? = some v ∧ fps[i]? = some f ∧ Rep K H' d v f ∧ mdep d ≤ p.md.k ∧
      ((∃ k m, p = .fz k ∧ ts[i]? = some none ∧ RMok G M fs H fs' f m ∧ (∀ a ∈ f, ∀ j ∈ ios, (md G j).own = true → a ∉ fs' j) ∧ ∀ a ∈ f, ∀ j, (md G j).own = true → a ∈ fs' j → j ∈ rsA) ∨ ∃ k j, p = .io k ∧ ts[i]? = some (some j) ∧ f = fs' j ∧ sl'[j]? = some (some d) ∧ σ[j]? = some (some v) ∧ md G j = .ow k)
  | _, _, _, _, _, .nil, i, p, h => by simp at h
  | _, _, _, _, _, .fz r d o a b t, 0, p, h => by
    simp at h; subst h
    exact ⟨_, _, _, rfl, rfl, rfl, r, d, .inl ⟨_, _, rfl, rfl, o, a, b⟩⟩
  | _, _, _, _, _, .io h1 h2 r d e t, 0, p, h => by
    simp at h; subst h
    exact ⟨_, _, _, rfl, rfl, rfl, r, d, .inr ⟨_, _, rfl, rfl, rfl, h1, h2, e⟩⟩
  | _, _, _, _, _, .fz r d o a b t, i + 1, p, h => by
    have := t.get (i := i) (p := p) (by simpa using h)
    simpa using this
  | _, _, _, _, _, .io h1 h2 r d e t, i + 1, p, h => by
    have := t.get (i := i) (p := p) (by simpa using h)
    simpa using this
theorem ios_mem {ts : List (Option Nat)} {j : Nat} : j ∈ iosOf ts ↔ ∃ i : Nat, ts[i]? = some (some j) := by
  unfold iosOf
  rw [List.mem_filterMap]
  constructor
  · rintro ⟨o, h, e⟩
    obtain ⟨i, hi⟩ := List.mem_iff_getElem?.mp h
    have : o = some j := e
    exact ⟨i, by rw [hi, this]⟩
  · rintro ⟨i, h⟩
    exact ⟨some j, List.mem_of_getElem? h, rfl⟩
theorem ios_inj : ∀ {ts : List (Option Nat)}, (iosOf ts).Nodup → ∀ {i l j : Nat}, ts[i]? = some (some j) → ts[l]? = some (some j) → i = l
  | [], _, i, l, j, h, _ => by simp at h
  | o :: ts, nd, i, l, j, h, h2 => by
    have ih : (iosOf ts).Nodup := by
      cases o with
      | none => simpa [iosOf] using nd
      | some q => simp [iosOf] at nd; simpa [iosOf] using nd.2
    cases i with
    | zero =>
      simp at h; subst h
      cases l with
      | zero => rfl
      | succ l =>
        have : j ∈ iosOf ts := ios_mem.mpr ⟨l, by simpa using h2⟩
        simp [iosOf] at nd this
        exact absurd this nd.1
    | succ i =>
      cases l with
      | zero =>
        simp at h2; subst h2
        have : j ∈ iosOf ts := ios_mem.mpr ⟨i, by simpa using h⟩
        simp [iosOf] at nd this
        exact absurd this nd.1
      | succ l => rw [ios_inj ih (i := i) (l := l) (j := j) (by simpa using h) (by simpa using h2)]
theorem storeD_len : ∀ {ts : List (Option Nat)} {ds : List D} {sl : Ev}, (storeD ts ds sl).length = sl.length
  | [], ds, sl => rfl
  | none :: ts, [], sl => rfl
  | some j :: ts, [], sl => rfl
  | none :: ts, d :: ds, sl => by unfold storeD; exact storeD_len
  | some j :: ts, d :: ds, sl => by unfold storeD; rw [storeD_len, List.length_set]
theorem storeD_out : ∀ {ts : List (Option Nat)} {ds : List D} {sl : Ev} {j : Nat}, j ∉ iosOf ts → (storeD ts ds sl)[j]? = sl[j]?
  | [], ds, sl, j, _ => rfl
  | none :: ts, [], sl, j, _ => rfl
  | some _ :: ts, [], sl, j, _ => rfl
  | none :: ts, d :: ds, sl, j, h => by unfold storeD; exact storeD_out (by simpa [iosOf] using h)
  | some l :: ts, d :: ds, sl, j, h => by
    have : j ≠ l ∧ j ∉ iosOf ts := by simpa [iosOf] using h
    unfold storeD
    rw [storeD_out this.2, List.getElem?_set_ne (Ne.symm this.1)]
theorem storeD_in : ∀ {ts : List (Option Nat)} {ds : List D} {sl : Ev} {i j : Nat} {d : D}, (iosOf ts).Nodup → ts[i]? = some (some j) → ds[i]? = some d → j < sl.length → (storeD ts ds sl)[j]? = some (some d)
  | [], ds, sl, i, j, d, _, h, _, _ => by simp at h
  | o :: ts, [], sl, i, j, d, _, _, h, _ => by simp at h
  | none :: ts, e :: ds, sl, i, j, d, nd, h, h2, hl => by
    unfold storeD
    cases i with
    | zero => simp at h
    | succ i => exact storeD_in (by simpa [iosOf] using nd) (by simpa using h) (by simpa using h2) hl
  | some l :: ts, e :: ds, sl, i, j, d, nd, h, h2, hl => by
    unfold storeD
    have nd' : l ∉ iosOf ts ∧ (iosOf ts).Nodup := by simpa [iosOf] using nd
    cases i with
    | zero =>
      simp at h h2; subst h h2
      rw [storeD_out nd'.1, List.getElem?_set_self hl]
    | succ i => exact storeD_in nd'.2 (by simpa using h) (by simpa using h2) (by simpa using hl)
theorem getD_of {α : Type} {l : List α} {i : Nat} {x y : α} (h : l[i]? = some x) : l.getD i y = x := by rw [List.getD_eq_getElem?_getD, h]; rfl
theorem CA.io_of {ps : List PM} {ts : List (Option Nat)} {ds : List D} {vs : List V} {fps : List (List Addr)} (C : CA K G M fs H fs' H' σ sl' ios rsA ps ts ds vs fps) {i j : Nat} (h : ts[i]? = some (some j)) :
    ∃ k d v, ps[i]? = some (.io k) ∧ md G j = .ow k ∧ fps.getD i [] = fs' j ∧ vs[i]? = some v ∧ σ[j]? = some (some v) ∧ ds[i]? = some d ∧ sl'[j]? = some (some d) := by
  have hi : i < ps.length := by rw [← C.len.1]; exact (List.getElem?_eq_some_iff.mp h).1
  obtain ⟨d, v, f, h1, h2, h3, h4, h5, c⟩ := C.get (List.getElem?_eq_getElem hi)
  rcases c with ⟨k, m, _, e, _⟩ | ⟨k, j', e1, e2, e3, e4, e5, e6⟩
  · rw [h] at e; cases e
  · rw [h] at e2; cases e2
    exact ⟨k, d, v, by rw [List.getElem?_eq_getElem hi, e1], e6, (getD_of h3).trans e3, h2, e5, h1, e4⟩
theorem CA.at_io {ps : List PM} {ts : List (Option Nat)} {ds : List D} {vs : List V} {fps : List (List Addr)} (C : CA K G M fs H fs' H' σ sl' ios rsA ps ts ds vs fps) {i k : Nat} (h : ps[i]? = some (.io k)) : ∃ j, ts[i]? = some (some j) ∧ fps.getD i [] = fs' j ∧ md G j = .ow k := by
  obtain ⟨d, v, f, h1, h2, h3, h4, h5, c⟩ := C.get h
  rcases c with ⟨k, m, e, _⟩ | ⟨k', j, e1, e2, e3, e4, e5, e6⟩
  · cases e
  · cases e1
    exact ⟨j, e2, (getD_of h3).trans e3, e6⟩
/-- the callee's start -/
theorem CA.start {ps : List PM} {ts : List (Option Nat)} {ds : List D} {vs : List V} {fps : List (List Addr)} (C : CA K G M fs H fs' H' σ sl' (iosOf ts) rsA ps ts ds vs fps) (S : SR K (kill M G) sl' σ H' fs') (nd : (iosOf ts).Nodup) : SR K (pG ps) (ds.map some) (vs.map some) H' (fun i => fps.getD i []) := by
  have ow : ∀ {j k}, md G j = .ow k → (md (kill M G) j).own = true := fun {j k} h => by rw [own_kill, h]; rfl
  obtain ⟨l1, l2, l3, l4⟩ := C.len
  refine ⟨by simp [l2, l3], S.sz, fun i hi => ?_, fun i hi => ?_, fun i j hi hj ne a ha haj => ?_, fun i k rs e a ha j hj haj => ?_⟩
  · rw [md_pG] at hi ⊢
    cases e : ps[i]? with
    | none => rw [e] at hi; exact absurd rfl hi
    | some p =>
      obtain ⟨d, v, f, h1, h2, h3, h4, h5, _⟩ := C.get e
      exact ⟨d, v, by rw [List.getElem?_map, h1]; rfl, by rw [List.getElem?_map, h2]; rfl, by rw [getD_of h3]; exact h4, h5⟩
  · obtain ⟨k, hk⟩ := own_pG.mp hi
    obtain ⟨j, e1, e2, e3⟩ := C.at_io hk
    show (fps.getD i []).Nodup
    rw [e2]; exact S.nd j (ow e3)
  · obtain ⟨k, hk⟩ := own_pG.mp hi
    obtain ⟨k', hk'⟩ := own_pG.mp hj
    obtain ⟨j1, e1, e2, e3⟩ := C.at_io hk
    obtain ⟨j2, f1, f2, f3⟩ := C.at_io hk'
    replace ha : a ∈ fps.getD i [] := ha
    replace haj : a ∈ fps.getD j [] := haj
    rw [e2] at ha; rw [f2] at haj
    exact S.dj j1 j2 (ow e3) (ow f3) (fun z => ne (ios_inj nd e1 (z ▸ f1))) a ha haj
  · obtain ⟨k', hk'⟩ := own_pG.mp hj
    obtain ⟨j2, f1, f2, f3⟩ := C.at_io hk'
    rw [md_pG] at e
    cases e4 : ps[i]? with
    | none => rw [e4] at e; cases e
    | some p =>
      rw [e4] at e
      obtain ⟨d, v, f, h1, h2, h3, h4, h5, c⟩ := C.get e4
      rcases c with ⟨k, m, e5, e6, e7, e8, e9⟩ | ⟨k, j', e5, _⟩
      · replace ha : a ∈ fps.getD i [] := ha
        replace haj : a ∈ fps.getD j [] := haj
        rw [getD_of h3] at ha; rw [f2] at haj
        exact absurd haj (e8 a ha j2 (ios_mem.mpr ⟨j, f1⟩) (by rw [f3]; rfl))
      · subst e5; cases e
theorem pick_fs {ts : List (Option Nat)} (nd : (iosOf ts).Nodup) (fsC fs' : Nat → List Addr) : ∃ fs2 : Nat → List Addr, (∀ {i j : Nat}, ts[i]? = some (some j) → fs2 j = fsC i) ∧ ∀ {j}, j ∉ iosOf ts → fs2 j = fs' j := by
  classical
  refine ⟨fun j => if h : ∃ i : Nat, ts[i]? = some (some j) then fsC (Classical.choose h) else fs' j, fun {i j} h => ?_, fun {j} h => ?_⟩
  · have hx : ∃ i : Nat, ts[i]? = some (some j) := ⟨i, h⟩
    show (if h : ∃ i : Nat, ts[i]? = some (some j) then fsC (Classical.choose h) else fs' j) = _
    rw [dif_pos hx, ios_inj nd (Classical.choose_spec hx) h]
  · show (if h : ∃ i : Nat, ts[i]? = some (some j) then fsC (Classical.choose h) else fs' j) = _
    rw [dif_neg fun q => h (ios_mem.mpr q)]
theorem call_out {m : RM} {ms : List RM} {ds0 : List D} {ws : List V} {fps0 : List (List Addr)} {ps : List PM} {ts : List (Option Nat)} {ds ds2 : List D} {vs : List V} {fps : List (List Addr)} {z : D} {v : V} {H2 : Hp} {fsC : Nat → List Addr} {fp : List Addr}
    (hM : ∀ j ∈ M, ∃ k, md G j = .ow k) (O : OutA K G M sl σ H fs ms ds0 sl' ws H' fs' fps0) (C : CA K G M fs H fs' H' σ sl' (iosOf ts) (allRs ms) ps ts ds vs fps) (nd : (iosOf ts).Nodup) (R : CO K ps m H' (fun i => fps.getD i []) z ds2 vs v H2 fsC fp) :
    ∃ fs2, Out K G (M ++ iosOf ts) sl σ H fs (callM m ms) z (storeD ts ds2 sl') v H2 fs2 fp := by
  have ow : ∀ {j k}, md G j = .ow k → (md (kill M G) j).own = true := fun {j k} h => by rw [own_kill, h]; rfl
  obtain ⟨fs2, e1, e2⟩ := pick_fs nd fsC fs'
  refine ⟨fs2, ?_⟩
  have oG : ∀ {i j k}, ts[i]? = some (some j) → ps[i]? = some (.io k) → (md (pG ps) i).own = true := fun _ h => own_pG.mpr ⟨_, h⟩
  have U : Tr (iosOf ts) sl' fs' H' (storeD ts ds2 sl') fs2 H2 := by
    refine ⟨fun a o h hn => R.ts.s1 a o h fun i k hi => ?_, R.ts.s2, fun j hj => ⟨e2 hj, storeD_out hj⟩, fun j hj a ha => ?_⟩
    · obtain ⟨k', hk⟩ := own_pG.mp (by rw [hi]; rfl : (md (pG ps) i).own = true)
      obtain ⟨j, q1, q2, q3⟩ := C.at_io hk
      show a ∉ fps.getD i []
      rw [q2]; exact hn j (ios_mem.mpr ⟨i, q1⟩)
    · obtain ⟨i, hi⟩ := ios_mem.mp hj
      obtain ⟨k, d, w, hp, _⟩ := C.io_of hi
      rw [e1 hi] at ha
      rcases R.ts.s3 i (oG hi hp) a ha with ⟨l, hl, q⟩ | q
      · obtain ⟨k', hk⟩ := own_pG.mp hl
        obtain ⟨j', q1, q2, q3⟩ := C.at_io hk
        replace q : a ∈ fps.getD l [] := q
        rw [q2] at q
        exact .inl ⟨j', ios_mem.mpr ⟨l, q1⟩, q⟩
      · exact .inr q
  have S2 : SR K (kill (iosOf ts) (kill M G)) (storeD ts ds2 sl') σ H2 fs2 := by
    refine O.sr.frame U (fun j hj => ?_) R.sr.sz storeD_len (fun j hj => ?_) (fun j hj => ?_) fun j1 hj1 j2 hj2 ne a ha haj => ?_
    · obtain ⟨i, hi⟩ := ios_mem.mp hj
      obtain ⟨k, d, w, hp, hg, _⟩ := C.io_of hi
      exact ow hg
    · obtain ⟨i, hi⟩ := ios_mem.mp hj
      obtain ⟨k, d, w, hp, hg, q1, q2, q3, q4, q5⟩ := C.io_of hi
      have hgi : md (pG ps) i = .ow k := by rw [md_pG, hp]; rfl
      obtain ⟨d', v', r1, r2, r3, r4⟩ := R.sr.val i (by rw [hgi]; simp)
      rw [List.getElem?_map, q2] at r2
      cases r2
      have r1' : ds2[i]? = some d' := by
        rw [List.getElem?_map] at r1
        obtain ⟨x, hx, ex⟩ := Option.map_eq_some_iff.mp r1
        cases ex; exact hx
      have hlt : j < sl'.length := O.sr.lt (own_ne_no (ow hg))
      refine ⟨d', w, storeD_in nd hi r1' hlt, q3, by rw [e1 hi]; exact r3, ?_⟩
      rw [hgi] at r4
      rw [kill_ow hg]; exact r4
    · obtain ⟨i, hi⟩ := ios_mem.mp hj
      obtain ⟨k, d, w, hp, _⟩ := C.io_of hi
      rw [e1 hi]; exact R.sr.nd i (oG hi hp)
    · obtain ⟨i1, hi1⟩ := ios_mem.mp hj1
      obtain ⟨i2, hi2⟩ := ios_mem.mp hj2
      obtain ⟨_, _, _, hp1, _⟩ := C.io_of hi1
      obtain ⟨_, _, _, hp2, _⟩ := C.io_of hi2
      rw [e1 hi1] at ha; rw [e1 hi2] at haj
      exact R.sr.dj i1 i2 (oG hi1 hp1) (oG hi2 hp2) (fun z => by subst z; rw [hi1] at hi2; cases hi2; exact ne rfl) a ha haj
  rw [kill_kill] at S2
  have toK : ∀ {j}, (md G j).own = true → (md (kill M G) j).own = true := fun {j} h => by rw [own_kill]; exact h
  have hk : (callM m ms).k = m.k := by
    cases m with
    | ow k => rfl
    | vw k rs =>
      unfold callM
      by_cases h : k = 0
      · simp [h, RM.k]
      · simp [h, RM.k]
  refine ⟨S2, O.tr.trans (G := G) (K := K) U, R.rep, by rw [hk]; exact R.dep, ?_⟩
  have ok := R.ok
  cases m with
  | ow k =>
    refine ⟨ok.1, fun a ha => ?_, fun a ha j hj haj => ?_⟩
    · rcases ok.2.2 a ha with ⟨i, hi, q⟩ | q
      · obtain ⟨k', hk⟩ := own_pG.mp hi
        obtain ⟨j, q1, q2, q3⟩ := C.at_io hk
        replace q : a ∈ fps.getD i [] := q
        rw [q2] at q
        by_cases hm : j ∈ M
        · rcases O.tr.t4 j hm a q with ⟨l, hl, y⟩ | y
          · exact .inr ⟨l, List.mem_append_left _ hl, y⟩
          · exact .inl y
        · rw [(O.tr.t3 j hm).1] at q
          exact .inr ⟨j, List.mem_append_right _ (ios_mem.mpr ⟨i, q1⟩), q⟩
      · exact .inl (O.tr.t2 a q)
    · by_cases hm : j ∈ iosOf ts
      · obtain ⟨i, hi⟩ := ios_mem.mp hm
        obtain ⟨_, _, _, hp, _⟩ := C.io_of hi
        rw [e1 hi] at haj
        exact ok.2.1 a ha i (oG hi hp) haj
      · rw [e2 hm] at haj
        rcases ok.2.2 a ha with ⟨i, hi, q⟩ | q
        · obtain ⟨k', hk⟩ := own_pG.mp hi
          obtain ⟨j', q1, q2, q3⟩ := C.at_io hk
          replace q : a ∈ fps.getD i [] := q
          rw [q2] at q
          exact O.sr.dj j' j (ow q3) (toK hj) (fun y => hm (ios_mem.mpr ⟨i, y ▸ q1⟩)) a q haj
        · exact O.sr.alive (own_ne_no (toK hj)) haj q
  | vw k rs =>
    unfold callM
    by_cases h0 : k = 0
    · have e : fp = [] := R.rep.imm (by have := R.dep; subst h0; exact Nat.le_zero.mp this)
      subst e
      exact RMok.nil _
    · simp only [if_neg h0]
      refine ⟨fun a ha j hj haj => ?_, fun a ha => ?_⟩
      · by_cases hm : j ∈ iosOf ts
        · obtain ⟨i, hi⟩ := ios_mem.mp hm
          obtain ⟨_, _, _, hp, _⟩ := C.io_of hi
          rw [e1 hi] at haj
          exact absurd haj (ok.1 a ha i (oG hi hp))
        · rw [e2 hm] at haj
          rcases ok.2 a ha with ⟨i, hi, q⟩ | q
          · replace q : a ∈ fps.getD i [] := q
            rw [md_pG] at hi
            cases e4 : ps[i]? with
            | none => rw [e4] at hi; exact absurd rfl hi
            | some p =>
              obtain ⟨d, w, f, h1, h2, h3, h4, h5, c⟩ := C.get e4
              rw [getD_of h3] at q
              rcases c with ⟨k', m', e5, e6, e7, e8, e9⟩ | ⟨k', j', e5, e6, e7, e8, e9, e10⟩
              · exact e9 a q j hj haj
              · rw [e7] at q
                exact absurd haj (O.sr.dj j' j (ow e10) (toK hj) (fun y => hm (ios_mem.mpr ⟨i, y ▸ e6⟩)) a q)
          · exact absurd q (O.sr.alive (own_ne_no (toK hj)) haj)
      · rcases ok.2 a ha with ⟨i, hi, q⟩ | q
        · replace q : a ∈ fps.getD i [] := q
          rw [md_pG] at hi
          cases e4 : ps[i]? with
          | none => rw [e4] at hi; exact absurd rfl hi
          | some p =>
            obtain ⟨d, w, f, h1, h2, h3, h4, h5, c⟩ := C.get e4
            rw [getD_of h3] at q
            rcases c with ⟨k', m', e5, e6, e7, e8, e9⟩ | ⟨k', j', e5, e6, e7, e8, e9, e10⟩
            · exact e7.kn hM a q
            · rw [e7] at q
              exact Kn.early hM O.tr (.inl ⟨j', own_ne_no (ow e10), q⟩)
        · exact .inr (O.tr.t2 a q)
end
/-- THE RULE for a call by name -/
theorem de_call {X : Cx} {G : List Mode} {e : Expr} {es : List Expr} {ts : List (Option Nat)} {ms : List RM} {M : List Nat} {fr : Ev → Option (List D × Ev)} {k j : Nat} {f : Addr} {fd : FuncData} {ps : List Str} {x : Str} {p pos : Pos} (S : Spec)
    (F : FnOk X.prog X.w X.K X.mg X.base CX0 k f fd ps (spD X.K S)) (hr : Room j X.A) (hk : k ≤ j) (hg : Gl X x) (hm : X.mg x = some (.ref f)) (kp : PySem.W.keepIn X.K (.ref f) = true) (hb : Binds X.K fd ps []) (A : DC X G (e :: es) ts ms M fr)
    (ok : callOk S ts ms G = true := by rfl)
    (hdb : (x == ("__debug__" : Str)) = false := by decide) (he : starEach (e :: es) X.env = (false, eval e X.env) :: starEach es X.env := by rfl) (hpl : (backTo pos (starEach es X.env)).any (·.1) = false := by rfl) :
    DE X G (.Call (.Name x p) (e :: es) [] pos) (callM S.m ms) (M ++ iosOf ts) (mCall S.F ts fr) := by
  unfold callOk at ok
  simp only [Bool.and_eq_true, decide_eq_true_eq] at ok
  obtain ⟨nd, ok⟩ := ok
  obtain ⟨t, pt, rt⟩ := A.run
  have hM : ∀ j ∈ iosOf ts, ∃ k, md (kill M G) j = .ow k := fun j hj => by
    obtain ⟨i, hi⟩ := ios_mem.mp hj
    have key : ∀ {ps : List PM} {ts : List (Option Nat)} {ms : List RM} {ios : List Nat}, mixOk ios G ps ts ms = true → ∀ {i j : Nat}, ts[i]? = some (some j) → ∃ k, md G j = .ow k := by
      intro ps
      induction ps with
      | nil =>
        intro ts ms ios ok i j h
        cases ts with
        | nil => simp at h
        | cons _ _ => cases ms <;> simp [mixOk] at ok
      | cons p ps ih =>
        intro ts ms ios ok i j h
        cases ts with
        | nil => simp at h
        | cons o ts =>
          cases p with
          | fz k =>
            cases o with
            | some _ => simp [mixOk] at ok
            | none =>
              cases ms with
              | nil => simp [mixOk] at ok
              | cons m ms =>
                simp only [mixOk, Bool.and_eq_true] at ok
                cases i with
                | zero => simp at h
                | succ i => exact ih ok.2 (by simpa using h)
          | io k =>
            cases o with
            | none => simp [mixOk] at ok
            | some l =>
              simp only [mixOk, Bool.and_eq_true, decide_eq_true_eq] at ok
              cases i with
              | zero => simp at h; subst h; exact ⟨k, ok.1⟩
              | succ i => exact ih ok.2 (by simpa using h)
    obtain ⟨k, hk⟩ := key ok hi
    exact ⟨k, kill_ow hk⟩
  refine ⟨hM_append A.hM hM, _, pe_call (E := fun _ _ _ => False) F (hr.mono hk) hg hm kp hb .nil pass0 pt hdb he hpl, fun sl σ H fs d sl' Q S0 hf hq => ?_⟩
  unfold mCall at hf
  obtain ⟨p1, h1, hf⟩ := Option.bind_eq_some_iff.mp hf
  obtain ⟨ds0, s1⟩ := p1
  obtain ⟨ds, h2, hf⟩ := Option.bind_eq_some_iff.mp hf
  obtain ⟨q, h3, e3⟩ := Option.map_eq_some_iff.mp hf
  obtain ⟨z, ds2⟩ := q
  cases e3
  refine rt sl σ H fs ds0 s1 _ S0 h1 fun ws vs H1 fs1 fps O Mx => ?_
  obtain ⟨fps', C⟩ := CA.of (ios := iosOf ts) (rsA := allRs ms) O.sr ok O.av Mx h2 fun _ h => h
  rw [List.append_nil]
  refine ⟨ds, fun i => fps'.getD i [], _, ds2, h3, C.len.2.2.1, C.start O.sr nd, fun v H2 fsC fp R => ?_⟩
  obtain ⟨fs2, R'⟩ := call_out A.hM O C nd R
  exact hq v H2 fs2 fp R'
end Dw
/-! Dw, part O: what is written within an own local: places, methods, stores. -/
namespace Dw
open PySem PySem.Spec PyProof.Rows L2

/-! ### a part within data -/
/-- d at v has the part d1 at v1; fn puts another in its place; rest: the other cells; n: how deep -/
inductive Sub (K : PySem.W.Frag) (H : Hp) : D → V → List Addr → (D → D) → D → V → List Addr → List Addr → Nat → Prop
  | here {d : D} {v : V} {fp : List Addr} : Rep K H d v fp → Sub K H d v fp (fun x => x) d v fp [] 0
  | lst {a : Addr} {vs1 vs2 : List V} {v0 : V} {ds1 ds2 : List D} {d0 : D} {g1 g2 f0 : List Addr} {fn : D → D} {d1 : D} {v1 : V} {fp1 rest : List Addr} {n : Nat} : H a = some (.lst (vs1 ++ v0 :: vs2)) → Reps K H ds1 vs1 g1 → Sub K H d0 v0 f0 fn d1 v1 fp1 rest n → Reps K H ds2 vs2 g2 →
      Sub K H (.lst (ds1 ++ d0 :: ds2)) (.ref a) (a :: (g1 ++ (f0 ++ g2))) (fun x => .lst (ds1 ++ fn x :: ds2)) d1 v1 fp1 (a :: (g1 ++ (rest ++ g2))) (n + 1)
  | tup {a : Addr} {vs1 vs2 : List V} {v0 : V} {ds1 ds2 : List D} {d0 : D} {g1 g2 f0 : List Addr} {fn : D → D} {d1 : D} {v1 : V} {fp1 rest : List Addr} {n : Nat} : H a = some (.tup (vs1 ++ v0 :: vs2)) → Reps K H ds1 vs1 g1 → Sub K H d0 v0 f0 fn d1 v1 fp1 rest n → Reps K H ds2 vs2 g2 →
      Sub K H (.tup (ds1 ++ d0 :: ds2)) (.ref a) (g1 ++ (f0 ++ g2)) (fun x => .tup (ds1 ++ fn x :: ds2)) d1 v1 fp1 (g1 ++ (rest ++ g2)) (n + 1)
  | dK {a : Addr} {kvs1 kvs2 : List (Key × V)} {k : Key} {v0 : V} {ks ds1 ds2 : List D} {d0 : D} {g1 g2 f0 : List Addr} {fn : D → D} {d1 : D} {v1 : V} {fp1 rest : List Addr} {n : Nat} : H a = some (.dK (kvs1 ++ (k, v0) :: kvs2)) → ks = (kvs1 ++ (k, v0) :: kvs2).map (fun p => kD p.1) → Reps K H ds1 (kvs1.map (·.2)) g1 → Sub K H d0 v0 f0 fn d1 v1 fp1 rest n → Reps K H ds2 (kvs2.map (·.2)) g2 →
      Sub K H (.dct false ks (ds1 ++ d0 :: ds2)) (.ref a) (a :: (g1 ++ (f0 ++ g2))) (fun x => .dct false ks (ds1 ++ fn x :: ds2)) d1 v1 fp1 (a :: (g1 ++ (rest ++ g2))) (n + 1)
  | dT {a : Addr} {kvs1 kvs2 : List (List Key × V)} {k : List Key} {v0 : V} {ks ds1 ds2 : List D} {d0 : D} {g1 g2 f0 : List Addr} {fn : D → D} {d1 : D} {v1 : V} {fp1 rest : List Addr} {n : Nat} : H a = some (.dT (kvs1 ++ (k, v0) :: kvs2)) → ks = (kvs1 ++ (k, v0) :: kvs2).map (fun p => D.tup (p.1.map kD)) → Reps K H ds1 (kvs1.map (·.2)) g1 → Sub K H d0 v0 f0 fn d1 v1 fp1 rest n → Reps K H ds2 (kvs2.map (·.2)) g2 →
      Sub K H (.dct true ks (ds1 ++ d0 :: ds2)) (.ref a) (a :: (g1 ++ (f0 ++ g2))) (fun x => .dct true ks (ds1 ++ fn x :: ds2)) d1 v1 fp1 (a :: (g1 ++ (rest ++ g2))) (n + 1)
section
variable {K : PySem.W.Frag} {H H' : Hp}
theorem Reps.mid {ds1 ds2 : List D} {vs1 vs2 : List V} {d : D} {v : V} {g1 f g2 : List Addr} (a : Reps K H ds1 vs1 g1) (b : Rep K H d v f) (c : Reps K H ds2 vs2 g2) : Reps K H (ds1 ++ d :: ds2) (vs1 ++ v :: vs2) (g1 ++ (f ++ g2)) := a.append (.cons b c)
theorem Sub.rep {d : D} {v : V} {fp : List Addr} {fn : D → D} {d1 : D} {v1 : V} {fp1 rest : List Addr} {n : Nat} (S : Sub K H d v fp fn d1 v1 fp1 rest n) : Rep K H d v fp ∧ Rep K H d1 v1 fp1 ∧ fp.Perm (fp1 ++ rest) := by
  have pm : ∀ {g1 f0 g2 fp1 rest : List Addr}, f0.Perm (fp1 ++ rest) → (g1 ++ (f0 ++ g2)).Perm (fp1 ++ (g1 ++ (rest ++ g2))) := fun {g1 f0 g2 fp1 rest} h => by
    refine ((h.append_right g2).append_left g1).trans ?_
    rw [List.append_assoc fp1, ← List.append_assoc g1, ← List.append_assoc fp1 g1]
    exact (List.perm_append_comm).append_right _
  induction S with
  | here r => exact ⟨r, r, by rw [List.append_nil]⟩
  | @lst a vs1 vs2 v0 ds1 ds2 d0 g1 g2 f0 fn d1 v1 fp1 rest n h r1 _ r2 ih => exact ⟨.lst h (r1.mid ih.1 r2), ih.2.1, ((pm ih.2.2).cons a).trans (List.perm_middle).symm⟩
  | tup h r1 _ r2 ih => exact ⟨.tup h (r1.mid ih.1 r2), ih.2.1, pm ih.2.2⟩
  | @dK a kvs1 kvs2 k v0 ks ds1 ds2 d0 g1 g2 f0 fn d1 v1 fp1 rest n h e r1 _ r2 ih => exact ⟨.dK h e (by rw [List.map_append, List.map_cons]; exact r1.mid ih.1 r2), ih.2.1, ((pm ih.2.2).cons a).trans (List.perm_middle).symm⟩
  | @dT a kvs1 kvs2 k v0 ks ds1 ds2 d0 g1 g2 f0 fn d1 v1 fp1 rest n h e r1 _ r2 ih => exact ⟨.dT h e (by rw [List.map_append, List.map_cons]; exact r1.mid ih.1 r2), ih.2.1, ((pm ih.2.2).cons a).trans (List.perm_middle).symm⟩
/-- another part, the rest kept -/
theorem Sub.set {d : D} {v : V} {fp : List Addr} {fn : D → D} {d1 : D} {v1 : V} {fp1 rest : List Addr} {n : Nat} (S : Sub K H d v fp fn d1 v1 fp1 rest n) (k : Keep (fun a => a ∈ rest) H H') {x : D} {fx : List Addr} (r : Rep K H' x v1 fx) : ∃ fp', Rep K H' (fn x) v fp' ∧ fp'.Perm (fx ++ rest) := by
  have pm : ∀ {g1 f0 g2 fp1 rest : List Addr}, f0.Perm (fp1 ++ rest) → (g1 ++ (f0 ++ g2)).Perm (fp1 ++ (g1 ++ (rest ++ g2))) := fun {g1 f0 g2 fp1 rest} h => by
    refine ((h.append_right g2).append_left g1).trans ?_
    rw [List.append_assoc fp1, ← List.append_assoc g1, ← List.append_assoc fp1 g1]
    exact (List.perm_append_comm).append_right _
  induction S with
  | here _ => exact ⟨fx, r, by rw [List.append_nil]⟩
  | @lst a vs1 vs2 v0 ds1 ds2 d0 g1 g2 f0 fn d1 v1 fp1 rest n h r1 _ r2 ih =>
    obtain ⟨f', q, p⟩ := ih (fun b o e hm => k b o e fun z => List.mem_cons_of_mem _ (List.mem_append_right _ (List.mem_append_left _ (hm z)))) r
    exact ⟨_, .lst (k _ _ h fun _ => List.mem_cons_self) ((r1.keep k fun b hb => List.mem_cons_of_mem _ (List.mem_append_left _ hb)).mid q (r2.keep k fun b hb => List.mem_cons_of_mem _ (List.mem_append_right _ (List.mem_append_right _ hb)))), ((pm p).cons a).trans (List.perm_middle).symm⟩
  | @tup a vs1 vs2 v0 ds1 ds2 d0 g1 g2 f0 fn d1 v1 fp1 rest n h r1 _ r2 ih =>
    obtain ⟨f', q, p⟩ := ih (fun b o e hm => k b o e fun z => List.mem_append_right _ (List.mem_append_left _ (hm z))) r
    exact ⟨_, .tup (k _ _ h fun z => nomatch z) ((r1.keep k fun b hb => List.mem_append_left _ hb).mid q (r2.keep k fun b hb => List.mem_append_right _ (List.mem_append_right _ hb))), pm p⟩
  | @dK a kvs1 kvs2 ky v0 ks ds1 ds2 d0 g1 g2 f0 fn d1 v1 fp1 rest n h e r1 _ r2 ih =>
    obtain ⟨f', q, p⟩ := ih (fun b o e hm => k b o e fun z => List.mem_cons_of_mem _ (List.mem_append_right _ (List.mem_append_left _ (hm z)))) r
    exact ⟨_, .dK (k _ _ h fun _ => List.mem_cons_self) e (by rw [List.map_append, List.map_cons]; exact (r1.keep k fun b hb => List.mem_cons_of_mem _ (List.mem_append_left _ hb)).mid q (r2.keep k fun b hb => List.mem_cons_of_mem _ (List.mem_append_right _ (List.mem_append_right _ hb)))), ((pm p).cons a).trans (List.perm_middle).symm⟩
  | @dT a kvs1 kvs2 ky v0 ks ds1 ds2 d0 g1 g2 f0 fn d1 v1 fp1 rest n h e r1 _ r2 ih =>
    obtain ⟨f', q, p⟩ := ih (fun b o e hm => k b o e fun z => List.mem_cons_of_mem _ (List.mem_append_right _ (List.mem_append_left _ (hm z)))) r
    exact ⟨_, .dT (k _ _ h fun _ => List.mem_cons_self) e (by rw [List.map_append, List.map_cons]; exact (r1.keep k fun b hb => List.mem_cons_of_mem _ (List.mem_append_left _ hb)).mid q (r2.keep k fun b hb => List.mem_cons_of_mem _ (List.mem_append_right _ (List.mem_append_right _ hb)))), ((pm p).cons a).trans (List.perm_middle).symm⟩
/-- the whole kept -/
theorem Sub.keep {d : D} {v : V} {fp : List Addr} {fn : D → D} {d1 : D} {v1 : V} {fp1 rest : List Addr} {n : Nat} (S : Sub K H d v fp fn d1 v1 fp1 rest n) (k : Keep (fun a => a ∈ fp) H H') : Sub K H' d v fp fn d1 v1 fp1 rest n := by
  induction S with
  | here r => exact .here (r.keep k fun _ h => h)
  | lst h r1 _ r2 ih => exact .lst (k _ _ h fun _ => List.mem_cons_self) (r1.keep k fun b hb => List.mem_cons_of_mem _ (List.mem_append_left _ hb)) (ih fun b o e hm => k b o e fun z => List.mem_cons_of_mem _ (List.mem_append_right _ (List.mem_append_left _ (hm z)))) (r2.keep k fun b hb => List.mem_cons_of_mem _ (List.mem_append_right _ (List.mem_append_right _ hb)))
  | tup h r1 _ r2 ih => exact .tup (k _ _ h fun z => nomatch z) (r1.keep k fun b hb => List.mem_append_left _ hb) (ih fun b o e hm => k b o e fun z => List.mem_append_right _ (List.mem_append_left _ (hm z))) (r2.keep k fun b hb => List.mem_append_right _ (List.mem_append_right _ hb))
  | dK h e r1 _ r2 ih => exact .dK (k _ _ h fun _ => List.mem_cons_self) e (r1.keep k fun b hb => List.mem_cons_of_mem _ (List.mem_append_left _ hb)) (ih fun b o e hm => k b o e fun z => List.mem_cons_of_mem _ (List.mem_append_right _ (List.mem_append_left _ (hm z)))) (r2.keep k fun b hb => List.mem_cons_of_mem _ (List.mem_append_right _ (List.mem_append_right _ hb)))
  | dT h e r1 _ r2 ih => exact .dT (k _ _ h fun _ => List.mem_cons_self) e (r1.keep k fun b hb => List.mem_cons_of_mem _ (List.mem_append_left _ hb)) (ih fun b o e hm => k b o e fun z => List.mem_cons_of_mem _ (List.mem_append_right _ (List.mem_append_left _ (hm z)))) (r2.keep k fun b hb => List.mem_cons_of_mem _ (List.mem_append_right _ (List.mem_append_right _ hb)))
theorem Sub.trans {d : D} {v : V} {fp : List Addr} {fn : D → D} {d1 : D} {v1 : V} {fp1 rest : List Addr} {n : Nat} (S : Sub K H d v fp fn d1 v1 fp1 rest n) {fm : D → D} {d2 : D} {v2 : V} {fp2 rest2 : List Addr} {m : Nat} (T : Sub K H d1 v1 fp1 fm d2 v2 fp2 rest2 m) : ∃ rest', Sub K H d v fp (fun x => fn (fm x)) d2 v2 fp2 rest' (n + m) := by
  induction S with
  | here r => exact ⟨rest2, by rw [Nat.zero_add]; exact T⟩
  | @lst a vs1 vs2 v0 ds1 ds2 d0 g1 g2 f0 fn d1 v1 fp1 rest n h r1 _ r2 ih =>
    obtain ⟨q, s⟩ := ih T
    exact ⟨_, by rw [Nat.add_right_comm]; exact .lst h r1 s r2⟩
  | @tup a vs1 vs2 v0 ds1 ds2 d0 g1 g2 f0 fn d1 v1 fp1 rest n h r1 _ r2 ih =>
    obtain ⟨q, s⟩ := ih T
    exact ⟨_, by rw [Nat.add_right_comm]; exact .tup h r1 s r2⟩
  | @dK a kvs1 kvs2 k v0 ks ds1 ds2 d0 g1 g2 f0 fn d1 v1 fp1 rest n h e r1 _ r2 ih =>
    obtain ⟨q, s⟩ := ih T
    exact ⟨_, by rw [Nat.add_right_comm]; exact .dK h e r1 s r2⟩
  | @dT a kvs1 kvs2 k v0 ks ds1 ds2 d0 g1 g2 f0 fn d1 v1 fp1 rest n h e r1 _ r2 ih =>
    obtain ⟨q, s⟩ := ih T
    exact ⟨_, by rw [Nat.add_right_comm]; exact .dT h e r1 s r2⟩
theorem mdeps_mid {ds1 ds2 : List D} {x y : D} {k : Nat} (h : ∀ d ∈ ds1 ++ y :: ds2, mdep d ≤ k) (hx : mdep x ≤ k) : ∀ d ∈ ds1 ++ x :: ds2, mdep d ≤ k := fun d hd => by
  rcases List.mem_append.mp hd with q | q
  · exact h d (List.mem_append_left _ q)
  · rcases List.mem_cons.mp q with e | q
    · subst e; exact hx
    · exact h d (List.mem_append_right _ (List.mem_cons_of_mem _ q))
theorem Sub.dep {d : D} {v : V} {fp : List Addr} {fn : D → D} {d1 : D} {v1 : V} {fp1 rest : List Addr} {n : Nat} (S : Sub K H d v fp fn d1 v1 fp1 rest n) {x : D} : ∀ {k : Nat}, mdep d ≤ k → mdep x + n ≤ k → mdep (fn x) ≤ k := by
  induction S with
  | here r => intro k _ h; exact h
  | lst h r1 _ r2 ih =>
    intro k h1 h2
    exact Nat.le_trans (le_mdep_lst (mdeps_mid (x := _) (mdep_lst_le h1) (ih (k := k - 1) (mdep_lst_le h1 _ (by simp)) (by omega)))) (by omega)
  | tup h r1 _ r2 ih =>
    intro k h1 h2
    refine Nat.le_trans (le_mdep_tup (mdeps_mid (x := _) (mdep_tup_le h1) (ih (k := k - 1) (mdep_tup_le h1 _ (by simp)) (by omega)))) ?_
    split <;> omega
  | dK h e r1 _ r2 ih =>
    intro k h1 h2
    refine Nat.le_trans (le_mdep_dct (mdeps_mid (x := _) (mdep_dct_le h1) (ih (k := k - 1) (mdep_dct_le h1 _ (by simp)) (by omega)))) (by omega)
  | dT h e r1 _ r2 ih =>
    intro k h1 h2
    refine Nat.le_trans (le_mdep_dct (mdeps_mid (x := _) (mdep_dct_le h1) (ih (k := k - 1) (mdep_dct_le h1 _ (by simp)) (by omega)))) (by omega)
end

/-! ### places by their keys -/
/-- one step down: no part of the script -/
def opIxM (d k : D) : Option D := match d with
  | .frz _ => none
  | d => opIx d k
def getP : List D → D → Option D
  | [], d => some d
  | k :: ks, d => (opIxM d k).bind (getP ks)
/-- one part of a list of data -/
def putAt (ds : List D) (i : Nat) (f : D → Option D) : Option (List D) := (ds[i]?).bind fun d => (f d).map fun y => ds.set i y
def dixOf : List D → D → Nat
  | [], _ => 0
  | k :: ks, x => if keqT k x then 0 else dixOf ks x + 1
/-- one part another -/
def set1 (k : D) (d : D) (f : D → Option D) : Option D := match d, k with
  | .lst ds, .int i => (ixN ds.length i).bind fun j => (putAt ds j f).map .lst
  | .tup ds, .int i => (ixN ds.length i).bind fun j => (putAt ds j f).map .tup
  | .dct t kk vs, k => if kfit t k then (putAt vs (dixOf kk k) f).map (.dct t kk) else none
  | _, _ => none
def modP : List D → D → (D → Option D) → Option D
  | [], d, f => f d
  | k :: ks, d, f => set1 k d fun e => modP ks e f
theorem modP_app : ∀ {ks : List D} {k d : D} {f : D → Option D}, modP (ks ++ [k]) d f = modP ks d fun e => set1 k e f
  | [], k, d, f => rfl
  | l :: ks, k, d, f => by
    show set1 l d (fun e => modP (ks ++ [k]) e f) = set1 l d (fun e => modP ks e fun e => set1 k e f)
    congr 1
    funext e
    exact modP_app
theorem getP_app : ∀ {ks : List D} {k d : D}, getP (ks ++ [k]) d = (getP ks d).bind fun e => opIxM e k
  | [], k, d => by
    show (opIxM d k).bind (getP []) = opIxM d k
    cases opIxM d k <;> rfl
  | l :: ks, k, d => by
    show (opIxM d l).bind (getP (ks ++ [k])) = ((opIxM d l).bind (getP ks)).bind _
    cases opIxM d l with
    | none => rfl
    | some e => exact getP_app
theorem putAt_mid {ds1 ds2 : List D} {d : D} {f : D → Option D} : putAt (ds1 ++ d :: ds2) ds1.length f = (f d).map fun y => ds1 ++ y :: ds2 := by
  unfold putAt
  rw [List.getElem?_append_right (Nat.le_refl _), Nat.sub_self]
  show (f d).map _ = _
  congr 1
  funext y
  rw [List.set_append_right _ _ (Nat.le_refl _), Nat.sub_self]; rfl
theorem split_at {α : Type} {l : List α} {i : Nat} {x : α} (h : l[i]? = some x) : ∃ l1 l2, l = l1 ++ x :: l2 ∧ l1.length = i := by
  have hi := (List.getElem?_eq_some_iff.mp h).1
  refine ⟨l.take i, l.drop (i + 1), ?_, by rw [List.length_take]; omega⟩
  rw [(List.getElem?_eq_some_iff.mp h).2.symm, List.getElem_cons_drop, List.take_append_drop]
section
variable {K : PySem.W.Frag} {H : Hp}
theorem Reps.split : ∀ {ds1 ds2 : List D} {d : D} {vs : List V} {fp : List Addr}, Reps K H (ds1 ++ d :: ds2) vs fp → ∃ vs1 v vs2 g1 f g2, vs = vs1 ++ v :: vs2 ∧ fp = g1 ++ (f ++ g2) ∧ Reps K H ds1 vs1 g1 ∧ Rep K H d v f ∧ Reps K H ds2 vs2 g2
  | [], ds2, d, _, _, .cons r t => ⟨[], _, _, [], _, _, rfl, rfl, .nil, r, t⟩
  | e :: ds1, ds2, d, _, _, .cons (f := f) r t => by
    obtain ⟨vs1, v, vs2, g1, f', g2, e1, e2, h1, h2, h3⟩ := Reps.split t
    exact ⟨_ :: vs1, v, vs2, f ++ g1, f', g2, by rw [e1]; rfl, by rw [e2, List.append_assoc], .cons r h1, h2, h3⟩
theorem atI_split {ds : List D} {i : Int} {d : D} (h : L2.atI ds i = some d) : ∃ j ds1 ds2, ixN ds.length i = some j ∧ ds = ds1 ++ d :: ds2 ∧ ds1.length = j := by
  unfold L2.atI at h
  cases e : ixN ds.length i with
  | none => rw [e] at h; cases h
  | some j =>
    rw [e] at h
    obtain ⟨l1, l2, e1, e2⟩ := split_at (show ds[j]? = some d from h)
    exact ⟨j, l1, l2, rfl, e1, e2⟩
theorem dsplit_K {k : Key} : ∀ {kvs : List (Key × V)} {ds : List D} {fp : List Addr} {d : D}, Reps K H ds (kvs.map (·.2)) fp → dfind (kvs.map fun p => kD p.1) ds (kD k) = some d →
    ∃ kvs1 k' v kvs2 ds1 ds2 g1 f g2, kvs = kvs1 ++ (k', v) :: kvs2 ∧ ds = ds1 ++ d :: ds2 ∧ fp = g1 ++ (f ++ g2) ∧ Reps K H ds1 (kvs1.map (·.2)) g1 ∧ Rep K H d v f ∧ Reps K H ds2 (kvs2.map (·.2)) g2 ∧ dixOf (kvs.map fun p => kD p.1) (kD k) = ds1.length ∧ valV kvs k = some v
  | [], _, _, _, r, h => by cases r; cases h
  | p :: kvs, _, _, d, r, h => by
    cases r with
    | @cons d0 v f ds vs g r t =>
      simp only [List.map_cons, dfind, keqT_kD] at h
      by_cases e : p.1 = k
      · rw [decide_eq_true e] at h
        cases h
        refine ⟨[], p.1, p.2, kvs, [], ds, [], f, g, rfl, rfl, rfl, .nil, r, t, ?_, valV_pos e⟩
        simp [dixOf, keqT_kD, e]
      · rw [decide_eq_false e] at h
        obtain ⟨kvs1, k', v, kvs2, ds1, ds2, g1, f', g2, e1, e2, e3, h1, h2, h3, h4, h5⟩ := dsplit_K (k := k) t (by simpa using h)
        refine ⟨p :: kvs1, k', v, kvs2, d0 :: ds1, ds2, f ++ g1, f', g2, by rw [e1]; rfl, by rw [e2]; rfl, by rw [e3, List.append_assoc], .cons r h1, h2, h3, ?_, by rw [valV_neg e]; exact h5⟩
        simp only [List.map_cons, dixOf, keqT_kD, decide_eq_false e, Bool.false_eq_true, if_false, h4, List.length_cons]
theorem dsplit_T {k : List Key} : ∀ {kvs : List (List Key × V)} {ds : List D} {fp : List Addr} {d : D}, Reps K H ds (kvs.map (·.2)) fp → dfind (kvs.map fun p => D.tup (p.1.map kD)) ds (.tup (k.map kD)) = some d →
    ∃ kvs1 k' v kvs2 ds1 ds2 g1 f g2, kvs = kvs1 ++ (k', v) :: kvs2 ∧ ds = ds1 ++ d :: ds2 ∧ fp = g1 ++ (f ++ g2) ∧ Reps K H ds1 (kvs1.map (·.2)) g1 ∧ Rep K H d v f ∧ Reps K H ds2 (kvs2.map (·.2)) g2 ∧ dixOf (kvs.map fun p => D.tup (p.1.map kD)) (.tup (k.map kD)) = ds1.length ∧ valV kvs k = some v
  | [], _, _, _, r, h => by cases r; cases h
  | p :: kvs, _, _, d, r, h => by
    cases r with
    | @cons d0 v f ds vs g r t =>
      simp only [List.map_cons, dfind, keqT_tup] at h
      by_cases e : p.1 = k
      · rw [decide_eq_true e] at h
        cases h
        refine ⟨[], p.1, p.2, kvs, [], ds, [], f, g, rfl, rfl, rfl, .nil, r, t, ?_, valV_pos e⟩
        simp [dixOf, keqT_tup, e]
      · rw [decide_eq_false e] at h
        obtain ⟨kvs1, k', v, kvs2, ds1, ds2, g1, f', g2, e1, e2, e3, h1, h2, h3, h4, h5⟩ := dsplit_T (k := k) t (by simpa using h)
        refine ⟨p :: kvs1, k', v, kvs2, d0 :: ds1, ds2, f ++ g1, f', g2, by rw [e1]; rfl, by rw [e2]; rfl, by rw [e3, List.append_assoc], .cons r h1, h2, h3, ?_, by rw [valV_neg e]; exact h5⟩
        simp only [List.map_cons, dixOf, keqT_tup, decide_eq_false e, Bool.false_eq_true, if_false, h4, List.length_cons]
/-- one step down, told as a part -/
theorem ix_sub {d k d1 : D} {x y : V} {fp gp : List Addr} (ra : Rep K H d x fp) (rb : Rep K H k y gp) (h : opIxM d k = some d1) :
    ∃ v1 fn fp1 rest, Sub K H d x fp fn d1 v1 fp1 rest 1 ∧ (∀ f : D → Option D, set1 k d f = (f d1).map fn) ∧ ∀ Q : VK, Q v1 H → rIxA K x y H Q := by
  cases d with
  | lst ds =>
    cases k with
    | int i =>
      obtain ⟨rfl, rfl⟩ := rb.int_inv
      obtain ⟨j, ds1, ds2, e1, e2, e3⟩ := atI_split (show L2.atI ds i = some d1 from h)
      subst e2
      cases ra with
      | lst h1 r1 =>
        obtain ⟨vs1, v, vs2, g1, f, g2, q1, q2, r2, r3, r4⟩ := r1.split
        subst q1 q2
        refine ⟨v, _, f, _, .lst h1 r2 (.here r3) r4, fun F => ?_, fun Q q => .inl ⟨_, _, i, v, rfl, rfl, SqL.of h1, ?_, q⟩⟩
        · show (ixN _ i).bind _ = _
          rw [e1]
          show (putAt _ j F).map D.lst = _
          rw [← e3, putAt_mid, Option.map_map]; rfl
        · unfold L2.atI
          rw [← r1.length, e1]
          show (vs1 ++ v :: vs2)[j]? = some v
          rw [← e3, r2.length, List.getElem?_append_right (Nat.le_refl _), Nat.sub_self]; rfl
    | _ => cases h
  | tup ds =>
    cases k with
    | int i =>
      obtain ⟨rfl, rfl⟩ := rb.int_inv
      obtain ⟨j, ds1, ds2, e1, e2, e3⟩ := atI_split (show L2.atI ds i = some d1 from h)
      subst e2
      cases ra with
      | tup h1 r1 =>
        obtain ⟨vs1, v, vs2, g1, f, g2, q1, q2, r2, r3, r4⟩ := r1.split
        subst q1 q2
        refine ⟨v, _, f, _, .tup h1 r2 (.here r3) r4, fun F => ?_, fun Q q => .inr (.inl ⟨_, _, i, v, rfl, rfl, SqT.of h1, ?_, q⟩)⟩
        · show (ixN _ i).bind _ = _
          rw [e1]
          show (putAt _ j F).map D.tup = _
          rw [← e3, putAt_mid, Option.map_map]; rfl
        · unfold L2.atI
          rw [← r1.length, e1]
          show (vs1 ++ v :: vs2)[j]? = some v
          rw [← e3, r2.length, List.getElem?_append_right (Nat.le_refl _), Nat.sub_self]; rfl
    | _ => cases h
  | dct t ks ds =>
    have h' : (if kfit t k then dfind ks ds k else none) = some d1 := h
    split at h'
    · rename_i hk
      cases ra with
      | @dK a kvs _ _ fp h1 e r =>
        obtain ⟨key, hkey⟩ := Option.isSome_iff_exists.mp (show (keyK k).isSome = true from hk)
        have e2 := keyK_eq hkey
        subst e2 e
        have ey := rb.key
        subst ey
        obtain ⟨kvs1, k', v, kvs2, ds1, ds2, g1, f, g2, q1, q2, q3, r2, r3, r4, q4, q5⟩ := dsplit_K (k := key) r h'
        subst q1 q2 q3
        refine ⟨v, _, f, _, .dK h1 rfl r2 (.here r3) r4, fun F => ?_, fun Q q => .inr (.inr ⟨a, v, rfl, by rw [← q5]; exact DGet.k h1, q⟩)⟩
        show (if kfit false (kD key) then (putAt _ (dixOf _ (kD key)) F).map _ else none) = _
        rw [if_pos hk, q4, putAt_mid, Option.map_map]; rfl
      | @dT a kvs _ _ fp h1 e r =>
        cases k with
        | tup kk =>
          obtain ⟨key, hkey⟩ := Option.isSome_iff_exists.mp (show (keysK kk).isSome = true from hk)
          have e2 := keysK_eq hkey
          subst e2 e
          cases rb with
          | tup hb rr =>
            have ev := rr.keys
            subst ev
            obtain ⟨kvs1, k', v, kvs2, ds1, ds2, g1, f, g2, q1, q2, q3, r2, r3, r4, q4, q5⟩ := dsplit_T (k := key) r h'
            subst q1 q2 q3
            refine ⟨v, _, f, _, .dT h1 rfl r2 (.here r3) r4, fun F => ?_, fun Q q => .inr (.inr ⟨a, v, rfl, by rw [← q5]; exact DGet.t h1 hb, q⟩)⟩
            show (if kfit true (.tup (key.map kD)) then (putAt _ (dixOf _ (.tup (key.map kD))) F).map _ else none) = _
            rw [if_pos hk, q4, putAt_mid, Option.map_map]; rfl
        | _ => cases hk
    · cases h'
  | _ => cases h
end
/-- an expression that is a place within the own local j; n: how deep -/
structure DP (X : Cx) (G : List Mode) (e : Expr) (j n : Nat) (kf : Ev → Option (List D)) : Prop where
  run : ∃ t, PE X e t ∧ ∀ sl σ H fs ks d d1 (Q : VK), SR X.K G sl σ H fs → kf sl = some ks → eVar j sl = some d → getP ks d = some d1 →
    (∀ vj v H' fp1 rest fn, Ext H H' → σ[j]? = some (some vj) → Sub X.K H' d vj (fs j) fn d1 v fp1 rest n → (∀ f, modP ks d f = (f d1).map fn) → Q v H') → t σ H Q
def kNil : Ev → Option (List D) := fun _ => some []
def kIx (kf : Ev → Option (List D)) (g : Ev → Option D) : Ev → Option (List D) := fun sl => (kf sl).bind fun ks => (g sl).map fun k => ks ++ [k]
theorem dp_name {X : Cx} {G : List Mode} {j : Nat} {x : Str} {pos : Pos} (hn : (md G j).isNo = false) (hN : X.N[j]? = some x) (hv : Vis X.env.scope x) (hd : (x == ("__debug__" : Str)) = false := by decide) (hcd : (x == ("__classdict__" : Str)) = false := by decide) : DP X G (.Name x pos) j 0 kNil := by
  refine ⟨_, pe_var hN hv hd hcd, fun sl σ H fs ks d d1 Q S hk he hg hq => ?_⟩
  cases hk
  cases hg
  have ne : md G j ≠ .no := fun z => by rw [z] at hn; cases hn
  obtain ⟨d', v, h1, h2, r, _⟩ := S.val j ne
  rw [eVar_some h1] at he; cases he
  exact ⟨v, h2, hq v v H (fs j) [] _ (Ext.refl H) h2 (.here r) fun f => by show f d = (f d).map _; cases f d <;> rfl⟩
theorem dp_ix {X : Cx} {G : List Mode} {a b : Expr} {j n : Nat} {mb : RM} {kf : Ev → Option (List D)} {g : Ev → Option D} {pos : Pos} (hu : X.A.units + 64 < cLine) (hn : (md G j).isNo = false) (A : DP X G a j n kf) (B : PD X G b mb g) (hs : PlainIx b := by exact fun _ _ => rfl) :
    DP X G (.Subscript a b pos) j (n + 1) (kIx kf g) := by
  obtain ⟨ta, pa, ra⟩ := A.run
  obtain ⟨tb, pb, rb⟩ := B.use
  refine ⟨_, pe_ix (ix_all (by omega)) pa pb hs, fun sl σ H fs ks d d1 Q S hk he hg hq => ?_⟩
  obtain ⟨ks0, h1, hk⟩ := Option.bind_eq_some_iff.mp hk
  obtain ⟨k, h2, e⟩ := Option.map_eq_some_iff.mp hk
  subst e
  rw [getP_app] at hg
  obtain ⟨d0, h3, h4⟩ := Option.bind_eq_some_iff.mp hg
  refine ra sl σ H fs ks0 d d0 _ S h1 he h3 fun vj v H1 fp1 rest fn E hvj Sb hm => ?_
  refine rb sl σ H1 fs k _ (S.same E) h2 fun u H2 gp O => ?_
  have ne : md G j ≠ .no := fun z => by rw [z] at hn; cases hn
  have Sb2 := Sb.keep (H' := H2) fun a o e _ => O.same.same a o e
  obtain ⟨v1, fn1, fp2, rest2, S1, hs1, hQ⟩ := ix_sub Sb2.rep.2.1 O.rep h4
  obtain ⟨rest', S2⟩ := Sb2.trans S1
  refine hQ _ (hq vj v1 H2 fp2 rest' _ (E.trans O.same) hvj S2 fun f => ?_)
  rw [modP_app, hm, hs1, Option.map_map]; rfl
end Dw
/-! Dw, part P: writing within an own local. -/
namespace Dw
open PySem PySem.Spec PyProof.Rows L2

section
variable {K : PySem.W.Frag} {G G1 : List Mode} {sl1 : Ev} {σ : L2.St} {H H1 H2 : Hp} {fs fs1 : Nat → List Addr} {j k k2 : Nat} {d2 : D} {vj : V} {fp2 : List Addr}
theorem own_lt (h : (md G j).own = true) : j < G.length := by
  by_cases q : j < G.length
  · exact q
  · rw [md_none q] at h; cases h
theorem mut_sr (S : SR K G1 sl1 σ H1 fs1) (hj : (md G1 j).own = true) (hv : σ[j]? = some (some vj)) (E : ∀ a o, H1 a = some o → a ∉ fs1 j → H2 a = some o) (sz : Sz H2) (r : Rep K H2 d2 vj fp2) (dd : mdep d2 ≤ k2) (nd : fp2.Nodup)
    (cells : ∀ a ∈ fp2, a ∈ fs1 j ∨ ∀ i, md G1 i ≠ .no → a ∉ fs1 i) : SR K ((kill [j] G1).set j (.ow k2)) (sl1.set j (some d2)) σ H2 (fset fs1 j fp2) := by
  have hjl : j < (kill [j] G1).length := by rw [kill_len]; exact own_lt hj
  have hjs : j < sl1.length := S.lt (own_ne_no hj)
  have hm : ∀ i, md ((kill [j] G1).set j (.ow k2)) i = if i = j then .ow k2 else md (kill [j] G1) i := fun i => md_set hjl
  have kk : ∀ {i}, md (kill [j] G1) i ≠ .no → md (kill [j] G1) i = md G1 i := fun {i} h => by rw [md_kill] at h ⊢; exact killM_ne h
  -- a view that stays has no cell of j
  have far : ∀ i, i ≠ j → md (kill [j] G1) i ≠ .no → ∀ a ∈ fs1 i, a ∉ fs1 j := fun i ne h a ha haj => by
    have e := kk h
    have h1 : md G1 i ≠ .no := by rw [← e]; exact h
    by_cases o : (md G1 i).own = true
    · exact S.dj i j o hj ne a ha haj
    · cases e3 : md G1 i with
      | no => exact h1 e3
      | ow _ => rw [e3] at o; exact o rfl
      | lk _ => rw [e3] at o; exact o rfl
      | vw l rs =>
        rw [md_kill, e3] at e
        obtain ⟨_, z⟩ := killM_vw e
        by_cases l0 : l = 0
        · obtain ⟨d', v', _, _, r', m'⟩ := S.val i h1
          rw [e3] at m'
          have m2 : mdep d' ≤ l := m'
          rw [r'.imm (by omega)] at ha; cases ha
        · exact z l0 j (S.vw i l rs e3 a ha j hj haj) List.mem_cons_self
  refine ⟨by rw [List.length_set]; exact S.len, sz, fun i hi => ?_, fun i hi => ?_, fun i l hi hl ne a ha hal => ?_, fun i l rs e a ha b hb hab => ?_⟩
  · rw [hm] at hi ⊢
    unfold fset
    by_cases e : i = j
    · subst e
      rw [if_pos rfl, if_pos rfl]
      exact ⟨d2, vj, List.getElem?_set_self hjs, hv, r, dd⟩
    · rw [if_neg e] at hi ⊢
      rw [if_neg e]
      have q := kk hi
      obtain ⟨d', v', h1, h2, r', m'⟩ := S.val i (by rw [← q]; exact hi)
      refine ⟨d', v', by rw [List.getElem?_set_ne (Ne.symm e)]; exact h1, h2, ?_, by rw [q]; exact m'⟩
      refine r'.keep (U := fun a => a ∈ fs1 i) (fun a o e' hm' => E a o e' fun haj => ?_) fun a ha => ha
      obtain ⟨o', e2, m2⟩ := S.mem (own_ne_no hj) haj
      rw [e'] at e2; cases e2
      exact far i e hi a (hm' m2) haj
  · rw [hm] at hi
    unfold fset
    by_cases e : i = j
    · rw [if_pos e]; exact nd
    · rw [if_neg e] at hi ⊢
      rw [own_kill] at hi
      exact S.nd i hi
  · rw [hm] at hi hl
    unfold fset at ha hal
    by_cases e : i = j
    · subst e
      have e2 : ¬ l = i := Ne.symm ne
      rw [if_pos rfl] at ha
      rw [if_neg e2] at hl hal
      rw [own_kill] at hl
      rcases cells a ha with q | q
      · exact S.dj i l hj hl ne a q hal
      · exact q l (own_ne_no hl) hal
    · rw [if_neg e] at hi ha
      rw [own_kill] at hi
      by_cases e2 : l = j
      · subst e2
        rw [if_pos rfl] at hal
        rcases cells a hal with q | q
        · exact S.dj i l hi hj e a ha q
        · exact q i (own_ne_no hi) ha
      · rw [if_neg e2] at hl hal
        rw [own_kill] at hl
        exact S.dj i l hi hl ne a ha hal
  · rw [hm] at e hb
    unfold fset at ha hab
    by_cases e1 : i = j
    · rw [if_pos e1] at e; cases e
    · rw [if_neg e1] at e ha
      have nn : md (kill [j] G1) i ≠ .no := by rw [e]; simp
      have q := kk nn
      rw [e] at q
      by_cases e2 : b = j
      · subst e2
        rw [if_pos rfl] at hab
        rcases cells a hab with z | z
        · exact absurd z (far i e1 nn a ha)
        · exact absurd ha (z i (by rw [← q]; simp))
      · rw [if_neg e2] at hb hab
        rw [own_kill] at hb
        exact S.vw i l rs q.symm a ha b hb hab
theorem mut_ts (T : TS G fs H G1 fs1 H1) (S : SR K G1 sl1 σ H1 fs1) (hj : md G1 j = .ow k) (E : ∀ a o, H1 a = some o → a ∉ fs1 j → H2 a = some o) (E2 : ∀ a, H2 a = none → H1 a = none)
    (cells : ∀ a ∈ fp2, a ∈ fs1 j ∨ (∃ i, (md G i).own = true ∧ a ∈ fs i) ∨ H a = none) : TS G fs H ((kill [j] G1).set j (.ow k2)) (fset fs1 j fp2) H2 := by
  have oj : (md G1 j).own = true := by rw [hj]; rfl
  have hjl : j < (kill [j] G1).length := by rw [kill_len]; exact own_lt oj
  have hm : ∀ i, md ((kill [j] G1).set j (.ow k2)) i = if i = j then .ow k2 else md (kill [j] G1) i := fun i => md_set hjl
  have cj : ∀ a ∈ fp2, (∃ i, (md G i).own = true ∧ a ∈ fs i) ∨ H a = none := fun a ha => (cells a ha).elim (fun q => T.s3 j oj a q) id
  refine ⟨⟨fun a o h hn => E a o (T.s1 a o h hn) fun haj => ?_, fun a h => T.s2 a (E2 a h), fun i hi a ha => ?_, fun i hi a ha => ?_⟩, fun i l h => ?_⟩
  · rcases T.s3 j oj a haj with ⟨i, hi, q⟩ | q
    · cases e : md G i with
      | no => rw [e] at hi; cases hi
      | vw _ _ => rw [e] at hi; cases hi
      | ow k' => exact hn i k' e q
      | lk k' =>
        obtain ⟨e1, e2⟩ := T.s4 i k' e
        exact S.dj i j (by rw [e1]; rfl) oj (fun z => by subst z; rw [hj] at e1; cases e1) a (by rw [e2]; exact q) haj
    · rw [h] at q; cases q
  · rw [hm] at hi
    unfold fset at ha
    by_cases e : i = j
    · rw [if_pos e] at ha; exact cj a ha
    · rw [if_neg e] at hi ha
      rw [own_kill] at hi
      exact T.s3 i hi a ha
  · rw [hm] at hi
    unfold fset at ha
    by_cases e : i = j
    · rw [if_pos e] at ha
      exact (cj a ha).imp (fun ⟨i, hi, q⟩ => ⟨i, own_ne_no hi, q⟩) id
    · rw [if_neg e] at hi ha
      refine T.s5 i (fun z => hi ?_) a ha
      rw [md_kill, z]; rfl
  · obtain ⟨e1, e2⟩ := T.s4 i l h
    have ne : i ≠ j := fun z => by subst z; rw [hj] at e1; cases e1
    rw [hm]
    unfold fset
    rw [if_neg ne, if_neg ne]
    exact ⟨kill_lk e1, e2⟩
end

/-! ### methods that write their object -/
/-- r writes the object by op -/
def MutR (K : PySem.W.Frag) (T : String) (r : V → List V → Hp → VK → Prop) (op : D → List D → Option D) : Prop :=
  (∀ d1 ds z, op d1 ds = some z → 1 ≤ mdep d1) ∧ (∀ H d1 v fp ds z, op d1 ds = some z → Rep K H d1 v fp → tyV K T v H) ∧ (∀ d1 ds z k, op d1 ds = some z → mdep d1 ≤ k → (∀ d ∈ ds, mdep d + 1 ≤ k) → mdep z ≤ k) ∧
  ∀ H v d1 fp1 ds vs fps z (Q : VK), Sz H → Rep K H d1 v fp1 → Reps K H ds vs fps → op d1 ds = some z → (fp1 ++ fps).Nodup →
    (∀ a o fz, a ∈ fp1 → v = .ref a → szO o = true → Rep K (upd H a o) z v fz → fz.Nodup → (∀ b ∈ fz, b ∈ fp1 ∨ b ∈ fps) → Q .non (upd H a o)) → r v vs H Q
def sMeth (j : Nat) (kf : Ev → Option (List D)) (fr : Ev → Option (List D × Ev)) (op : D → List D → Option D) : Ev → Option Fl := fun sl =>
  (kf sl).bind fun ks => (eVar j sl).bind fun d => (getP ks d).bind fun _ => (fr sl).bind fun p => (modP ks d fun e => op e p.1).map fun d2 => .nx (p.2.set j (some d2))
theorem Sub.dep1 {K : PySem.W.Frag} {H : Hp} {d : D} {v : V} {fp : List Addr} {fn : D → D} {d1 : D} {v1 : V} {fp1 rest : List Addr} {n : Nat} (S : Sub K H d v fp fn d1 v1 fp1 rest n) (h : 1 ≤ mdep d1) : mdep d1 + n ≤ mdep d := by
  induction S with
  | here r => exact Nat.le_refl _
  | @lst a vs1 vs2 v0 ds1 ds2 d0 g1 g2 f0 fn d1 v1 fp1 rest n h1 r1 _ r2 ih =>
    have q := ih h
    have := mdep_lst_le (Nat.le_refl (mdep (.lst (ds1 ++ d0 :: ds2)))) d0 (by simp)
    have p1 : 1 ≤ mdep (.lst (ds1 ++ d0 :: ds2)) := by unfold mdep; omega
    omega
  | @tup a vs1 vs2 v0 ds1 ds2 d0 g1 g2 f0 fn d1 v1 fp1 rest n h1 r1 _ r2 ih =>
    have q := ih h
    have := mdep_tup_le (Nat.le_refl (mdep (.tup (ds1 ++ d0 :: ds2)))) d0 (by simp)
    omega
  | @dK a kvs1 kvs2 k v0 ks ds1 ds2 d0 g1 g2 f0 fn d1 v1 fp1 rest n h1 e r1 _ r2 ih =>
    have q := ih h
    have := mdep_dct_le (Nat.le_refl (mdep (.dct false ks (ds1 ++ d0 :: ds2)))) d0 (by simp)
    have p1 : 1 ≤ mdep (.dct false ks (ds1 ++ d0 :: ds2)) := by unfold mdep; omega
    omega
  | @dT a kvs1 kvs2 k v0 ks ds1 ds2 d0 g1 g2 f0 fn d1 v1 fp1 rest n h1 e r1 _ r2 ih =>
    have q := ih h
    have := mdep_dct_le (Nat.le_refl (mdep (.dct true ks (ds1 ++ d0 :: ds2)))) d0 (by simp)
    have p1 : 1 ≤ mdep (.dct true ks (ds1 ++ d0 :: ds2)) := by unfold mdep; omega
    omega
/-- the whole behind a write in a part -/
theorem Sub.mut {K : PySem.W.Frag} {H : Hp} {d : D} {v : V} {fp : List Addr} {fn : D → D} {d1 : D} {v1 : V} {fp1 rest fps : List Addr} {n : Nat} (S : Sub K H d v fp fn d1 v1 fp1 rest n) (nd : fp.Nodup) {a : Addr} {o : HO} {z : D} {fz : List Addr} (ha : a ∈ fp1) (r : Rep K (upd H a o) z v1 fz) (ndz : fz.Nodup)
    (hf : ∀ b ∈ fz, b ∈ fp1 ∨ b ∈ fps) (off : ∀ b ∈ fps, b ∉ fp) : ∃ fp', Rep K (upd H a o) (fn z) v fp' ∧ fp'.Nodup ∧ ∀ b ∈ fp', b ∈ fp ∨ b ∈ fps := by
  obtain ⟨_, r1, pm⟩ := S.rep
  have nd' := pm.nodup_iff.mp nd
  obtain ⟨n1, n2, n3⟩ := List.nodup_append.mp nd'
  have sub1 : ∀ b ∈ fp1, b ∈ fp := fun b hb => pm.mem_iff.mpr (List.mem_append_left _ hb)
  have sub2 : ∀ b ∈ rest, b ∈ fp := fun b hb => pm.mem_iff.mpr (List.mem_append_right _ hb)
  have kp : Keep (fun b => b ∈ rest) H (upd H a o) := fun b u e hm => by
    have ne : b ≠ a := fun z => by
      subst z
      obtain ⟨o', e', m'⟩ := r1.mem b ha
      rw [e] at e'; cases e'
      exact n3 b ha b (hm m') rfl
    rw [upd_ne ne]; exact e
  obtain ⟨fp', q1, q2⟩ := S.set kp r
  refine ⟨fp', q1, q2.nodup_iff.mpr (List.nodup_append.mpr ⟨ndz, n2, fun b hb c hc e => ?_⟩), fun b hb => ?_⟩
  · subst e
    rcases hf b hb with z | z
    · exact n3 b z b hc rfl
    · exact off b z (sub2 b hc)
  · rcases List.mem_append.mp (q2.mem_iff.mp hb) with z | z
    · exact (hf b z).imp (sub1 b) id
    · exact .inl (sub2 b z)
section
variable {X : Cx} {R : RetS} {G G1 Gb Gc : List Mode} {o e : Expr} {es : List Expr} {ms : List RM} {j n : Nat} {kf : Ev → Option (List D)} {fr : Ev → Option (List D × Ev)} {name : Str} {apos cpos pos : Pos} {T id : String} {r : V → List V → Hp → VK → Prop} {op : D → List D → Option D}
def methG (j n : Nat) (ms : List RM) (G G1 : List Mode) : List Mode := (kill [j] (unlockG [j] G G1)).set j (.ow (max (md G j).k (kMax ms + 1 + n)))
theorem ds_meth (pa : PySem.PlainAttrs T) (slot : PySem.Slot T name id) (hty : typeOf (.builtin id) = pure (.type "method_descriptor")) (hm : MtR X id r) (hr : MutR X.K T r op) (A : DP X G o j n kf) (hj : isOw (md G j) = true) (B : DVs X (lockG [j] G) (e :: es) ms G1 fr)
    (hsw : swapsWith (.Call (.Attribute o name apos) (e :: es) [] cpos) none pos.line X.env = pure false := by rfl)
    (hbase : attributeBase o name X.env (eval o X.env) = eval o X.env := by rfl)
    (hfew : ((backTo cpos (starEach (e :: es) X.env)).all (fun x => !x.1) && (backToKw cpos (keywordEach [] X.env)).all (fun x => x.1.isSome)
      && decide ((e :: es).length + ([] : List Keyword).length + (if ([] : List Keyword).isEmpty then 0 else 1) < 30)) = true := by rfl)
    (hline : (apos.endLine == cpos.line) = true := by rfl) (hs : starEach (e :: es) X.env = (false, eval e X.env) :: starEach es X.env := by rfl) (hplain : (backTo cpos (starEach es X.env)).any (·.1) = false := by rfl) :
    DS X R G (.Expr (.Call (.Attribute o name apos) (e :: es) [] cpos) pos) (methG j n ms G G1) Gb Gc (sMeth j kf fr op) := by
  obtain ⟨k, hk⟩ := isOw_ex hj
  obtain ⟨ta, pa', ra⟩ := A.run
  obtain ⟨tb, pb, rb⟩ := B.run
  refine ⟨_, ps_expr (pe_bm pa slot hty hm pa' pb hbase hfew hline hs hplain) hsw, fun sl σ H fs fl Dn S h P => ?_⟩
  unfold sMeth at h
  obtain ⟨ks, h1, h⟩ := Option.bind_eq_some_iff.mp h
  obtain ⟨d, h2, h⟩ := Option.bind_eq_some_iff.mp h
  obtain ⟨d1, h3, h⟩ := Option.bind_eq_some_iff.mp h
  obtain ⟨p, h4, h⟩ := Option.bind_eq_some_iff.mp h
  obtain ⟨ds, sl1⟩ := p
  obtain ⟨d2, h5, e5⟩ := Option.map_eq_some_iff.mp h
  subst e5
  refine ra sl σ H fs ks d d1 _ S h1 h2 h3 fun vj v H0 fp1 rest fn E hvj Sb hmod => ?_
  rw [hmod] at h5
  obtain ⟨z, h6, e6⟩ := Option.map_eq_some_iff.mp h5
  subst e6
  refine ⟨hr.2.1 H0 d1 v fp1 ds z h6 Sb.rep.2.1, ?_⟩
  have S0 := S.same E
  refine rb sl σ H0 fs ds sl1 _ (S0.lock (rs := [j])) h4 fun vs H1 fs1 fps O => ?_
  have lkj : md (lockG [j] G) j = .lk k := by rw [md_lock, hk]; simp [lockM]
  obtain ⟨lk1, efs⟩ := O.ts.s4 j k lkj
  -- the object is as it was
  have Sb1 : Sub X.K H1 d vj (fs j) fn d1 v fp1 rest n := Sb.keep fun a o e hm => O.ts.s1 a o e fun i k' hi hai => by
    obtain ⟨hi', hni⟩ := lockM_ow (by rw [← md_lock]; exact hi)
    have oi : (md G i).own = true := by rw [hi']; rfl
    obtain ⟨o', e', m'⟩ := S0.mem (own_ne_no oi) hai
    rw [e] at e'; cases e'
    exact S0.dj i j oi (by rw [hk]; rfl) (fun z => hni (by simp [z])) a hai (hm m')
  have oj1 : (md G1 j).own = true := by rw [lk1]; rfl
  have offj : ∀ b ∈ fps.flatten, b ∉ fs j := fun b hb => by rw [← efs]; exact O.off b hb j (own_ne_no oj1)
  have ndj : (fs j).Nodup := S0.nd j (by rw [hk]; rfl)
  obtain ⟨_, rd1, pm⟩ := Sb1.rep
  have nd1 : (fp1 ++ fps.flatten).Nodup := List.nodup_append.mpr ⟨(List.nodup_append.mp (pm.nodup_iff.mp ndj)).1, O.nd, fun b hb c hc e => by
    subst e
    exact offj b hc (pm.mem_iff.mpr (List.mem_append_left _ hb))⟩
  refine hr.2.2.2 H1 v d1 fp1 ds vs fps.flatten z _ O.sr.sz rd1 O.ga.reps h6 nd1 fun a o' fz ha hva hso rz ndz hcz => ?_
  obtain ⟨fp2, r2, nd2, c2⟩ := Sb1.mut ndj ha rz ndz hcz offj
  have haj : a ∈ fs j := pm.mem_iff.mpr (List.mem_append_left _ ha)
  -- the modes without the lock
  have SU : SR X.K (unlockG [j] G G1) sl1 σ H1 fs1 := O.sr.unlock
  have TU : TS G fs H0 (unlockG [j] G G1) fs1 H1 := O.ts.unlock
  have mu : md (unlockG [j] G G1) j = .ow k := by rw [md_unlock, lk1, hk]; rfl
  have T0 : TS G fs H (unlockG [j] G G1) fs1 H1 := ⟨⟨fun a o h hn => TU.s1 a o (E.same a o h) hn, fun a h => E.same.free (TU.s2 a h), fun i hi a ha => (TU.s3 i hi a ha).imp (fun z => z) E.same.free, fun i hi a ha => (TU.s5 i hi a ha).imp (fun z => z) E.same.free⟩, TU.s4⟩
  have EE : ∀ b u, H1 b = some u → b ∉ fs1 j → upd H1 a o' b = some u := fun b u e hb => by
    rw [upd_ne (fun z => by subst z; exact hb (by rw [efs]; exact haj))]; exact e
  have dep : mdep (fn z) ≤ max k (kMax ms + 1 + n) := by
    have dj : mdep d ≤ k := by
      obtain ⟨d', v', q1, _, _, q4⟩ := S.val j (by rw [hk]; simp)
      rw [eVar_some q1] at h2; cases h2
      rw [hk] at q4; exact q4
    have d1n := Sb1.dep1 (hr.1 d1 ds z h6)
    have dz : mdep z ≤ max (mdep d1) (kMax ms + 1) := hr.2.2.1 d1 ds z _ h6 (Nat.le_max_left _ _) fun x hx => Nat.le_trans (Nat.succ_le_succ (O.ga.dep x hx)) (Nat.le_max_right _ _)
    refine Sb1.dep (Nat.le_trans dj (Nat.le_max_left _ _)) ?_
    omega
  have nU : ∀ i, md (unlockG [j] G G1) i ≠ .no → md G1 i ≠ .no := fun i hi z => hi (by rw [md_unlock, z]; rfl)
  have S2 := mut_sr (k2 := max (md G j).k (kMax ms + 1 + n)) SU (by rw [mu]; rfl) hvj EE (SU.sz.upd hso) r2 (by rw [hk]; exact dep) nd2 fun b hb => by
    rcases c2 b hb with q | q
    · exact .inl (by rw [efs]; exact q)
    · exact .inr fun i hi => O.off b q i (nU i hi)
  have T2 := mut_ts (k2 := max (md G j).k (kMax ms + 1 + n)) (fp2 := fp2) T0 SU mu EE (fun b e => by
    by_cases q : b = a
    · subst q; rw [upd_same] at e; cases e
    · rw [upd_ne q] at e; exact e) fun b hb => by
    rcases c2 b hb with q | q
    · exact .inl (by rw [efs]; exact q)
    · refine .inr ?_
      rcases O.own b q with ⟨i, hi, y⟩ | y
      · exact .inl ⟨i, by rw [← own_lock (rs := [j])]; exact hi, y⟩
      · exact .inr (E.same.free y)
  exact P σ _ _ S2 T2 .refl
end

/-! ### the list's methods -/
def opApp : D → List D → Option D
  | .lst xs, [x] => if xs.length < sizeLine then some (.lst (xs ++ [x])) else none
  | _, _ => none
theorem mr_app {K : PySem.W.Frag} : MutR K "list" rAppend opApp := by
  refine ⟨fun d1 ds z h => ?_, fun H d1 v fp ds z h r => ?_, fun d1 ds z k h h1 h2 => ?_, fun H v d1 fp1 ds vs fps z Q sz ra rb h nd q => ?_⟩ <;> unfold opApp at h <;> split at h <;> try (cases h)
  · rename_i xs x
    unfold mdep; omega
  · cases r with
    | lst h1 r1 => exact .inl ⟨rfl, _, SqL.of h1⟩
  · rename_i xs x
    split at h
    · cases h
      refine Nat.le_trans (le_mdep_lst (k := k - 1) fun d hd => ?_) ?_
      · rcases List.mem_append.mp hd with q | q
        · exact mdep_lst_le h1 d q
        · rw [List.mem_singleton.mp q]; have := h2 x List.mem_cons_self; omega
      · have : 1 ≤ mdep (.lst xs) := by unfold mdep; omega
        omega
    · cases h
  · rename_i xs x
    split at h
    · rename_i hl
      cases h
      cases ra with
      | @lst a ws _ g h1 r1 =>
        cases rb with
        | @cons _ y f _ _ g2 r2 t =>
          cases t
          rw [List.append_nil] at nd q
          have e0 := List.nodup_cons.mp (show (a :: (g ++ f)).Nodup from nd)
          have na : a ∉ g := fun z => e0.1 (List.mem_append_left _ z)
          have nf : a ∉ f := fun z => e0.1 (List.mem_append_right _ z)
          have hl' : ws.length < sizeLine := by rw [← r1.length]; exact hl
          have hz : (ws ++ [y]).length ≤ sizeLine := by rw [List.length_append]; exact hl'
          have rr := (r1.upd_out (ys := ws ++ [y]) h1 na).append (.cons (r2.upd_out (ys := ws ++ [y]) h1 nf) .nil)
          rw [List.append_nil] at rr
          exact ⟨a, ws, y, rfl, rfl, h1, hl', q a _ (a :: (g ++ f)) List.mem_cons_self rfl (szO_lst hz) (.lst upd_same rr) nd fun b hb => by
            rcases List.mem_cons.mp hb with e | hb
            · exact .inl (e ▸ List.mem_cons_self)
            · exact (List.mem_append.mp hb).imp (List.mem_cons_of_mem _) fun z => z⟩
    · cases h
def opIns : D → List D → Option D
  | .lst xs, [.int i, x] => if xs.length < sizeLine ∧ 0 ≤ i ∧ i < 9223372036854775808 then some (.lst (xs.take i.toNat ++ [x] ++ xs.drop i.toNat)) else none
  | _, _ => none
def rInsA : V → List V → Hp → VK → Prop := fun x vs H Q => ∃ (l : Addr) (xs : List V) (i : Int) (y : V), x = .ref l ∧ vs = [.int i, y] ∧ H l = some (.lst xs) ∧ xs.length < sizeLine ∧ 0 ≤ i ∧ i < 2 ^ 63 ∧
    Q .non (upd H l (.lst (xs.take i.toNat ++ [y] ++ xs.drop i.toNat)))
theorem Reps.cut {K : PySem.W.Frag} {H : Hp} : ∀ {n : Nat} {ds : List D} {vs : List V} {fp : List Addr}, Reps K H ds vs fp → ∃ g1 g2, fp = g1 ++ g2 ∧ Reps K H (ds.take n) (vs.take n) g1 ∧ Reps K H (ds.drop n) (vs.drop n) g2
  | 0, _, _, fp, r => ⟨[], fp, rfl, .nil, r⟩
  | n + 1, _, _, _, .nil => ⟨[], [], rfl, .nil, .nil⟩
  | n + 1, _, _, _, .cons (f := f) r t => by
    obtain ⟨g1, g2, e, h1, h2⟩ := Reps.cut (n := n) t
    exact ⟨f ++ g1, g2, by rw [e, List.append_assoc], .cons r h1, h2⟩
theorem mr_ins {K : PySem.W.Frag} : MutR K "list" rInsA opIns := by
  refine ⟨fun d1 ds z h => ?_, fun H d1 v fp ds z h r => ?_, fun d1 ds z k h h1 h2 => ?_, fun H v d1 fp1 ds vs fps z Q sz ra rb h nd q => ?_⟩ <;> unfold opIns at h <;> split at h <;> try (cases h)
  · unfold mdep; omega
  · cases r with
    | lst h1 r1 => exact .inl ⟨rfl, _, SqL.of h1⟩
  · rename_i xs i x
    split at h
    · cases h
      refine Nat.le_trans (le_mdep_lst (k := k - 1) fun d hd => ?_) ?_
      · rcases List.mem_append.mp hd with q | q
        · rcases List.mem_append.mp q with q | q
          · exact mdep_lst_le h1 d (List.mem_of_mem_take q)
          · rw [List.mem_singleton.mp q]; have := h2 x (by simp); omega
        · exact mdep_lst_le h1 d (List.mem_of_mem_drop q)
      · have : 1 ≤ mdep (.lst xs) := by unfold mdep; omega
        omega
    · cases h
  · rename_i xs i x
    split at h
    · rename_i hl
      obtain ⟨hl, h0, h63⟩ := hl
      cases h
      cases ra with
      | @lst a ws _ g h1 r1 =>
        cases rb with
        | @cons _ yi f0 _ _ _ ri t =>
          cases ri
          cases t with
          | @cons _ y f _ _ g2 r2 t =>
            cases t
            rw [List.append_nil] at nd q
            obtain ⟨g1, g2, eg, q1, q2⟩ := r1.cut (n := i.toNat)
            subst eg
            have nd' : (a :: ((g1 ++ g2) ++ f)).Nodup := nd
            have e0 := List.nodup_cons.mp nd'
            have na1 : a ∉ g1 := fun z => e0.1 (by simp [z])
            have na2 : a ∉ g2 := fun z => e0.1 (by simp [z])
            have nf : a ∉ f := fun z => e0.1 (by simp [z])
            have hl' : ws.length < sizeLine := by rw [← r1.length]; exact hl
            have hz : (ws.take i.toNat ++ [y] ++ ws.drop i.toNat).length ≤ sizeLine := by
              rw [List.length_append, List.length_append, List.length_take, List.length_drop, List.length_singleton]; omega
            have rr := ((q1.upd_out (ys := ws.take i.toNat ++ [y] ++ ws.drop i.toNat) h1 na1).append (.cons (r2.upd_out (ys := ws.take i.toNat ++ [y] ++ ws.drop i.toNat) h1 nf) .nil)).append (q2.upd_out (ys := ws.take i.toNat ++ [y] ++ ws.drop i.toNat) h1 na2)
            rw [List.append_nil] at rr
            have pm : (a :: (g1 ++ f ++ g2)).Perm (a :: ((g1 ++ g2) ++ f)) := by
              refine List.Perm.cons a ?_
              rw [List.append_assoc, List.append_assoc]
              exact (List.perm_append_comm).append_left g1
            exact ⟨a, ws, i, y, rfl, rfl, h1, hl', h0, h63, q a _ (a :: (g1 ++ f ++ g2)) List.mem_cons_self rfl (szO_lst hz) (.lst upd_same rr) (pm.nodup_iff.mpr nd') fun b hb => by
              have hb := pm.mem_iff.mp hb
              rcases List.mem_cons.mp hb with e | hb
              · exact .inl (e ▸ List.mem_cons_self)
              · exact (List.mem_append.mp hb).imp (List.mem_cons_of_mem _) fun z => by simpa using z⟩
    · cases h
/-- the ints of a list of such -/
def intsD : List D → Option (List Int)
  | [] => some []
  | .int i :: ds => (intsD ds).map (i :: ·)
  | _ :: _ => none
theorem intsD_eq : ∀ {ds : List D} {ns : List Int}, intsD ds = some ns → ds = ns.map .int
  | [], _, h => by cases h; rfl
  | .int i :: ds, _, h => by
    obtain ⟨r, h1, e⟩ := Option.map_eq_some_iff.mp h
    subst e
    rw [intsD_eq h1]; rfl
  | .non :: _, _, h => by cases h
  | .bl _ :: _, _, h => by cases h
  | .str _ :: _, _, h => by cases h
  | .tup _ :: _, _, h => by cases h
  | .lst _ :: _, _, h => by cases h
  | .dct _ _ _ :: _, _, h => by cases h
  | .frz _ :: _, _, h => by cases h
theorem Reps.ints {K : PySem.W.Frag} {H : Hp} : ∀ {ns : List Int} {vs : List V} {fp : List Addr}, Reps K H (ns.map .int) vs fp → vs = ns.map V.int ∧ fp = []
  | [], _, _, r => by cases r; exact ⟨rfl, rfl⟩
  | n :: ns, _, _, r => by
    cases r with
    | cons h t =>
      obtain ⟨e1, e2⟩ := Reps.ints t
      cases h
      rw [e1, e2]; exact ⟨rfl, rfl⟩
theorem reps_ints {K : PySem.W.Frag} {H : Hp} : ∀ (ns : List Int), Reps K H (ns.map .int) (ns.map V.int) []
  | [] => .nil
  | n :: ns => Reps.cons (.int n) (reps_ints ns)
def opRem : D → List D → Option D
  | .lst xs, [.int k] => (intsD xs).bind fun ns => if k ∈ ns then some (.lst ((ns.eraseIdx (ns.idxOf k)).map .int)) else none
  | _, _ => none
theorem mr_rem {K : PySem.W.Frag} : MutR K "list" rRemI opRem := by
  refine ⟨fun d1 ds z h => ?_, fun H d1 v fp ds z h r => ?_, fun d1 ds z k h h1 h2 => ?_, fun H v d1 fp1 ds vs fps z Q sz ra rb h nd q => ?_⟩ <;> unfold opRem at h <;> split at h <;> try (cases h)
  · unfold mdep; omega
  · cases r with
    | lst h1 r1 => exact .inl ⟨rfl, _, SqL.of h1⟩
  · rename_i xs i
    obtain ⟨ns, e1, h⟩ := Option.bind_eq_some_iff.mp h
    split at h
    · cases h
      refine Nat.le_trans (le_mdep_lst (k := 0) fun d hd => ?_) ?_
      · obtain ⟨j, _, e⟩ := List.mem_map.mp hd
        subst e; exact Nat.le_refl _
      · have : 1 ≤ mdep (.lst xs) := by unfold mdep; omega
        omega
    · cases h
  · rename_i xs i
    obtain ⟨ns, e1, h⟩ := Option.bind_eq_some_iff.mp h
    split at h
    · rename_i hi
      cases h
      have e := intsD_eq e1
      subst e
      cases ra with
      | @lst a ws _ g h1 r1 =>
        obtain ⟨ew, eg⟩ := r1.ints
        subst ew eg
        cases rb with
        | cons ri t =>
          cases ri
          cases t
          have hlt := List.idxOf_lt_length_of_mem hi
          have sz1 : ns.length ≤ sizeLine := by
            have := sz a _ h1
            simpa [szO] using this
          have sz2 : ((ns.eraseIdx (ns.idxOf i)).map V.int).length ≤ sizeLine := by
            rw [List.length_map]; exact Nat.le_trans (L2.len_erase _ _) sz1
          refine ⟨a, ns, i, ns.idxOf i, rfl, rfl, h1, ?_, fun m hm he => ?_, q a _ [a] List.mem_cons_self rfl (szO_lst sz2) (.lst upd_same (reps_ints _)) (by simp) fun b hb => .inl hb⟩
          · rw [List.getElem?_eq_getElem hlt, List.getElem_idxOf hlt]
          · have hm' : m < ns.length := by omega
            have e2 : ns[m] = i := by
              rw [List.getElem?_eq_getElem hm'] at he
              exact Option.some.inj he
            have := List.not_of_lt_findIdx (p := fun x => x == i) hm
            simp [e2] at this
    · cases h
end Dw
/-! Dw, part Q: pop, stores, augmented stores. -/
namespace Dw
open PySem PySem.Spec PyProof.Rows L2

theorem SR.eqm {K : PySem.W.Frag} {G G' : List Mode} {sl : Ev} {σ : L2.St} {H : Hp} {fs : Nat → List Addr} (S : SR K G sl σ H fs) (h : ∀ i, md G' i = md G i) : SR K G' sl σ H fs :=
  S.modes (fun i => by rw [h]) (fun i => by rw [h]) (fun i z => by rw [← h]; exact z) (fun i z => by rw [h]; exact z) fun i k rs z => by rw [← h]; exact z
/-! ### pop -/
def PopR (K : PySem.W.Frag) (T : String) (r : V → List V → Hp → VK → Prop) (op : D → List D → Option (D × D)) : Prop :=
  (∀ H d1 v fp ds z, op d1 ds = some z → Rep K H d1 v fp → tyV K T v H) ∧ (∀ d1 ds y z, op d1 ds = some (y, z) → mdep y + 1 ≤ mdep d1 ∧ mdep z ≤ mdep d1) ∧
  ∀ H v d1 fp1 ds vs y z (Q : VK), Sz H → Rep K H d1 v fp1 → (∃ fps, Reps K H ds vs fps) → op d1 ds = some (y, z) → fp1.Nodup →
    (∀ a o fz fy yv, a ∈ fp1 → v = .ref a → szO o = true → Rep K (upd H a o) z v fz → Rep K (upd H a o) y yv fy → (fz ++ fy).Nodup → (∀ b ∈ fz ++ fy, b ∈ fp1) → Q yv (upd H a o)) → r v vs H Q
def mPop (j : Nat) (kf : Ev → Option (List D)) (fr : Ev → Option (List D × Ev)) (op : D → List D → Option (D × D)) : Ev → Option (D × Ev) := fun sl =>
  (kf sl).bind fun ks => (eVar j sl).bind fun d => (getP ks d).bind fun d1 => (fr sl).bind fun p => (op d1 p.1).bind fun q => (modP ks d fun _ => some q.2).map fun d2 => (q.1, p.2.set j (some d2))
section
variable {X : Cx} {R : RetS} {G G1 Gb Gc : List Mode} {o e : Expr} {es : List Expr} {ms : List RM} {j n : Nat} {kf : Ev → Option (List D)} {fr : Ev → Option (List D × Ev)} {name : Str} {apos cpos pos : Pos} {T id : String} {r : V → List V → Hp → VK → Prop} {op : D → List D → Option (D × D)} {M : List Nat}
theorem AV.rps {K : PySem.W.Frag} {fs fs' : Nat → List Addr} {H H' : Hp} {ds : List D} {vs : List V} {fps : List (List Addr)} (A : AV K G M fs H fs' H' ms ds vs fps) : ∃ fp, Reps K H' ds vs fp := ⟨_, A.reps⟩
theorem pop_run (hr : PopR X.K T r op) (A : DP X G o j n kf) (hj : isOw (md G j) = true) (hM : ∀ i ∈ M, ∃ k, md G i = .ow k) (nj : M.contains j = false) {ta : TE} {tb : TA}
    (ra : ∀ sl σ H fs ks d d1 (Q : VK), SR X.K G sl σ H fs → kf sl = some ks → eVar j sl = some d → getP ks d = some d1 → (∀ vj v H' fp1 rest fn, Ext H H' → σ[j]? = some (some vj) → Sub X.K H' d vj (fs j) fn d1 v fp1 rest n → (∀ f, modP ks d f = (f d1).map fn) → Q v H') → ta σ H Q)
    (rb : ∀ sl σ H fs ds sl' (Q : List V → Hp → Prop), SR X.K G sl σ H fs → fr sl = some (ds, sl') → (∀ vs H' fs' fps, OutA X.K G M sl σ H fs ms ds sl' vs H' fs' fps → Q vs H') → tb σ H Q) :
    RunsE X G (.ow ((md G j).k - n - 1)) (M ++ [j]) (mPop j kf fr op) (tBM X.K T r ta tb) := by
  obtain ⟨k, hk⟩ := isOw_ex hj
  have oj : (md G j).own = true := by rw [hk]; rfl
  have hnj : j ∉ M := fun z => by
    have : M.contains j = true := by simpa using z
    rw [nj] at this; cases this
  intro sl σ H fs d' sl' Q S h hq
  unfold mPop at h
  obtain ⟨ks, h1, h⟩ := Option.bind_eq_some_iff.mp h
  obtain ⟨d, h2, h⟩ := Option.bind_eq_some_iff.mp h
  obtain ⟨d1, h3, h⟩ := Option.bind_eq_some_iff.mp h
  obtain ⟨p, h4, h⟩ := Option.bind_eq_some_iff.mp h
  obtain ⟨ds, sl1⟩ := p
  obtain ⟨q, h5, h⟩ := Option.bind_eq_some_iff.mp h
  obtain ⟨y, z⟩ := q
  obtain ⟨d2, h6, e6⟩ := Option.map_eq_some_iff.mp h
  cases e6
  refine ra sl σ H fs ks d d1 _ S h1 h2 h3 fun vj v H0 fp1 rest fn E hvj Sb hmod => ?_
  rw [hmod] at h6
  cases h6
  refine ⟨hr.1 H0 d1 v fp1 ds _ h5 Sb.rep.2.1, ?_⟩
  have S0 := S.same E
  refine rb sl σ H0 fs ds sl1 _ S0 h4 fun vs H1 fs1 fps O => ?_
  obtain ⟨efs, esl⟩ := O.tr.t3 j hnj
  have Sb1 : Sub X.K H1 d vj (fs j) fn d1 v fp1 rest n := Sb.keep fun a o e hm => O.tr.t1 a o e fun i hi hai => by
    obtain ⟨k', hi'⟩ := hM i hi
    have oi : (md G i).own = true := by rw [hi']; rfl
    obtain ⟨o', e', m'⟩ := S0.mem (own_ne_no oi) hai
    rw [e] at e'; cases e'
    exact S0.dj i j oi oj (fun z => hnj (z ▸ hi)) a hai (hm m')
  have ndj : (fs j).Nodup := S0.nd j oj
  obtain ⟨_, rd1, pm⟩ := Sb1.rep
  obtain ⟨n1, n2, n3⟩ := List.nodup_append.mp (pm.nodup_iff.mp ndj)
  refine hr.2.2 H1 v d1 fp1 ds vs _ z _ O.sr.sz rd1 O.av.rps h5 n1 fun a o' fz fy yv ha hva hso rz ry ndz hcz => ?_
  obtain ⟨m1, m2, m3⟩ := List.nodup_append.mp ndz
  have kp : Keep (fun b => b ∈ rest) H1 (upd H1 a o') := fun b u e hm => by
    have ne : b ≠ a := fun z => by
      subst z
      obtain ⟨o2, e2, m2⟩ := rd1.mem b ha
      rw [e] at e2; cases e2
      exact n3 b ha b (hm m2) rfl
    rw [upd_ne ne]; exact e
  obtain ⟨fp2, r2, p3⟩ := Sb1.set kp rz
  have nd2 : fp2.Nodup := p3.nodup_iff.mpr (List.nodup_append.mpr ⟨m1, n2, fun b hb c hc e => by
    subst e
    exact n3 b (hcz b (List.mem_append_left _ hb)) b hc rfl⟩)
  have c2 : ∀ b ∈ fp2, b ∈ fs j ∨ b ∈ ([] : List Addr) := fun b hb => .inl (pm.mem_iff.mpr (by
    rcases List.mem_append.mp (p3.mem_iff.mp hb) with q | q
    · exact List.mem_append_left _ (hcz b (List.mem_append_left _ q))
    · exact List.mem_append_right _ q))
  have pm2 : ∀ b ∈ fp2, b ∉ fy := fun b hb hy => by
    rcases List.mem_append.mp (p3.mem_iff.mp hb) with q | q
    · exact m3 b q b hy rfl
    · exact n3 b (hcz b (List.mem_append_right _ hy)) b q rfl
  have haj : a ∈ fs j := pm.mem_iff.mpr (List.mem_append_left _ ha)
  have mk1 : md (kill M G) j = .ow k := kill_ow hk
  have EE : ∀ b u, H1 b = some u → b ∉ fs1 j → upd H1 a o' b = some u := fun b u e hb => by
    rw [upd_ne (fun z => by subst z; exact hb (by rw [efs]; exact haj))]; exact e
  have dep : mdep (fn z) ≤ k ∧ mdep y ≤ k - n - 1 := by
    have dj : mdep d ≤ k := by
      obtain ⟨d', v', q1, _, _, q4⟩ := S.val j (by rw [hk]; simp)
      rw [eVar_some q1] at h2; cases h2
      rw [hk] at q4; exact q4
    obtain ⟨y1, y2⟩ := hr.2.1 d1 ds _ z h5
    have d1n := Sb1.dep1 (by omega)
    exact ⟨Sb1.dep dj (by omega), by omega⟩
  have S2 := mut_sr (k2 := k) O.sr (by rw [mk1]; rfl) hvj EE (O.sr.sz.upd hso) r2 dep.1 nd2 fun b hb => by
    rcases c2 b hb with q | q
    · exact .inl (by rw [efs]; exact q)
    · cases q
  have S3 : SR X.K (kill (M ++ [j]) G) (sl1.set j (some (fn z))) σ (upd H1 a o') (fset fs1 j fp2) := by
    rw [← kill_kill]
    refine S2.eqm fun i => ?_
    rw [md_set (by rw [kill_len]; exact own_lt (by rw [mk1]; rfl))]
    by_cases e : i = j
    · subst e; rw [if_pos rfl]; exact kill_ow mk1
    · rw [if_neg e]
  have T2 : Tr [j] sl1 fs1 H1 (sl1.set j (some (fn z))) (fset fs1 j fp2) (upd H1 a o') := by
    refine ⟨fun b u e hn => EE b u e (hn j List.mem_cons_self), fun b e => ?_, fun i hi => ?_, fun i hi b hb => ?_⟩
    · by_cases q : b = a
      · subst q; rw [upd_same] at e; cases e
      · rw [upd_ne q] at e; exact e
    · have ne : i ≠ j := by simpa using hi
      exact ⟨by unfold fset; rw [if_neg ne], List.getElem?_set_ne (Ne.symm ne)⟩
    · have e : i = j := by simpa using hi
      subst e
      unfold fset at hb
      rw [if_pos rfl] at hb
      rcases c2 b hb with q | q
      · exact .inl ⟨i, List.mem_cons_self, by rw [efs]; exact q⟩
      · cases q
  have TE : Tr M sl fs H sl1 fs1 H1 := ⟨fun b u e hn => O.tr.t1 b u (E.same b u e) hn, fun b e => E.same.free (O.tr.t2 b e), O.tr.t3, fun i hi b hb => (O.tr.t4 i hi b hb).imp (fun z => z) E.same.free⟩
  refine hq yv _ (fset fs1 j fp2) fy ⟨S3, TE.trans (G := G) (K := X.K) T2, ry, by rw [hk]; exact dep.2, m2, fun b hb => .inr ⟨j, by simp, pm.mem_iff.mpr (List.mem_append_left _ (hcz b (List.mem_append_right _ hb)))⟩, fun b hb i hi hbi => ?_⟩
  have bj : b ∈ fs1 j := by rw [efs]; exact pm.mem_iff.mpr (List.mem_append_left _ (hcz b (List.mem_append_right _ hb)))
  unfold fset at hbi
  by_cases e : i = j
  · rw [if_pos e] at hbi
    exact pm2 b hbi hb
  · rw [if_neg e] at hbi
    exact O.sr.dj i j (by rw [own_kill]; exact hi) (by rw [mk1]; rfl) e b hbi bj
theorem de_popA (pa : PySem.PlainAttrs T) (slot : PySem.Slot T name id) (hty : typeOf (.builtin id) = pure (.type "method_descriptor")) (hm : MtR X id r) (hr : PopR X.K T r op) (A : DP X G o j n kf) (B : DA X G (e :: es) ms M fr) (hj : isOw (md G j) = true) (nj : M.contains j = false := by rfl)
    (hbase : attributeBase o name X.env (eval o X.env) = eval o X.env := by rfl)
    (hfew : ((backTo cpos (starEach (e :: es) X.env)).all (fun x => !x.1) && (backToKw cpos (keywordEach [] X.env)).all (fun x => x.1.isSome)
      && decide ((e :: es).length + ([] : List Keyword).length + (if ([] : List Keyword).isEmpty then 0 else 1) < 30)) = true := by rfl)
    (hline : (apos.endLine == cpos.line) = true := by rfl) (hs : starEach (e :: es) X.env = (false, eval e X.env) :: starEach es X.env := by rfl) (hplain : (backTo cpos (starEach es X.env)).any (·.1) = false := by rfl) :
    DE X G (.Call (.Attribute o name apos) (e :: es) [] cpos) (.ow ((md G j).k - n - 1)) (M ++ [j]) (mPop j kf fr op) := by
  obtain ⟨ta, pa', ra⟩ := A.run
  obtain ⟨tb, pb, rb⟩ := B.run
  obtain ⟨k, hk⟩ := isOw_ex hj
  exact ⟨hM_append B.hM fun i hi => ⟨k, by rw [List.mem_singleton.mp hi]; exact kill_ow hk⟩, _, pe_bm pa slot hty hm pa' pb hbase hfew hline hs hplain, pop_run hr A hj B.hM nj ra rb⟩
theorem de_pop0 (pa : PySem.PlainAttrs T) (slot : PySem.Slot T name id) (hty : typeOf (.builtin id) = pure (.type "method_descriptor")) (hm : MtR X id r) (hr : PopR X.K T r op) (A : DP X G o j n kf) (hj : isOw (md G j) = true)
    (hbase : attributeBase o name X.env (eval o X.env) = eval o X.env := by rfl) (hline : (apos.endLine == cpos.line) = true := by rfl) :
    DE X G (.Call (.Attribute o name apos) [] [] cpos) (.ow ((md G j).k - n - 1)) [j] (mPop j kf mNil op) := by
  obtain ⟨ta, pa', ra⟩ := A.run
  obtain ⟨k, hk⟩ := isOw_ex hj
  have R0 := pop_run (M := []) (ms := []) (fr := mNil) (tb := tNil) hr A hj (fun _ z => nomatch z) rfl ra (fun sl σ H fs ds sl' Q S hf hq => by
    cases hf
    exact hq [] H fs [] ⟨S, .pure (Same.refl H), .nil, List.nodup_nil⟩)
  exact ⟨fun i hi => ⟨k, by rw [List.mem_singleton.mp hi]; exact hk⟩, _, pe_bm0 pa slot hty hm pa' hbase hline, R0⟩
end
def opPop0 : D → List D → Option (D × D)
  | .lst xs, [] => (xs[xs.length - 1]?).map fun y => (y, .lst xs.dropLast)
  | _, _ => none
def opPopA : D → List D → Option (D × D)
  | .lst xs, [.int i] => (ixN xs.length i).bind fun k => (xs[k]?).map fun y => (y, .lst (xs.eraseIdx k))
  | _, _ => none
theorem Reps.erase {K : PySem.W.Frag} {H : Hp} {ds : List D} {vs : List V} {fp : List Addr} (r : Reps K H ds vs fp) {k : Nat} {d : D} (h : ds[k]? = some d) :
    ∃ v f g, vs[k]? = some v ∧ Rep K H d v f ∧ Reps K H (ds.eraseIdx k) (vs.eraseIdx k) g ∧ fp.Perm (g ++ f) := by
  obtain ⟨ds1, ds2, e1, e2⟩ := split_at h
  subst e1
  obtain ⟨vs1, v, vs2, g1, f, g2, q1, q2, r1, r2, r3⟩ := r.split
  subst q1 q2
  have l1 : vs1.length = k := by rw [← r1.length]; exact e2
  refine ⟨v, f, g1 ++ g2, ?_, r2, ?_, ?_⟩
  · rw [List.getElem?_append_right (by omega), l1, Nat.sub_self]; rfl
  · have a1 : (ds1 ++ d :: ds2).eraseIdx k = ds1 ++ ds2 := by
      rw [List.eraseIdx_append_of_length_le (by omega), e2, Nat.sub_self]; rfl
    have a2 : (vs1 ++ v :: vs2).eraseIdx k = vs1 ++ vs2 := by
      rw [List.eraseIdx_append_of_length_le (by omega), l1, Nat.sub_self]; rfl
    rw [a1, a2]; exact r1.append r3
  · rw [List.append_assoc]
    exact (List.perm_append_comm (l₁ := f) (l₂ := g2)).append_left g1
theorem mdeps_erase {ds : List D} {k m : Nat} (h : ∀ d ∈ ds, mdep d ≤ m) : ∀ d ∈ ds.eraseIdx k, mdep d ≤ m := fun d hd => h d (List.mem_of_mem_eraseIdx hd)
theorem pop_dep {xs : List D} {k : Nat} {y : D} (h : xs[k]? = some y) : mdep y + 1 ≤ mdep (.lst xs) ∧ mdep (.lst (xs.eraseIdx k)) ≤ mdep (.lst xs) := by
  have p1 : 1 ≤ mdep (.lst xs) := by unfold mdep; omega
  have := mdep_lst_le (Nat.le_refl (mdep (.lst xs))) y (List.mem_of_getElem? h)
  refine ⟨by omega, ?_⟩
  have := le_mdep_lst (mdeps_erase (k := k) (mdep_lst_le (Nat.le_refl (mdep (.lst xs)))))
  omega
theorem pop_fin {K : PySem.W.Frag} {H : Hp} {a : Addr} {xs : List D} {ws : List V} {g : List Addr} {k : Nat} {y : D} {Q : VK} (h1 : H a = some (.lst ws)) (r1 : Reps K H xs ws g) (sz : Sz H) (hy : xs[k]? = some y) (nd : (a :: g).Nodup)
    (q : ∀ a' o fz fy yv, a' ∈ a :: g → V.ref a = .ref a' → szO o = true → Rep K (upd H a' o) (.lst (xs.eraseIdx k)) (.ref a) fz → Rep K (upd H a' o) y yv fy → (fz ++ fy).Nodup → (∀ b ∈ fz ++ fy, b ∈ a :: g) → Q yv (upd H a' o)) : ∃ yv, ws[k]? = some yv ∧ Q yv (upd H a (.lst (ws.eraseIdx k))) := by
  obtain ⟨v, f, g', e1, r2, r3, pm⟩ := r1.erase hy
  obtain ⟨na, ng⟩ := List.nodup_cons.mp nd
  have na' : a ∉ g' ∧ a ∉ f := ⟨fun z => na (pm.mem_iff.mpr (List.mem_append_left _ z)), fun z => na (pm.mem_iff.mpr (List.mem_append_right _ z))⟩
  have hz : (ws.eraseIdx k).length ≤ sizeLine := Nat.le_trans (L2.len_erase _ _) (by have := sz a _ h1; simpa [szO] using this)
  have pm2 : (a :: g).Perm ((a :: g') ++ f) := pm.cons a
  exact ⟨v, e1, q a _ (a :: g') f v List.mem_cons_self rfl (szO_lst hz) (.lst upd_same (r3.upd_out (ys := ws.eraseIdx k) h1 na'.1)) (r2.upd_out (ys := ws.eraseIdx k) h1 na'.2) (pm2.nodup_iff.mp nd) fun b hb => pm2.mem_iff.mpr hb⟩
theorem pr_popA {K : PySem.W.Frag} : PopR K "list" rPopAt opPopA := by
  refine ⟨fun H d1 v fp ds z h r => ?_, fun d1 ds y z h => ?_, fun H v d1 fp1 ds vs y z Q sz ra rb h nd q => ?_⟩ <;> unfold opPopA at h <;> split at h <;> try (cases h)
  · cases r with
    | lst h1 r1 => exact .inl ⟨rfl, _, SqL.of h1⟩
  · obtain ⟨k, e1, h⟩ := Option.bind_eq_some_iff.mp h
    obtain ⟨y', e2, e3⟩ := Option.map_eq_some_iff.mp h
    cases e3
    exact pop_dep e2
  · rename_i xs i
    obtain ⟨k, e1, h⟩ := Option.bind_eq_some_iff.mp h
    obtain ⟨y', e2, e3⟩ := Option.map_eq_some_iff.mp h
    cases e3
    obtain ⟨fps, rb⟩ := rb
    cases ra with
    | @lst a ws _ g h1 r1 =>
      cases rb with
      | cons ri t =>
        cases ri
        cases t
        rw [r1.length] at e1
        obtain ⟨p1, p2, p3, p4⟩ := ixN_seq e1
        have hw : ws.length ≤ sizeLine := by have := sz a _ h1; simpa [szO] using this
        have hn : (sizeLine : Int) < 2 ^ 63 := by decide
        obtain ⟨yv, q1, q2⟩ := pop_fin (Q := Q) h1 r1 sz e2 nd q
        exact ⟨a, ws, i, k, yv, rfl, rfl, h1, by omega, by omega, p1, q1, q2⟩
theorem pr_pop0 {K : PySem.W.Frag} : PopR K "list" rPop opPop0 := by
  have dl : ∀ {α : Type} (xs : List α), xs.dropLast = xs.eraseIdx (xs.length - 1) := fun xs => by
    cases xs with
    | nil => rfl
    | cons x r => rw [List.eraseIdx_eq_dropLast (by simp)]
  refine ⟨fun H d1 v fp ds z h r => ?_, fun d1 ds y z h => ?_, fun H v d1 fp1 ds vs y z Q sz ra rb h nd q => ?_⟩ <;> unfold opPop0 at h <;> split at h <;> try (cases h)
  · cases r with
    | lst h1 r1 => exact .inl ⟨rfl, _, SqL.of h1⟩
  · obtain ⟨y', e2, e3⟩ := Option.map_eq_some_iff.mp h
    cases e3
    rw [dl]
    exact pop_dep e2
  · rename_i xs
    obtain ⟨y', e2, e3⟩ := Option.map_eq_some_iff.mp h
    cases e3
    obtain ⟨fps, rb⟩ := rb
    cases ra with
    | @lst a ws _ g h1 r1 =>
      cases rb
      rw [dl] at q
      obtain ⟨yv, q1, q2⟩ := pop_fin (Q := Q) h1 r1 sz e2 nd q
      refine ⟨a, ws, yv, rfl, rfl, h1, by rw [← r1.length]; exact q1, ?_⟩
      rw [dl, ← r1.length]; exact q2
end Dw
/-! Dw, part R: stores. -/
namespace Dw
open PySem PySem.Spec PyProof.Rows L2

/-! ### d[k] = x -/
def cntK (ks : List D) (k : D) : Nat := (ks.filter fun c => keqT c k).length
def putD (t : Bool) (ks vs : List D) (k x : D) : Option D := if ks.length < sizeLine then (match cntK ks k with
      | 0 => some (.dct t (ks ++ [k]) (vs ++ [x]))
      | 1 => some (.dct t ks (vs.set (dixOf ks k) x))
      | _ => none) else none
def opPut (d k x : D) : Option D := match d with
  | .lst xs => (match k with
    | .int i => (ixN xs.length i).map fun j => .lst (xs.set j x)
    | _ => none)
  | .dct t ks vs => if kfit t k then putD t ks vs k x else none
  | _ => none
def rSetA : TSet := fun o i v H Q => rSetL o i v H Q ∨ rSetD o i v H Q
theorem set_all {X : Cx} (hu : X.A.units + 1 < cLine) : PSet X rSetA := fun pins s σ H o i v ov iv u Q I ro ri rv h => by
  rcases h with h | h
  · exact set_list pins s σ H o i v ov iv u Q I ro ri rv h
  · exact set_dict hu pins s σ H o i v ov iv u Q I ro ri rv h
theorem putD_dep {t : Bool} {ks vs : List D} {k x z : D} {n : Nat} (h : putD t ks vs k x = some z) (h1 : ∀ d ∈ vs, mdep d ≤ n) (h2 : mdep x ≤ n) : mdep z ≤ n + 1 := by
  unfold putD at h
  split at h
  · split at h
    · cases h
      refine le_mdep_dct fun d hd => ?_
      rcases List.mem_append.mp hd with q | q
      · exact h1 d q
      · rw [List.mem_singleton.mp q]; exact h2
    · cases h
      refine le_mdep_dct fun d hd => ?_
      rcases List.mem_or_eq_of_mem_set hd with q | q
      · exact h1 d q
      · subst q; exact h2
    · cases h
  · cases h
theorem opPut_dep {d k x z : D} {n : Nat} (h : opPut d k x = some z) (h1 : mdep d ≤ n) (h2 : mdep x + 1 ≤ n) : mdep z ≤ n ∧ 1 ≤ mdep d := by
  cases d with
  | lst xs =>
    cases k with
    | int i =>
      obtain ⟨j, e1, e2⟩ := Option.map_eq_some_iff.mp (show (ixN xs.length i).map (fun j => D.lst (xs.set j x)) = some z from h)
      subst e2
      refine ⟨Nat.le_trans (le_mdep_lst (k := n - 1) fun d hd => ?_) (by omega), by unfold mdep; omega⟩
      rcases List.mem_or_eq_of_mem_set hd with q | q
      · exact mdep_lst_le h1 d q
      · subst q; omega
    | _ => cases h
  | dct t ks vs =>
    replace h : (if kfit t k then putD t ks vs k x else none) = some z := h
    split at h
    · have := putD_dep (n := n - 1) h (mdep_dct_le h1) (by omega)
      exact ⟨by omega, by unfold mdep; omega⟩
    · cases h
  | _ => cases h
section
variable {K : PySem.W.Frag} {H : Hp}
theorem Reps.set {ds : List D} {vs : List V} {fp : List Addr} (r : Reps K H ds vs fp) {k : Nat} {x : D} {w : V} {fx : List Addr} (h : k < ds.length) (rx : Rep K H x w fx) : ∃ g, Reps K H (ds.set k x) (vs.set k w) (g) ∧ ∃ f rest, fp.Perm (rest ++ f) ∧ g.Perm (rest ++ fx) := by
  obtain ⟨ds1, ds2, e1, e2⟩ := split_at (List.getElem?_eq_getElem h)
  generalize ds[k] = d0 at e1
  subst e1
  obtain ⟨vs1, v, vs2, g1, f, g2, q1, q2, r1, r2, r3⟩ := r.split
  subst q1 q2
  have l1 : vs1.length = k := by rw [← r1.length]; exact e2
  have s1 : (ds1 ++ d0 :: ds2).set k x = ds1 ++ x :: ds2 := by rw [List.set_append_right _ _ (by omega), e2, Nat.sub_self]; rfl
  have s2 : (vs1 ++ v :: vs2).set k w = vs1 ++ w :: vs2 := by rw [List.set_append_right _ _ (by omega), l1, Nat.sub_self]; rfl
  refine ⟨g1 ++ (fx ++ g2), by rw [s1, s2]; exact r1.mid rx r3, f, g1 ++ g2, ?_, ?_⟩
  · rw [List.append_assoc]; exact (List.perm_append_comm (l₁ := f) (l₂ := g2)).append_left g1
  · rw [List.append_assoc]; exact (List.perm_append_comm (l₁ := fx) (l₂ := g2)).append_left g1
/-- the cells behind a store -/
theorem sto_cells {a : Addr} {g g' fx f rest : List Addr} (nd : ((a :: g) ++ fx).Nodup) (p1 : g.Perm (rest ++ f)) (p2 : g'.Perm (rest ++ fx)) : (a :: g').Nodup ∧ ∀ b ∈ a :: g', b ∈ a :: g ∨ b ∈ fx := by
  obtain ⟨n1, n2, n3⟩ := List.nodup_append.mp nd
  obtain ⟨na, ng⟩ := List.nodup_cons.mp n1
  have ngr := (List.nodup_append.mp (p1.nodup_iff.mp ng)).1
  have hg : ∀ b ∈ rest, b ∈ g := fun b hb => p1.mem_iff.mpr (List.mem_append_left _ hb)
  refine ⟨List.nodup_cons.mpr ⟨fun z => ?_, p2.nodup_iff.mpr (List.nodup_append.mpr ⟨ngr, n2, fun b hb c hc => n3 b (List.mem_cons_of_mem _ (hg b hb)) c hc⟩)⟩, fun b hb => ?_⟩
  · rcases List.mem_append.mp (p2.mem_iff.mp z) with q | q
    · exact na (hg a q)
    · exact n3 a List.mem_cons_self a q rfl
  · rcases List.mem_cons.mp hb with e | hb
    · exact .inl (e ▸ List.mem_cons_self)
    · rcases List.mem_append.mp (p2.mem_iff.mp hb) with q | q
      · exact .inl (List.mem_cons_of_mem _ (hg b q))
      · exact .inr q
theorem putK_one {κ : Type} [DecidableEq κ] {k k' : κ} {v v0 : V} (e : k' = k) : ∀ {l1 l2 : List (κ × V)}, (∀ p ∈ l1, p.1 ≠ k) → (∀ p ∈ l2, p.1 ≠ k) → putK (l1 ++ (k', v0) :: l2) k v = l1 ++ (k', v) :: l2 := by
  intro l1 l2 h1 h2
  have no : ∀ {l : List (κ × V)}, (∀ p ∈ l, p.1 ≠ k) → l.map (fun kv => if kv.1 = k then (kv.1, v) else kv) = l := fun {l} h => by
    rw [show l = l.map id by simp]
    rw [List.map_map]
    refine List.map_congr_left fun p hp => ?_
    show (if p.1 = k then (p.1, v) else p) = p
    rw [if_neg (h p hp)]
  unfold putK
  rw [if_pos (by simp [e]), List.map_append, List.map_cons, no h1, no h2, if_pos e]
theorem cnt_split {ks1 ks2 : List D} {c k : D} (h : cntK (ks1 ++ c :: ks2) k = 1) (hc : keqT c k = true) : (∀ x ∈ ks1, keqT x k = false) ∧ ∀ x ∈ ks2, keqT x k = false := by
  unfold cntK at h
  rw [List.filter_append, List.filter_cons_of_pos (by simpa using hc), List.length_append, List.length_cons] at h
  have e1 : (ks1.filter fun c => keqT c k) = [] := List.eq_nil_of_length_eq_zero (by omega)
  have e2 : (ks2.filter fun c => keqT c k) = [] := List.eq_nil_of_length_eq_zero (by omega)
  exact ⟨fun x hx => by simpa using List.filter_eq_nil_iff.mp e1 x hx, fun x hx => by simpa using List.filter_eq_nil_iff.mp e2 x hx⟩
theorem cnt_pos : ∀ {ks : List D} {k : D}, cntK ks k ≠ 0 → ∃ ks1 c ks2, ks = ks1 ++ c :: ks2 ∧ keqT c k = true ∧ (∀ x ∈ ks1, keqT x k = false) ∧ dixOf ks k = ks1.length
  | [], k, h => absurd rfl h
  | c :: ks, k, h => by
    by_cases q : keqT c k = true
    · exact ⟨[], c, ks, rfl, q, (fun _ z => nomatch z), by simp [dixOf, q]⟩
    · have q' : keqT c k = false := by simpa using q
      have h' : cntK ks k ≠ 0 := by
        unfold cntK at h ⊢
        rw [List.filter_cons_of_neg (by simpa using q)] at h
        exact h
      obtain ⟨ks1, c', ks2, e1, e2, e3, e4⟩ := cnt_pos h'
      refine ⟨c :: ks1, c', ks2, by rw [e1]; rfl, e2, fun x hx => ?_, by simp [dixOf, q', e4]⟩
      rcases List.mem_cons.mp hx with e | hx
      · subst e; exact q'
      · exact e3 x hx
theorem cnt_zero {ks : List D} {k : D} (h : cntK ks k = 0) : ∀ x ∈ ks, keqT x k = false := fun x hx => by
  have e1 : (ks.filter fun c => keqT c k) = [] := List.eq_nil_of_length_eq_zero h
  simpa using List.filter_eq_nil_iff.mp e1 x hx
theorem valV_none {κ : Type} [DecidableEq κ] {k : κ} : ∀ {kvs : List (κ × V)}, (∀ p ∈ kvs, p.1 ≠ k) → valV kvs k = none
  | [], _ => rfl
  | p :: kvs, h => by
    rw [valV_neg (h p List.mem_cons_self)]
    exact valV_none fun q hq => h q (List.mem_cons_of_mem _ hq)
theorem put_core {κ : Type} [DecidableEq κ] {kf : κ → D} (hkf : ∀ a b : κ, keqT (kf a) (kf b) = decide (a = b)) {C : List (κ × V) → HO} (hM : ∀ l, isM (C l) = true) {t : Bool} {a : Addr} {kvs : List (κ × V)} {ks vs : List D} {g fx : List Addr} {key : κ} {x z : D} {w : V} (h1 : H a = some (C kvs)) (e : ks = kvs.map fun p => kf p.1) (r : Reps K H vs (kvs.map (·.2)) g) (rx : Rep K H x w fx) (nd : ((a :: g) ++ fx).Nodup)
    (h : putD t ks vs (kf key) x = some z) : kvs.length < sizeLine ∧ ∃ ks' vs' g', z = .dct t ks' vs' ∧ ks' = (putK kvs key w).map (fun p => kf p.1) ∧ Reps K (upd H a (C (putK kvs key w))) vs' ((putK kvs key w).map (·.2)) g' ∧ (putK kvs key w).length ≤ sizeLine ∧ (a :: g').Nodup ∧ ∀ b ∈ a :: g', b ∈ a :: g ∨ b ∈ fx := by
  obtain ⟨na, ng⟩ := List.nodup_cons.mp (List.nodup_append.mp nd).1
  have nx : a ∉ fx := fun z => (List.nodup_append.mp nd).2.2 a List.mem_cons_self a z rfl
  have kp : Keep (fun b => b ≠ a) H (upd H a (C (putK kvs key w))) := fun b u e hm => by
    have ne : b ≠ a := by
      by_cases q : isM u = true
      · exact hm q
      · intro z; subst z
        rw [h1] at e; cases e
        exact q (hM _)
    rw [upd_ne ne]; exact e
  have r' := r.keep kp fun b hb z => na (z ▸ hb)
  have rx' := rx.keep kp fun b hb z => nx (z ▸ hb)
  unfold putD at h
  split at h
  · rename_i hl
    have hl' : kvs.length < sizeLine := by rw [e, List.length_map] at hl; exact hl
    refine ⟨hl', ?_⟩
    split at h
    · rename_i hc
      cases h
      have no : ∀ p ∈ kvs, p.1 ≠ key := fun p hp he => by
        have := cnt_zero hc (kf p.1) (by rw [e]; exact List.mem_map.mpr ⟨p, hp, rfl⟩)
        rw [hkf, he] at this
        simp at this
      have pe : putK kvs key w = kvs ++ [(key, w)] := putK_new w (valV_none no)
      have rr := r'.append (.cons rx' .nil)
      rw [List.append_nil] at rr
      refine ⟨_, _, g ++ fx, rfl, ?_, ?_, ?_, nd, fun b hb => ?_⟩
      · rw [pe, List.map_append, e]; rfl
      · rw [pe, List.map_append] at *; exact rr
      · rw [pe, List.length_append]; exact hl'
      · rcases List.mem_cons.mp hb with z | hb
        · exact .inl (z ▸ List.mem_cons_self)
        · exact (List.mem_append.mp hb).imp (List.mem_cons_of_mem _) fun z => z
    · rename_i hc
      cases h
      obtain ⟨ks1, c, ks2, q1, q2, q3, q4⟩ := cnt_pos (ks := ks) (k := kf key) (by omega)
      have q5 := (cnt_split (by rw [← q1]; exact hc) q2).2
      obtain ⟨kv1, kvr, k1, k2, k3⟩ : ∃ kv1 kvr, kvs = kv1 ++ kvr ∧ kv1.map (fun p => kf p.1) = ks1 ∧ kvr.map (fun p => kf p.1) = c :: ks2 := by
        have := e.symm.trans q1
        obtain ⟨l1, l2, e1, e2, e3⟩ := List.map_eq_append_iff.mp this
        exact ⟨l1, l2, e1, e2, e3⟩
      cases kvr with
      | nil => cases k3
      | cons p kv2 =>
        obtain ⟨k', v0⟩ := p
        simp only [List.map_cons, List.cons.injEq] at k3
        obtain ⟨k3, k4⟩ := k3
        have ek : k' = key := by
          rw [← k3, hkf] at q2
          simpa using q2
        have no1 : ∀ p ∈ kv1, p.1 ≠ key := fun p hp he => by
          have := q3 (kf p.1) (by rw [← k2]; exact List.mem_map.mpr ⟨p, hp, rfl⟩)
          rw [hkf, he] at this
          simp at this
        have no2 : ∀ p ∈ kv2, p.1 ≠ key := fun p hp he => by
          have := q5 (kf p.1) (by rw [← k4]; exact List.mem_map.mpr ⟨p, hp, rfl⟩)
          rw [hkf, he] at this
          simp at this
        have pe : putK kvs key w = kv1 ++ (k', w) :: kv2 := by rw [k1]; exact putK_one ek no1 no2
        have l1 : kv1.length = ks1.length := by rw [← k2, List.length_map]
        have hlen : ks1.length < vs.length := by
          rw [r.length, List.length_map, k1, List.length_append, List.length_cons]; omega
        obtain ⟨g', rs, f, rest, p1, p2⟩ := r'.set hlen rx'
        obtain ⟨c1, c2⟩ := sto_cells nd p1 p2
        have ev : (kvs.map (·.2)).set ks1.length w = (kv1 ++ (k', w) :: kv2).map (·.2) := by
          rw [k1, List.map_append, List.map_append, List.set_append_right _ _ (by simp; omega)]
          simp [l1]
        refine ⟨_, _, g', rfl, ?_, ?_, ?_, c1, c2⟩
        · rw [pe, e, k1]; simp
        · rw [q4]
          rw [ev, ← pe] at rs
          exact rs
        · rw [pe]
          rw [k1] at hl'
          simp only [List.length_append, List.length_cons] at hl' ⊢
          omega
    · cases h
  · cases h
theorem put_run {d k x z : D} {v y w : V} {fp gp fx : List Addr} {Q : Hp → Prop} (sz : Sz H) (ra : Rep K H d v fp) (rk : Rep K H k y gp) (rx : Rep K H x w fx) (h : opPut d k x = some z) (nd : (fp ++ fx).Nodup)
    (q : ∀ a o fz, a ∈ fp → v = .ref a → szO o = true → Rep K (upd H a o) z v fz → fz.Nodup → (∀ b ∈ fz, b ∈ fp ∨ b ∈ fx) → Q (upd H a o)) : rSetA v y w H Q := by
  cases d with
  | lst xs =>
    cases k with
    | int i =>
      obtain ⟨j, e1, e2⟩ := Option.map_eq_some_iff.mp (show (ixN xs.length i).map (fun j => D.lst (xs.set j x)) = some z from h)
      subst e2
      cases rk
      cases ra with
      | @lst a ws _ g h1 r1 =>
        have hj : j < xs.length := (ixN_seq e1).2.1
        obtain ⟨na, _⟩ := List.nodup_cons.mp (List.nodup_append.mp nd).1
        have nx : a ∉ fx := fun z => (List.nodup_append.mp nd).2.2 a List.mem_cons_self a z rfl
        have hz : (ws.set j w).length ≤ sizeLine := by rw [List.length_set]; have := sz a _ h1; simpa [szO] using this
        obtain ⟨g', rs, f, rest, p1, p2⟩ := (r1.upd_out (ys := ws.set j w) h1 na).set hj (rx.upd_out (ys := ws.set j w) h1 nx)
        obtain ⟨c1, c2⟩ := sto_cells nd p1 p2
        exact .inl ⟨a, ws, i, j, rfl, rfl, h1, by rw [← r1.length]; exact e1, q a _ (a :: g') List.mem_cons_self rfl (szO_lst hz) (.lst upd_same rs) c1 c2⟩
    | _ => cases h
  | dct t ks vs =>
    replace h : (if kfit t k then putD t ks vs k x else none) = some z := h
    split at h
    · rename_i hk
      cases ra with
      | @dK a kvs _ _ g h1 e r =>
        obtain ⟨key, hkey⟩ := Option.isSome_iff_exists.mp (show (keyK k).isSome = true from hk)
        have e2 := keyK_eq hkey
        subst e2
        have ey := rk.key
        subst ey
        obtain ⟨hl, ks', vs', g', e1, e2, r', l', c1, c2⟩ := put_core (kf := kD) (C := .dK) keqT_kD (fun _ => rfl) h1 e r rx nd h
        subst e1
        exact .inr ⟨a, _, rfl, DPut.k h1 hl, q a _ (a :: g') List.mem_cons_self rfl (decide_eq_true l') (.dK upd_same e2 r') c1 c2⟩
      | @dT a kvs _ _ g h1 e r =>
        cases k with
        | tup kk =>
          obtain ⟨key, hkey⟩ := Option.isSome_iff_exists.mp (show (keysK kk).isSome = true from hk)
          have e2 := keysK_eq hkey
          subst e2
          cases rk with
          | tup hb rr =>
            have ev := rr.keys
            subst ev
            obtain ⟨hl, ks', vs', g', e1, e2, r', l', c1, c2⟩ := put_core (kf := fun k => D.tup (k.map kD)) (C := .dT) keqT_tup (fun _ => rfl) h1 e r rx nd h
            subst e1
            exact .inr ⟨a, _, rfl, DPut.t h1 hb hl, q a _ (a :: g') List.mem_cons_self rfl (decide_eq_true l') (.dT upd_same e2 r') c1 c2⟩
        | _ => cases hk
    · cases h
  | _ => cases h
end
end Dw
/-! Dw, part S: store statements. -/
namespace Dw
open PySem PySem.Spec PyProof.Rows L2

def sSto (j : Nat) (kf : Ev → Option (List D)) (gi : Ev → Option D) (f : Ev → Option (D × Ev)) : Ev → Option Fl := fun sl =>
  (f sl).bind fun p => (kf p.2).bind fun ks => (eVar j p.2).bind fun d => (getP ks d).bind fun _ => (gi p.2).bind fun k => (modP ks d fun e => opPut e k p.1).map fun d2 => .nx (p.2.set j (some d2))
def stoG (j n : Nat) (m : RM) (G1 : List Mode) : List Mode := (kill [j] G1).set j (.ow (max (md G1 j).k (m.k + 1 + n)))
section
variable {X : Cx} {R : RetS} {G G1 Gb Gc : List Mode} {o i e : Expr} {m mi : RM} {j n : Nat} {kf : Ev → Option (List D)} {gi : Ev → Option D} {f : Ev → Option (D × Ev)} {pos tpos : Pos}
theorem ds_sto (hu : X.A.units + 64 < cLine) (V : DV X G e m G1 f) (hp : plainOwn m = true) (A : DP X G1 o j n kf) (B : PD X G1 i mi gi) (hj : isOw (md G1 j) = true)
    (hs : swapsWithSole [.Subscript o i tpos] e pos.line X.env = pure false := by rfl) (hw : swappedStores [.Subscript o i tpos] e X.env = pure none := by rfl)
    (h1 : (assignEach [.Subscript o i tpos] X.env).map (·.2) = [assign (.Subscript o i tpos) X.env] := by rfl)
    (ha : ∀ v, assign (.Subscript o i tpos) X.env v = (do
      let ov ← holding [v] (eval o X.env)
      let iv ← holding [v, ov] (eval i X.env)
      standAt tpos
      holding [v, ov, iv] (setItem ov iv v)
      release [v, ov, iv] []) := by intro _; rfl) : DS X R G (.Assign [.Subscript o i tpos] e pos) (stoG j n m G1) Gb Gc (sSto j kf gi f) := by
  obtain ⟨k, hk⟩ := isOw_ex hj
  obtain ⟨tv, pv, rv⟩ := V.run
  obtain ⟨ta, pa, ra⟩ := A.run
  obtain ⟨tb, pb, rb⟩ := B.use
  refine ⟨_, ps_asg pv (pg_sub pa pb (set_all (by omega)) ha) hs hw h1, fun sl σ H fs fl Dn S h P => ?_⟩
  unfold sSto at h
  obtain ⟨p, h1, h⟩ := Option.bind_eq_some_iff.mp h
  obtain ⟨x, sl1⟩ := p
  obtain ⟨ks, h2, h⟩ := Option.bind_eq_some_iff.mp h
  obtain ⟨d, h3, h⟩ := Option.bind_eq_some_iff.mp h
  obtain ⟨d1, h4, h⟩ := Option.bind_eq_some_iff.mp h
  obtain ⟨ky, h5, h⟩ := Option.bind_eq_some_iff.mp h
  obtain ⟨d2, h6, e6⟩ := Option.map_eq_some_iff.mp h
  subst e6
  refine rv sl σ H fs x sl1 _ S h1 fun w H1 fs1 fx O => ?_
  refine ra sl1 σ H1 fs1 ks d d1 _ O.sr h2 h3 h4 fun vj v H2 fp1 rest fn E hvj Sb hmod => ?_
  rw [hmod] at h6
  obtain ⟨z, h7, e7⟩ := Option.map_eq_some_iff.mp h6
  subst e7
  refine rb sl1 σ H2 fs1 ky _ (O.sr.same E) h5 fun y H3 gp OB => ?_
  have E3 : Ext H1 H3 := E.trans OB.same
  have S3 := O.sr.same E3
  have Sb3 := Sb.keep (H' := H3) fun a o e _ => OB.same.same a o e
  have oj : (md G1 j).own = true := by rw [hk]; rfl
  have ndj : (fs1 j).Nodup := S3.nd j oj
  obtain ⟨_, rd1, pm⟩ := Sb3.rep
  have rx := O.gin.rep.same E3.same
  -- the value is its own
  have own : fx.Nodup ∧ (∀ a ∈ fx, ∀ l, md G1 l ≠ .no → a ∉ fs1 l) ∧ ∀ a ∈ fx, (∃ l, (md G l).own = true ∧ a ∈ fs l) ∨ H a = none := by
    cases m with
    | ow k' => exact ⟨O.gin.ok.1, O.gin.ok.2, O.own ⟨k', rfl⟩⟩
    | vw k' rs =>
      have e : fx = [] := O.gin.rep.imm (by
        have h0 : k' = 0 := by simpa [plainOwn] using hp
        have := O.gin.dep
        subst h0; exact Nat.le_zero.mp this)
      subst e
      exact ⟨List.nodup_nil, (fun _ z => nomatch z), (fun _ z => nomatch z)⟩
  obtain ⟨nx, ox, wx⟩ := own
  have nd1 : (fp1 ++ fx).Nodup := List.nodup_append.mpr ⟨(List.nodup_append.mp (pm.nodup_iff.mp ndj)).1, nx, fun b hb c hc e => by
    subst e
    exact ox b hc j (own_ne_no oj) (pm.mem_iff.mpr (List.mem_append_left _ hb))⟩
  refine put_run S3.sz rd1 OB.rep rx h7 nd1 fun a o' fz ha hva hso rz ndz hcz => ?_
  obtain ⟨fp2, r2, nd2, c2⟩ := Sb3.mut (fps := fx) ndj ha rz ndz hcz fun b hb => ox b hb j (own_ne_no oj)
  have haj : a ∈ fs1 j := pm.mem_iff.mpr (List.mem_append_left _ ha)
  have EE : ∀ b u, H3 b = some u → b ∉ fs1 j → upd H3 a o' b = some u := fun b u e hb => by
    rw [upd_ne (fun z => by subst z; exact hb haj)]; exact e
  have dep : mdep (fn z) ≤ max k (m.k + 1 + n) := by
    have dj : mdep d ≤ k := by
      obtain ⟨d', v', q1, _, _, q4⟩ := O.sr.val j (own_ne_no oj)
      rw [eVar_some q1] at h3; cases h3
      rw [hk] at q4; exact q4
    have dx := O.gin.dep
    obtain ⟨z1, z2⟩ := opPut_dep (n := max (mdep d1) (m.k + 1)) h7 (Nat.le_max_left _ _) (Nat.le_trans (Nat.succ_le_succ dx) (Nat.le_max_right _ _))
    have d1n := Sb3.dep1 z2
    exact Sb3.dep (Nat.le_trans dj (Nat.le_max_left _ _)) (by omega)
  have S4 := mut_sr (k2 := max (md G1 j).k (m.k + 1 + n)) S3 oj hvj EE (S3.sz.upd hso) r2 (by rw [hk]; exact dep) nd2 fun b hb => by
    rcases c2 b hb with q | q
    · exact .inl q
    · exact .inr (ox b q)
  have T3 : TS G fs H G1 fs1 H3 := ⟨⟨fun b u e hn => E3.same _ _ (O.ts.s1 b u e hn), fun b e => O.ts.s2 b (E3.same.free e), O.ts.s3, O.ts.s5⟩, O.ts.s4⟩
  have T4 := mut_ts (k2 := max (md G1 j).k (m.k + 1 + n)) (fp2 := fp2) T3 S3 hk EE (fun b e => by
    by_cases q : b = a
    · subst q; rw [upd_same] at e; cases e
    · rw [upd_ne q] at e; exact e) fun b hb => by
    rcases c2 b hb with q | q
    · exact .inl q
    · exact .inr (wx b q)
  exact P σ _ _ S4 T4 .refl
/-- name op= an int -/
def intOf : D → Option Int
  | .int i => some i
  | _ => none
theorem intOf_eq {d : D} {i : Int} (h : intOf d = some i) : d = .int i := by cases d <;> first | (cases h; rfl) | cases h
def sAugN (l : Nat) (op : Int → Int → Int) (g : Ev → Option D) : Ev → Option Fl := fun sl => ((eVar l sl).bind intOf).bind fun a => ((g sl).bind intOf).bind fun b => if l < sl.length then some (.nx (sl.set l (some (.int (op a b))))) else none
theorem ds_augN {l : Nat} {x : Str} {pos' : Pos} {bop : Operator} {op : Int → Int → Int} {g : Ev → Option D} (ho : PIp X bop (ipI op)) (B : PD X G e m g) (hi : (decide (l < G.length) && !(md G l).isNo && notLk (md G l)) = true) (hN : X.N.Nodup) (hx : X.N[l]? = some x) (hl : Loc X.env.scope x)
    (hf : X.fn x = true ∨ X.env.scope.names.lookup x = some .local := by first | exact .inl rfl | exact .inr rfl | assumption) (hfx : R.fx.contains l = false := by rfl) :
    DS X R G (.AugAssign (.Name x pos') bop e pos) (G.set l (.vw 0 [])) Gb Gc (sAugN l op g) := by
  obtain ⟨tb, pb, rb⟩ := B.use
  refine ⟨_, ps_aug hN hx hl pb ho hf, fun sl σ H fs fl Dn S h P => ?_⟩
  simp only [Bool.and_eq_true, decide_eq_true_eq] at hi
  obtain ⟨⟨hi1, hi2⟩, hi3⟩ := hi
  have ne : md G l ≠ .no := fun z => by rw [z] at hi2; cases hi2
  unfold sAugN at h
  obtain ⟨a, h1, h⟩ := Option.bind_eq_some_iff.mp h
  obtain ⟨b, h2, h⟩ := Option.bind_eq_some_iff.mp h
  obtain ⟨d, h1, e1⟩ := Option.bind_eq_some_iff.mp h1
  obtain ⟨d', h2, e2⟩ := Option.bind_eq_some_iff.mp h2
  have e1 := intOf_eq e1
  have e2 := intOf_eq e2
  subst e1 e2
  obtain ⟨dv, v, q1, q2, q3, q4⟩ := S.val l ne
  rw [eVar_some q1] at h1; cases h1
  · split at h
    · rename_i hlt
      cases h
      obtain ⟨rfl, _⟩ := q3.int_inv
      refine ⟨.int a, q2, rb sl σ H fs (.int b) _ S h2 fun u H1 fp O => ?_⟩
      have ru := O.rep
      cases ru
      refine ⟨a, b, rfl, rfl, ?_⟩
      have S1 := (S.same O.same).set (m := .vw 0 []) (d := .int (op a b)) (v := .int (op a b)) (fp := []) (i := l) ⟨.int _, Nat.zero_le _, fun _ z => nomatch z⟩ hi1 hlt
      refine P _ H1 _ S1 ⟨⟨fun a o h _ => O.same.same a o h, fun a h => O.same.same.free h, fun i hi a ha => ?_, fun i hi a ha => ?_⟩, fun i k hlk => ?_⟩ (fx_ne hfx)
      · rw [md_set hi1] at hi
        unfold fset at ha
        by_cases e : i = l
        · rw [if_pos e] at ha; cases ha
        · rw [if_neg e] at hi ha; exact .inl ⟨i, hi, ha⟩
      · rw [md_set hi1] at hi
        unfold fset at ha
        by_cases e : i = l
        · rw [if_pos e] at ha; cases ha
        · rw [if_neg e] at hi ha; exact .inl ⟨i, hi, ha⟩
      · have nl : i ≠ l := fun z => by subst z; rw [hlk] at hi3; cases hi3
        rw [md_set hi1]
        unfold fset
        rw [if_neg nl, if_neg nl]
        exact ⟨hlk, rfl⟩
    · cases h
end
end Dw
/-! Dw, part T: sorted. -/
namespace Dw
open PySem PySem.Spec PyProof.Rows L2 PySem.W

/-! ### a sort that computes -/
section
variable (le : D → D → Bool)
def insD (a : D) : List D → List D
  | [] => [a]
  | b :: l => if le a b then a :: b :: l else b :: insD a l
def isort : List D → List D
  | [] => []
  | a :: l => insD le a (isort l)
def mrgA (x : D) (rec : List D → List D) : List D → List D
  | [] => x :: rec []
  | y :: ys => if le x y then x :: rec (y :: ys) else y :: mrgA x rec ys
def mrg : List D → List D → List D
  | [], ys => ys
  | x :: xs, ys => mrgA le x (mrg xs) ys
def srt : Nat → List D → List D
  | 0, l => isort le l
  | n + 1, l => match l with
    | [] => []
    | [x] => [x]
    | x :: y :: r => mrg le (srt n ((x :: y :: r).take ((x :: y :: r).length / 2))) (srt n ((x :: y :: r).drop ((x :: y :: r).length / 2)))
end
section
variable {le : D → D → Bool}
theorem mrg_nil : ∀ xs : List D, mrg le xs [] = xs
  | [] => rfl
  | x :: xs => by show x :: mrg le xs [] = _; rw [mrg_nil xs]
theorem mrg_cc {x y : D} {xs ys : List D} : mrg le (x :: xs) (y :: ys) = if le x y then x :: mrg le xs (y :: ys) else y :: mrg le (x :: xs) ys := rfl
theorem mrg_ins (tr : ∀ a b c, le a b = true → le b c = true → le a c = true) (tt : ∀ a b, le a b = true ∨ le b a = true) (x : D) : ∀ (A B : List D), mrg le (insD le x A) B = insD le x (mrg le A B)
  | [], B => by
    show mrg le [x] B = insD le x B
    induction B with
    | nil => rfl
    | cons b B ih =>
      rw [mrg_cc]
      show _ = if le x b then x :: b :: B else b :: insD le x B
      rw [ih]; rfl
  | a :: A, [] => by rw [mrg_nil, mrg_nil]
  | a :: A, b :: B => by
    have i1 := mrg_ins tr tt x A (b :: B)
    have i2 := mrg_ins tr tt x (a :: A) B
    by_cases hxa : le x a = true
    · have e : insD le x (a :: A) = x :: a :: A := if_pos hxa
      rw [e] at i2 ⊢
      rw [mrg_cc]
      by_cases hxb : le x b = true
      · rw [if_pos hxb, mrg_cc]
        by_cases hab : le a b = true
        · rw [if_pos hab]; exact (if_pos hxa).symm
        · rw [if_neg hab]; exact (if_pos hxb).symm
      · have hab : ¬ le a b = true := fun h => hxb (tr x a b hxa h)
        rw [if_neg hxb, i2, mrg_cc, if_neg hab]
        exact (if_neg hxb).symm
    · have e : insD le x (a :: A) = a :: insD le x A := if_neg hxa
      rw [e] at i2 ⊢
      rw [mrg_cc, mrg_cc]
      by_cases hab : le a b = true
      · rw [if_pos hab, if_pos hab, i1]
        exact (if_neg hxa).symm
      · have hxb : ¬ le x b = true := fun h => hxa (tr x b a h ((tt a b).resolve_left hab))
        rw [if_neg hab, if_neg hab, i2]
        exact (if_neg hxb).symm
termination_by A B => A.length + B.length
theorem isort_app (tr : ∀ a b c, le a b = true → le b c = true → le a c = true) (tt : ∀ a b, le a b = true ∨ le b a = true) : ∀ A B : List D, isort le (A ++ B) = mrg le (isort le A) (isort le B)
  | [], B => rfl
  | a :: A, B => by
    show insD le a (isort le (A ++ B)) = mrg le (insD le a (isort le A)) (isort le B)
    rw [isort_app tr tt A B, mrg_ins tr tt]
theorem srt_eq (tr : ∀ a b c, le a b = true → le b c = true → le a c = true) (tt : ∀ a b, le a b = true ∨ le b a = true) : ∀ (n : Nat) (l : List D), srt le n l = isort le l
  | 0, l => rfl
  | n + 1, [] => rfl
  | n + 1, [x] => rfl
  | n + 1, x :: y :: r => by
    show mrg le (srt le n _) (srt le n _) = _
    rw [srt_eq tr tt n, srt_eq tr tt n, ← isort_app tr tt, List.take_append_drop]
theorem ins_split {a : D} : ∀ {l1 l2 : List D}, (∀ b ∈ l1, le a b = false) → (∀ b ∈ l2, le a b = true) → insD le a (l1 ++ l2) = l1 ++ a :: l2
  | [], [], _, _ => rfl
  | [], b :: l2, _, h => if_pos (h b List.mem_cons_self)
  | b :: l1, l2, h, h2 => by
    show (if le a b then _ else _) = _
    rw [if_neg (by rw [h b List.mem_cons_self]; simp)]
    show b :: insD le a (l1 ++ l2) = b :: (l1 ++ a :: l2)
    rw [ins_split (fun c hc => h c (List.mem_cons_of_mem _ hc)) h2]
theorem isort_merge (tr : ∀ a b c, le a b = true → le b c = true → le a c = true) (tt : ∀ a b, le a b = true ∨ le b a = true) : ∀ l : List D, isort le l = l.mergeSort le
  | [] => by simp [isort]
  | a :: l => by
    obtain ⟨l1, l2, e1, e2, h⟩ := List.mergeSort_cons (le := le) tr (fun a b => by simpa using tt a b) a l
    have pw := List.pairwise_mergeSort (le := le) tr (fun a b => by simpa using tt a b) (a :: l)
    rw [e1] at pw ⊢
    show insD le a (isort le l) = _
    rw [isort_merge tr tt l, e2]
    refine ins_split (fun b hb => by simpa using h b hb) fun b hb => ?_
    have := (List.pairwise_append.mp pw).2.1
    exact (List.pairwise_cons.mp this).1 b hb
theorem mem_ins {a x : D} : ∀ {l : List D}, x ∈ insD le a l → x = a ∨ x ∈ l
  | [], h => .inl (by simpa [insD] using h)
  | b :: l, h => by
    unfold insD at h
    split at h
    · simpa using h
    · rcases List.mem_cons.mp h with e | h
      · exact .inr (e ▸ List.mem_cons_self)
      · exact (mem_ins h).imp id (List.mem_cons_of_mem _)
theorem mem_isort {x : D} : ∀ {l : List D}, x ∈ isort le l → x ∈ l
  | [], h => h
  | a :: l, h => by
    rcases mem_ins h with e | h
    · exact e ▸ List.mem_cons_self
    · exact List.mem_cons_of_mem _ (mem_isort h)
theorem mem_mrg {z : D} : ∀ {xs ys : List D}, z ∈ mrg le xs ys → z ∈ xs ∨ z ∈ ys
  | [], ys, h => .inr h
  | x :: xs, [], h => by rw [mrg_nil] at h; exact .inl h
  | x :: xs, y :: ys, h => by
    rw [mrg_cc] at h
    split at h
    · rcases List.mem_cons.mp h with e | h
      · exact .inl (e ▸ List.mem_cons_self)
      · exact (mem_mrg h).imp (List.mem_cons_of_mem _) id
    · rcases List.mem_cons.mp h with e | h
      · exact .inr (e ▸ List.mem_cons_self)
      · exact (mem_mrg h).imp id (List.mem_cons_of_mem _)
termination_by xs ys => xs.length + ys.length
theorem mem_srt {z : D} : ∀ {n : Nat} {l : List D}, z ∈ srt le n l → z ∈ l
  | 0, l, h => mem_isort h
  | n + 1, [], h => h
  | n + 1, [x], h => h
  | n + 1, x :: y :: r, h => by
    rcases mem_mrg h with h | h
    · exact List.mem_of_mem_take (mem_srt h)
    · exact List.mem_of_mem_drop (mem_srt h)
variable {le' : D → D → Bool}
theorem ins_congr {a : D} : ∀ {l : List D}, (∀ b ∈ l, le a b = le' a b) → insD le a l = insD le' a l
  | [], _ => rfl
  | b :: l, h => by
    unfold insD
    rw [h b List.mem_cons_self, ins_congr fun c hc => h c (List.mem_cons_of_mem _ hc)]
theorem isort_congr : ∀ {l : List D}, (∀ a ∈ l, ∀ b ∈ l, le a b = le' a b) → isort le l = isort le' l
  | [], _ => rfl
  | a :: l, h => by
    show insD le a (isort le l) = insD le' a (isort le' l)
    rw [isort_congr fun x hx y hy => h x (List.mem_cons_of_mem _ hx) y (List.mem_cons_of_mem _ hy)]
    exact ins_congr fun b hb => h a List.mem_cons_self b (List.mem_cons_of_mem _ (mem_isort hb))
theorem mrg_congr : ∀ {xs ys : List D}, (∀ a ∈ xs, ∀ b ∈ ys, le a b = le' a b) → mrg le xs ys = mrg le' xs ys
  | [], ys, _ => rfl
  | x :: xs, [], _ => by rw [mrg_nil, mrg_nil]
  | x :: xs, y :: ys, h => by
    rw [mrg_cc, mrg_cc, h x List.mem_cons_self y List.mem_cons_self, mrg_congr (xs := xs) (ys := y :: ys) fun a ha b hb => h a (List.mem_cons_of_mem _ ha) b hb,
      mrg_congr (xs := x :: xs) (ys := ys) fun a ha b hb => h a ha b (List.mem_cons_of_mem _ hb)]
termination_by xs ys => xs.length + ys.length
theorem srt_congr : ∀ {n : Nat} {l : List D}, (∀ a ∈ l, ∀ b ∈ l, le a b = le' a b) → srt le n l = srt le' n l
  | 0, l, h => isort_congr h
  | n + 1, [], _ => rfl
  | n + 1, [x], _ => rfl
  | n + 1, x :: y :: r, h => by
    show mrg le (srt le n _) (srt le n _) = mrg le' (srt le' n _) (srt le' n _)
    rw [srt_congr (n := n) fun a ha b hb => h a (List.mem_of_mem_take ha) b (List.mem_of_mem_take hb), srt_congr (n := n) fun a ha b hb => h a (List.mem_of_mem_drop ha) b (List.mem_of_mem_drop hb)]
    exact mrg_congr fun a ha b hb => h a (List.mem_of_mem_take (mem_srt ha)) b (List.mem_of_mem_drop (mem_srt hb))
end

/-! ### data of one kind -/
mutual
/-- of the same shape -/
def shp : D → D → Bool
  | .bl _, .bl _ => true
  | .int _, .int _ => true
  | .str _, .str _ => true
  | .non, .non => true
  | .tup xs, .tup ys => shps xs ys
  | .lst xs, .lst ys => shps xs ys
  | _, _ => false
def shps : List D → List D → Bool
  | [], [] => true
  | x :: xs, y :: ys => shp x y && shps xs ys
  | _, _ => false
end
mutual
theorem shp_alike : ∀ {d e e' : D}, shp d e = true → shp d e' = true → alike (toPy e) (toPy e') = true
  | .bl _, e, e', h, h' => by cases e <;> cases e' <;> first | rfl | (simp [shp] at h h') | simp [toPy, alike]
  | .int _, e, e', h, h' => by cases e <;> cases e' <;> first | rfl | (simp [shp] at h h') | simp [toPy, alike]
  | .str _, e, e', h, h' => by cases e <;> cases e' <;> first | rfl | (simp [shp] at h h') | simp [toPy, alike]
  | .non, e, e', h, h' => by cases e <;> cases e' <;> first | rfl | (simp [shp] at h h') | simp [toPy, alike]
  | .tup xs, e, e', h, h' => by
    cases e <;> try (simp [shp] at h)
    cases e' <;> try (simp [shp] at h')
    simp only [toPy, alike]
    exact shps_alike h h'
  | .lst xs, e, e', h, h' => by
    cases e <;> try (simp [shp] at h)
    cases e' <;> try (simp [shp] at h')
    simp only [toPy, alike]
    exact shps_alike h h'
  | .dct _ _ _, e, e', h, h' => by cases e <;> simp [shp] at h
  | .frz _, e, e', h, h' => by cases e <;> simp [shp] at h
theorem shps_alike : ∀ {d e e' : List D}, shps d e = true → shps d e' = true → alikeAll (toPys e) (toPys e') = true
  | [], e, e', h, h' => by
    cases e with
    | nil => simp [toPys, alikeAll]
    | cons _ _ => simp [shps] at h
  | x :: xs, e, e', h, h' => by
    cases e with
    | nil => simp [shps] at h
    | cons y ys =>
      cases e' with
      | nil => simp [shps] at h'
      | cons z zs =>
        simp only [shps, Bool.and_eq_true] at h h'
        simp only [toPys, alikeAll, Bool.and_eq_true]
        exact ⟨shp_alike h.1 h'.1, shps_alike h.2 h'.2⟩
end
mutual
/-- tuples of ints, k deep, of any lengths -/
def homI : Nat → D → Bool
  | 0, .int _ => true
  | k + 1, .tup xs => homIs k xs
  | _, _ => false
def homIs : Nat → List D → Bool
  | _, [] => true
  | k, x :: xs => homI k x && homIs k xs
end
mutual
theorem homI_alike : ∀ {k : Nat} {e e' : D}, homI k e = true → homI k e' = true → alike (toPy e) (toPy e') = true
  | 0, e, e', h, h' => by cases e <;> cases e' <;> first | rfl | (simp [homI] at h h') | simp [toPy, alike]
  | k + 1, .tup xs, e', h, h' => by
    cases e' <;> try (simp [homI] at h')
    simp only [toPy, alike]
    exact homIs_alike (by simpa [homI] using h) h'
  | k + 1, .non, _, h, _ => by simp [homI] at h
  | k + 1, .bl _, _, h, _ => by simp [homI] at h
  | k + 1, .int _, _, h, _ => by simp [homI] at h
  | k + 1, .str _, _, h, _ => by simp [homI] at h
  | k + 1, .lst _, _, h, _ => by simp [homI] at h
  | k + 1, .dct _ _ _, _, h, _ => by simp [homI] at h
  | k + 1, .frz _, _, h, _ => by simp [homI] at h
theorem homIs_alike : ∀ {k : Nat} {e e' : List D}, homIs k e = true → homIs k e' = true → alikeAll (toPys e) (toPys e') = true
  | k, [], e', _, _ => by simp [toPys, alikeAll]
  | k, x :: xs, [], _, _ => by simp [toPys, alikeAll]
  | k, x :: xs, y :: ys, h, h' => by
    simp only [homIs, Bool.and_eq_true] at h h'
    simp only [toPys, alikeAll, Bool.and_eq_true]
    exact ⟨homI_alike h.1 h'.1, homIs_alike h.2 h'.2⟩
end
def isTupNE : D → Bool
  | .tup (_ :: _) => true
  | _ => false
def notNT : D → Bool
  | .non => false
  | .tup _ => false
  | .dct _ _ _ => false
  | .frz _ => false
  | _ => true
/-- data that sorted sorts -/
def sortOk : List D → Bool
  | [] => true
  | d :: ds => ((d :: ds).all (shp d) || (d :: ds).all (homI 0) || (d :: ds).all (homI 1) || (d :: ds).all (homI 2) || (d :: ds).all (homI 3)) && ((d :: ds).all isTupNE || (d :: ds).all notNT) && (d :: ds).all cmpOk
theorem sortOk_alike : ∀ {ds : List D}, sortOk ds = true → AllAlike (ds.map toPy) ∧ Sortable (ds.map toPy) ∧ ∀ d ∈ ds, cmpOk d = true
  | [], _ => ⟨(fun _ h => nomatch h), .inr (fun _ h => nomatch h), (fun _ h => nomatch h)⟩
  | d0 :: ds, h => by
    unfold sortOk at h
    simp only [Bool.and_eq_true, Bool.or_eq_true] at h
    obtain ⟨⟨h1, h2⟩, h3⟩ := h
    refine ⟨fun x hx y hy => ?_, ?_, fun d hd => List.all_eq_true.mp h3 d hd⟩
    · obtain ⟨a, ha, rfl⟩ := List.mem_map.mp hx
      obtain ⟨b, hb, rfl⟩ := List.mem_map.mp hy
      rcases h1 with (((q | q) | q) | q) | q
      · exact shp_alike (List.all_eq_true.mp q a ha) (List.all_eq_true.mp q b hb)
      · exact homI_alike (List.all_eq_true.mp q a ha) (List.all_eq_true.mp q b hb)
      · exact homI_alike (List.all_eq_true.mp q a ha) (List.all_eq_true.mp q b hb)
      · exact homI_alike (List.all_eq_true.mp q a ha) (List.all_eq_true.mp q b hb)
      · exact homI_alike (List.all_eq_true.mp q a ha) (List.all_eq_true.mp q b hb)
    · rcases h2 with q | q
      · refine .inl fun x hx => ?_
        obtain ⟨a, ha, rfl⟩ := List.mem_map.mp hx
        have := List.all_eq_true.mp q a ha
        unfold isTupNE at this
        split at this
        · exact ⟨_, _, rfl⟩
        · cases this
      · refine .inr fun x hx => ?_
        obtain ⟨a, ha, rfl⟩ := List.mem_map.mp hx
        have := List.all_eq_true.mp q a ha
        cases a <;> simp [notNT] at this <;> simp [toPy]
mutual
/-- a < b, of alike data -/
def ltD : D → D → Bool
  | .int i, .int j => decide (i < j)
  | .tup xs, .tup ys => ltDs xs ys
  | .lst xs, .lst ys => ltDs xs ys
  | d, e => dataLt (toPy d) (toPy e)
def ltDs : List D → List D → Bool
  | [], [] => false
  | [], _ :: _ => true
  | _ :: _, [] => false
  | x :: xs, y :: ys => if deq x y then ltDs xs ys else ltD x y
end
mutual
theorem ltD_eq : ∀ {d e : D}, alike (toPy d) (toPy e) = true → ltD d e = dataLt (toPy d) (toPy e)
  | .int i, e, h => by
    cases e <;> first | rfl | (unfold ltD toPy; rw [dataLt_int])
  | .tup xs, e, h => by
    cases e <;> try rfl
    rename_i ys
    simp only [toPy, alike] at h
    unfold ltD
    rw [ltDs_eq h]
    simp only [toPy]
    rw [dataLt_tuple]
  | .lst xs, e, h => by
    cases e <;> try rfl
    rename_i ys
    simp only [toPy, alike] at h
    unfold ltD
    rw [ltDs_eq h]
    simp only [toPy]
    rw [dataLt_list]
  | .non, e, h => by cases e <;> rfl
  | .bl _, e, h => by cases e <;> rfl
  | .str _, e, h => by cases e <;> rfl
  | .dct _ _ _, e, h => by cases e <;> rfl
  | .frz _, e, h => by cases e <;> rfl
theorem ltDs_eq : ∀ {xs ys : List D}, alikeAll (toPys xs) (toPys ys) = true → ltDs xs ys = PyProof.Rows.lexLt itemOrd (keyToksAll (toPys xs)) (keyToksAll (toPys ys))
  | [], [], h => by simp only [ltDs, toPys]; rw [lex_irrefl]
  | [], y :: ys, h => by
    simp only [ltDs, toPys, keyToksAll]
    rw [lex_atom (by simp)]; rfl
  | x :: xs, [], h => by
    simp only [ltDs, toPys, keyToksAll]
    rw [lex_atom (by simp)]; rfl
  | x :: xs, y :: ys, h => by
    simp only [toPys, alikeAll, Bool.and_eq_true] at h
    simp only [toPys, ltDs]
    rw [dataLt_cons h.1]
    show (if PyData.eqv (toPy x) (toPy y) = true then _ else _) = _
    by_cases q : PyData.eqv (toPy x) (toPy y) = true
    · rw [if_pos q, if_pos q]; exact ltDs_eq h.2
    · rw [if_neg q, if_neg q]; exact ltD_eq h.1
end

/-! ### sorted(a list), sorted(a tuple) -/
section
variable {prog : Program} {w : World} {A : Around} {E : Value → Shared → Prop} {s : Shared}
/-- the heap with one more list, still empty; and with the items put into it -/
abbrev hpNew (s : Shared) : Heap := s.heap.push (seqObj "list" #[] 0)
abbrev hpPut (s : Shared) (vs : List Value) : Heap := (hpNew s).update s.heap.objs.size (Obj.mapSeq (· ++ vs.toArray))
theorem hpPut_size (s : Shared) (vs : List Value) : (hpPut s vs).objs.size = s.heap.objs.size + 1 := (Heap.size_update _ _ _).trans (size_push' _ _)
/-- the new list takes a tuple's items -/
theorem ext_tup {l : Addr} {vs : List Value} {Q : PySem.Fin → Shared → Prop} (hl : s.heap.IsTuple l vs.toArray) (hz : vs.length ≤ sizeLine) (h : Q (.done (.ret (.ref s.heap.objs.size))) { s with heap := hpPut s vs }) :
    wpAny (model prog w) A (Builtin.List.listExtendWith (.ref s.heap.objs.size) (.ref l) (.ref s.heap.objs.size)) Q E { s with heap := hpNew s } := by
  obtain ⟨o, at1, cls, n, dat⟩ := hl
  have at2 : (hpNew s).get? l = some o := Heap.get?_push_of_some _ at1
  have at3 : (hpNew s).get? s.heap.objs.size = some (seqObj "list" #[] 0) := Heap.get?_push_size _ rfl
  have room : (#[] ++ vs.toArray).size ≤ sizeLine + 1 := by rw [Array.size_append]; simp; omega
  unfold Builtin.List.listExtendWith
  refine wpAny_bind (wpAny_typeOf ⟨o, at2, cls⟩ ?_)
  rw [if_pos (show _ from by simp)]
  refine wpAny_bind (listItems_at at2 dat (wpAny_bind (listItems_at at3 rfl ?_)))
  rw [if_neg (show ¬ _ from by simp)]
  exact wpAny_bind (listUpdate_at at3 rfl (wpAny_pure h) (Nat.zero_le _) room)
/-- a tuple's items, collected -/
theorem collect_tup {l : Addr} {vs : List Value} {Q : List Value → Shared → Prop} (hl : s.heap.IsTuple l vs.toArray) (h : Q vs { s with heap := hpPut s vs }) (hz : vs.length ≤ sizeLine) :
    wpAny (model prog w) A (collect (.ref l)) Q E s := by
  have e : ((#[] : Array Value) ++ vs.toArray).toList = vs := by simp
  unfold collect
  refine wpAny_bind (wpAny_runValue (codeAny_builtin entry_proto_collect' (wpAny_bind (wpAny_newList (s := s) (wpAny_pure ⟨Code.quiet_builtin _ (by decide +kernel), codeAny_builtin entry_list_iadd' (ext_tup hl hz ?_)⟩)))))
  refine wpAny_bind (wpAny_load (get?_update_seq (Heap.get?_push_size _ rfl) _) (wpAny_pure ?_))
  exact e.symm ▸ h
/-- sorted(a tuple): a new list that reads as the sorted data -/
theorem sorted_dataT {β : Type} {vs : List Value} {bs : List β} {enc : β → PyData} {R : Value → β → Prop} {l : Addr} {Q : Value → Shared → Prop} (hl : s.heap.IsTuple l vs.toArray) (e : EachIs R vs bs) (er : EachIs (fun v b => ∃ as, Reads s.heap v (enc b) as) vs bs)
    (hal : AllAlike (bs.map enc)) (hk : Sortable (bs.map enc)) (hL : bs.length ≤ sizeLine) (hu : ∀ b, b ∈ bs → A.units + 2 + (enc b).depth < cLine)
    (h : ∀ out, out.length = bs.length → EachIs R out (bs.mergeSort (dataLe false enc)) → Q (.ref (s.heap.objs.size + 1)) { s with heap := sortedAll s.heap vs (List.toArray out) }) : wpAny (model prog w) A (call (.builtin "sorted") [.ref l]) Q E s := by
  have hz : vs.length ≤ sizeLine := e.length ▸ hL
  have rd : EachIs (fun v b => ∃ as, Reads (sortingHeap (copyHeap s.heap vs) (s.heap.objs.size + 1) vs) v (enc b) as) vs bs := er.mono fun _ _ ⟨_, r⟩ => ⟨_, PyProof.Rows.Reads.keeps (fun _ _ => sorting_copy_old) r⟩
  have body : ∀ E' : Value → Shared → Prop, wpAny (model prog w) A.in1.in1 (Builtin.«list.sort» ⟨[.ref (s.heap.objs.size + 1)], []⟩) (fun f s' => f = .done (.ret .none) ∧ Q (.ref (s.heap.objs.size + 1)) s') E' { s with heap := copyHeap s.heap vs } := fun _ =>
    list_sort_vals (s := { s with heap := copyHeap s.heap vs }) (copyHeap_at s.heap vs) (SortsAt.data (each_map (R := fun v d => ∃ as, Reads (sortingHeap (copyHeap s.heap vs) (s.heap.objs.size + 1) vs) v d as) enc rd) hal hk (bound_map hu)) hz
      ⟨rfl, h _ ((sortVals_length false rfl).trans e.length) (sortVals_data false e rd hal)⟩
  have old := hpPut_size s vs
  refine call_function_entry_kw kind_sorted plain_sorted entry_sorted (args_sorted1 _) ?_
  unfold Builtin.«sorted»
  refine wpAny_bind (m := checkCount "sorted" 1 1 _) (wpAny_pure (wpAny_bind (collect_tup hl (wpAny_bind (wpAny_newList ?_ hz)) hz)))
  simp only [old]
  exact wpAny_bind (wpAny_holding (wpAny_call_entry_kw slot_list_sort ⟨_, copyHeap_at s.heap vs, rfl⟩ entry_list_sort (wpAny_mono (body _) (fun f s' hf => ⟨_, hf.1, wpAny_pure ⟨_, rfl, hf.2⟩⟩) fun _ _ e => e) (args_list_sort _)))
end
def leD (a b : D) : Bool := !ltD b a
def srtD (ds : List D) : List D := srt leD 25 ds
theorem srtD_eq {ds : List D} (h : AllAlike (ds.map toPy)) : srtD ds = ds.mergeSort (dataLe false toPy) := by
  have T := sortLe_total (listOrd itemOrd) false fun b => keyToks (toPy b)
  have tr : ∀ a b c, dataLe false toPy a b = true → dataLe false toPy b c = true → dataLe false toPy a c = true := fun a b c => T.trans a b c
  have tt : ∀ a b, dataLe false toPy a b = true ∨ dataLe false toPy b a = true := fun a b => T.total a b
  unfold srtD
  rw [srt_congr (le' := dataLe false toPy) fun a ha b hb => ?_, srt_eq tr tt, isort_merge tr tt]
  show (!ltD b a) = (!dataLt (toPy b) (toPy a))
  rw [ltD_eq (h _ (List.mem_map.mpr ⟨b, hb, rfl⟩) _ (List.mem_map.mpr ⟨a, ha, rfl⟩))]
def rSortA (K : PySem.W.Frag) : List V → Hp → VK → Prop := fun vs H Q => ∃ (a : Addr) (ds : List D) (zs : List V) (fp : List Addr), vs = [.ref a] ∧ (SqL K H a zs ∨ SqT K H a zs) ∧ Reps K H ds zs fp ∧ sortOk ds = true ∧
  ∀ (ws : List V) (p : Addr) (fq : List Addr), Reps K H (srtD ds) ws fq → (∀ b ∈ fq, b ∈ fp) → H p = none → ws.length ≤ sizeLine → Q (.ref p) (upd H p (.lst ws))
theorem each_of {K : PySem.W.Frag} {H : Hp} {U : List Addr} : ∀ {ds : List D} {vs : List V} {us : List Value} {fp : List Addr}, Reps K H ds vs fp → Vals vs us → (∀ a ∈ fp, a ∈ U) → EachIs (fun u d => ∃ v f, RelV v u ∧ Rep K H d v f ∧ ∀ a ∈ f, a ∈ U) us ds
  | _, _, _, _, .nil, .nil, _ => .nil
  | _, _, _, _, .cons r t, .cons q z, h => .cons ⟨_, _, q, r, fun a ha => h a (List.mem_append_left _ ha)⟩ (each_of t z fun a ha => h a (List.mem_append_right _ ha))
theorem of_each {K : PySem.W.Frag} {H : Hp} {U : List Addr} : ∀ {ds : List D} {us : List Value}, EachIs (fun u d => ∃ v f, RelV v u ∧ Rep K H d v f ∧ ∀ a ∈ f, a ∈ U) us ds → ∃ vs fp, Vals vs us ∧ Reps K H ds vs fp ∧ ∀ a ∈ fp, a ∈ U
  | _, _, .nil => ⟨[], [], .nil, .nil, fun _ z => nomatch z⟩
  | _, _, .cons ⟨v, f, q, r, h⟩ t => by
    obtain ⟨vs, fp, a, b, c⟩ := of_each t
    exact ⟨v :: vs, f ++ fp, .cons q a, .cons r b, fun x hx => (List.mem_append.mp hx).elim (h x) (c x)⟩
theorem each_reads {X : Cx} {pins : List (Addr × Obj)} {σ : L2.St} {H : Hp} {s : Shared} (I : Inv X pins σ H s) : ∀ {ds : List D} {vs : List V} {us : List Value} {fp : List Addr}, Reps X.K H ds vs fp → Vals vs us → (∀ d ∈ ds, cmpOk d = true) → EachIs (fun v b => ∃ as, Reads s.heap v (toPy b) as) us ds
  | _, _, _, _, .nil, .nil, _ => .nil
  | _, _, _, _, .cons (d := d) r t, .cons q z, h => by
    have pl : (toPy d).plain = true := by
      have := h d List.mem_cons_self
      unfold cmpOk at this
      rw [Bool.and_eq_true] at this
      exact this.1
    exact .cons (Dp.reads I _ _ _ (r.dp pl) q) (each_reads I t z fun d hd => h d (List.mem_cons_of_mem _ hd))
theorem cr_sortA {X : Cx} (hu : X.A.units + 64 < cLine) : CallR X (.builtin "sorted") (rSortA X.K) := by
  intro pins s σ H vs us Q I r h
  obtain ⟨a, ds, zs, fp, rfl, hs, rp, ok, q⟩ := h
  rw [Vals.ref1 r]
  obtain ⟨hal, hk, hc⟩ := sortOk_alike ok
  have dep : ∀ b, b ∈ ds → X.A.units + 2 + (toPy b).depth < cLine := fun b hb => by
    have := hc b hb
    unfold cmpOk at this
    rw [Bool.and_eq_true, decide_eq_true_eq] at this
    omega
  have fin : ∀ (its : List Value), Vals zs its → zs.length ≤ sizeLine → ∀ out : List Value, out.length = ds.length → EachIs (fun u d => ∃ v f, RelV v u ∧ Rep X.K H d v f ∧ ∀ a ∈ f, a ∈ fp) out (ds.mergeSort (dataLe false toPy)) → EP X pins σ Q (.ref (s.heap.objs.size + 1)) { s with heap := sortedAll s.heap its (List.toArray out) } := fun its rv hz out h1 h2 => by
    rw [← srtD_eq hal] at h2
    obtain ⟨ws, fq, q1, q2, q3⟩ := of_each h2
    obtain ⟨ep, he'⟩ := PyProof.Rows.sortedAll_at s.heap its out.toArray
    have hlen : ws.length ≤ sizeLine := by rw [q1.length, h1, rp.length]; exact hz
    exact ⟨.ref _, upd H (s.heap.objs.size + 1) (.lst ws), I.laid (t' := s.toks) (fun _ _ => PyProof.Rows.sortedAll_old) (Nat.le_succ _) ⟨hlen, out, ep, q1, he'⟩, rfl, q ws _ fq q2 q3 (I.hok.fresh (Nat.le_succ _)) hlen⟩
  rcases hs with hs | hs
  · obtain ⟨its, rv, hl, hz⟩ := I.list hs
    exact sorted_data hl.isList (each_of rp rv fun _ h => h) (each_reads I rp rv hc) hal hk (by rw [rp.length]; exact hz) dep fun out h1 h2 => fin its rv hz out h1 h2
  · obtain ⟨its, rv, hl, hz⟩ := I.tuple hs
    exact sorted_dataT hl (each_of rp rv fun _ h => h) (each_reads I rp rv hc) hal hk (by rw [rp.length]; exact hz) dep fun out h1 h2 => fin its rv hz out h1 h2
def opSorted : List D → Option D
  | [d] => (match d with
    | .lst ds => some ds
    | .tup ds => some ds
    | _ => none).bind fun ds => if sortOk ds then some (.lst (srtD ds)) else none
  | _ => none
theorem srtD_mem {ds : List D} {d : D} (h : d ∈ srtD ds) : d ∈ ds := mem_srt h
end Dw
/-! Dw, part U: built-in calls, slices. -/
namespace Dw
open PySem PySem.Spec PyProof.Rows L2

/-! ### values of calls -/
section
variable {K : PySem.W.Frag}
theorem reps_one {H : Hp} {d : D} {vs : List V} {fp : List Addr} (r : Reps K H [d] vs fp) : ∃ v, vs = [v] ∧ Rep K H d v fp := by
  cases r with
  | cons r t =>
    cases t
    rw [List.append_nil]
    exact ⟨_, rfl, r⟩
theorem reps_two {H : Hp} {d e : D} {vs : List V} {fp : List Addr} (r : Reps K H [d, e] vs fp) : ∃ v w f g, vs = [v, w] ∧ Rep K H d v f ∧ Rep K H e w g ∧ fp = f ++ g := by
  cases r with
  | cons r t =>
    obtain ⟨w, e1, r2⟩ := reps_one t
    subst e1
    exact ⟨_, w, _, _, rfl, r, r2, rfl⟩
def opLen : List D → Option D
  | [.lst ds] => some (.int ds.length)
  | [.tup ds] => some (.int ds.length)
  | [.frz xs] => some (.int xs.length)
  | [.dct _ ks _] => some (.int ks.length)
  | _ => none
def rLenA (K : PySem.W.Frag) : List V → Hp → VK → Prop := fun xs H Q => (∃ x n, xs = [x] ∧ LenV K x H n ∧ Q (.int (n : Nat)) H) ∨ (∃ a kvs, xs = [V.ref a] ∧ H a = some (.dK kvs) ∧ Q (.int (kvs.length : Nat)) H) ∨ rLenT xs H Q
theorem call_lenA {X : Cx} : CallR X (.builtin "len") (rLenA X.K) := call_len.or (call_lenD.or call_len_dT)
theorem vr_len : VR K (rLenA K) opLen false := fun H vs ds fp d Q sz r0 h q => by
  have fin : ∀ n : Nat, Q (.int (n : Nat)) H ↔ Q (.int ((n : Nat) : Int)) H := fun n => Iff.rfl
  unfold opLen at h
  split at h
  · cases h
    obtain ⟨v, rfl, r⟩ := reps_one r0
    cases r with
    | lst h1 r1 => exact .inl ⟨_, _, rfl, .inl ⟨_, SqL.of h1, r1.length⟩, q _ H [] (Ext.refl H) (.int _) (fun _ z => nomatch z) (fun z => nomatch z)⟩
  · cases h
    obtain ⟨v, rfl, r⟩ := reps_one r0
    cases r with
    | tup h1 r1 => exact .inl ⟨_, _, rfl, .inr ⟨_, SqT.of h1, r1.length⟩, q _ H [] (Ext.refl H) (.int _) (fun _ z => nomatch z) (fun z => nomatch z)⟩
  · cases h
    obtain ⟨v, rfl, r⟩ := reps_one r0
    cases r with
    | frz h1 => exact .inl ⟨_, _, rfl, .inl ⟨_, h1.sq, (List.length_map _).symm⟩, q _ H [] (Ext.refl H) (.int _) (fun _ z => nomatch z) (fun z => nomatch z)⟩
  · cases h
    obtain ⟨v, rfl, r⟩ := reps_one r0
    cases r with
    | dK h1 e r1 => subst e; refine .inr (.inl ⟨_, _, rfl, h1, ?_⟩); have := q (.int (List.length (List.map (fun p : Key × V => kD p.1) _) : Nat)) H [] (Ext.refl H) (.int _) (fun _ z => nomatch z) (fun z => nomatch z); rw [List.length_map] at this; exact this
    | dT h1 e r1 => subst e; refine .inr (.inr ⟨_, _, rfl, h1, ?_⟩); have := q (.int (List.length (List.map (fun p : List Key × V => D.tup (p.1.map kD)) _) : Nat)) H [] (Ext.refl H) (.int _) (fun _ z => nomatch z) (fun z => nomatch z); rw [List.length_map] at this; exact this
  · cases h
/-- of ints alone -/
def opI1 (f : Int → Int) : List D → Option D
  | [.int i] => some (.int (f i))
  | _ => none
def opI2 (f : Int → Int → Int) : List D → Option D
  | [.int i, .int j] => some (.int (f i j))
  | _ => none
theorem vr_I1 {f : Int → Int} : VR K (fun xs H Q => ∃ i, xs = [.int i] ∧ Q (.int (f i)) H) (opI1 f) false := fun H vs ds fp d Q sz r0 h q => by
  unfold opI1 at h
  split at h
  · cases h
    obtain ⟨v, rfl, r⟩ := reps_one r0
    cases r
    exact ⟨_, rfl, q _ H [] (Ext.refl H) (.int _) (fun _ z => nomatch z) (fun z => nomatch z)⟩
  · cases h
theorem vr_I2 {f : Int → Int → Int} : VR K (fun xs H Q => ∃ i j, xs = [.int i, .int j] ∧ Q (.int (f i j)) H) (opI2 f) false := fun H vs ds fp d Q sz r0 h q => by
  unfold opI2 at h
  split at h
  · cases h
    obtain ⟨v, w, f1, g1, rfl, r1, r2, _⟩ := reps_two r0
    cases r1
    cases r2
    exact ⟨_, _, rfl, q _ H [] (Ext.refl H) (.int _) (fun _ z => nomatch z) (fun z => nomatch z)⟩
  · cases h
def absI (i : Int) : Int := if i < 0 then -i else i
def maxI (i j : Int) : Int := if j > i then j else i
def minI (i j : Int) : Int := if j < i then j else i
def opInt : List D → Option D
  | [.int i] => some (.int i)
  | [.bl b] => some (.int (if b then 1 else 0))
  | _ => none
theorem vr_int : VR K (fun xs H Q => (∃ i, xs = [.int i] ∧ Q (.int i) H) ∨ ∃ k, xs = [.bl k] ∧ Q (.int (if k then 1 else 0)) H) opInt false := fun H vs ds fp d Q sz r0 h q => by
  unfold opInt at h
  split at h
  · cases h
    obtain ⟨v, rfl, r⟩ := reps_one r0
    cases r
    exact .inl ⟨_, rfl, q _ H [] (Ext.refl H) (.int _) (fun _ z => nomatch z) (fun z => nomatch z)⟩
  · cases h
    obtain ⟨v, rfl, r⟩ := reps_one r0
    cases r
    exact .inr ⟨_, rfl, q _ H [] (Ext.refl H) (.int _) (fun _ z => nomatch z) (fun z => nomatch z)⟩
  · cases h
/-- list(a list or tuple), tuple(..) -/
def itemsD : D → Option (List D)
  | .lst ds => some ds
  | .tup ds => some ds
  | _ => none
def opList : List D → Option D
  | [d] => (itemsD d).map .lst
  | _ => none
def opTuple : List D → Option D
  | [d] => (itemsD d).map .tup
  | _ => none
theorem itemsD_rep {H : Hp} {d : D} {ds : List D} {v : V} {fp : List Addr} (sz : Sz H) (r : Rep K H d v fp) (h : itemsD d = some ds) : ∃ a ws g, v = .ref a ∧ Reps K H ds ws g ∧ (∀ b ∈ g, b ∈ fp) ∧ ws.length ≤ sizeLine ∧ ((H a = some (.lst ws) ∧ d = .lst ds) ∨ (H a = some (.tup ws) ∧ d = .tup ds)) := by
  unfold itemsD at h
  split at h
  · cases h
    cases r with
    | lst h1 r1 => exact ⟨_, _, _, rfl, r1, fun b hb => List.mem_cons_of_mem _ hb, (by have := sz _ _ h1; simpa [szO] using this), .inl ⟨h1, rfl⟩⟩
  · cases h
    cases r with
    | tup h1 r1 => exact ⟨_, _, _, rfl, r1, fun b hb => hb, (by have := sz _ _ h1; simpa [szO] using this), .inr ⟨h1, rfl⟩⟩
  · cases h
theorem vr_list : VR K (fun xs H Q => ∃ p ys, xs = [.ref p] ∧ (SqL K H p ys ∨ SqT K H p ys) ∧ ∀ l, H l = none → Q (.ref l) (upd H l (.lst ys))) opList true := fun H vs ds fp d Q sz r0 h q => by
  unfold opList at h
  split at h
  · obtain ⟨v, rfl, r⟩ := reps_one r0
    obtain ⟨ds', h1, e⟩ := Option.map_eq_some_iff.mp h
    subst e
    obtain ⟨a, ws, g, rfl, r2, sub, hz, hq⟩ := itemsD_rep sz r h1
    refine ⟨a, ws, rfl, hq.imp (fun z => SqL.of z.1) (fun z => SqT.of z.1), fun l hl => ?_⟩
    refine q _ _ _ (Ext.upd hl (szO_lst hz)) (new_lst r2 hl) (fun b hb => ?_) fun _ _ => fr_new (K := K) (H' := H) (d := .non) hl
    rcases List.mem_cons.mp hb with e | hb
    · exact .inr (e ▸ hl)
    · exact .inl (sub b hb)
  · cases h
theorem vr_tuple : VR K (fun xs H Q => ∃ p ys, xs = [.ref p] ∧ ((SqL K H p ys ∧ ∀ l, H l = none → Q (.ref l) (upd H l (.tup ys))) ∨ (SqT K H p ys ∧ Q (.ref p) H))) opTuple false := fun H vs ds fp d Q sz r0 h q => by
  unfold opTuple at h
  split at h
  · obtain ⟨v, rfl, r⟩ := reps_one r0
    obtain ⟨ds', h1, e⟩ := Option.map_eq_some_iff.mp h
    subst e
    obtain ⟨a, ws, g, rfl, r2, sub, hz, hq⟩ := itemsD_rep sz r h1
    rcases hq with ⟨hq, e⟩ | ⟨hq, e⟩
    · refine ⟨a, ws, rfl, .inl ⟨SqL.of hq, fun l hl => ?_⟩⟩
      exact q _ _ _ (Ext.upd hl (szO_tup hz)) (new_tup r2 hl) (fun b hb => .inl (sub b hb)) (fun z => nomatch z)
    · subst e
      exact ⟨a, ws, rfl, .inr ⟨SqT.of hq, q _ H _ (Ext.refl H) r (fun b hb => .inl hb) (fun z => nomatch z)⟩⟩
  · cases h
theorem vr_sorted : VR K (rSortA K) opSorted true := fun H vs ds fp d Q sz r0 h q => by
  unfold opSorted at h
  split at h
  · rename_i d0
    obtain ⟨v, rfl, r⟩ := reps_one r0
    obtain ⟨ds', h1, h2⟩ := Option.bind_eq_some_iff.mp h
    split at h2
    · rename_i hs
      cases h2
      obtain ⟨a, ws, g, rfl, r2, sub, hz, hq⟩ := itemsD_rep (d := d0) (ds := ds') sz r (by unfold itemsD; exact h1)
      refine ⟨a, ds', ws, g, rfl, hq.imp (fun z => SqL.of z.1) (fun z => SqT.of z.1), r2, hs, fun ys p fq rq sq hp hl => ?_⟩
      refine q _ _ _ (Ext.upd hp (szO_lst hl)) (new_lst rq hp) (fun b hb => ?_) fun _ _ => fr_new (K := K) (H' := H) (d := .non) hp
      rcases List.mem_cons.mp hb with e | hb
      · exact .inr (e ▸ hp)
      · exact .inl (sub b (sq b hb))
    · cases h2
  · cases h
/-- sum, max, min of a list of ints -/
def sumZ : List Int → Int
  | [] => 0
  | x :: xs => x + sumZ xs
def maxZ : Int → List Int → Int
  | m, [] => m
  | m, x :: xs => maxZ (if m < x then x else m) xs
def minZ : Int → List Int → Int
  | m, [] => m
  | m, x :: xs => minZ (if x < m then x else m) xs
def opSum : List D → Option D
  | [.lst ds] => (intsD ds).map fun ns => .int (sumZ ns)
  | _ => none
def opMaxL : List D → Option D
  | [.lst ds] => (intsD ds).bind fun ns => match ns with
    | [] => none
    | n :: ns => some (.int (maxZ n ns))
  | _ => none
def opMinL : List D → Option D
  | [.lst ds] => (intsD ds).bind fun ns => match ns with
    | [] => none
    | n :: ns => some (.int (minZ n ns))
  | _ => none
theorem sumZ_eq : ∀ ns : List Int, sumZ ns = ns.sum
  | [] => rfl
  | x :: xs => by rw [List.sum_cons, ← sumZ_eq xs]; rfl
theorem maxZ_ok : ∀ (m : Int) (ns : List Int), (maxZ m ns = m ∨ maxZ m ns ∈ ns) ∧ m ≤ maxZ m ns ∧ ∀ y ∈ ns, y ≤ maxZ m ns
  | m, [] => ⟨.inl rfl, Int.le_refl _, fun _ z => nomatch z⟩
  | m, x :: xs => by
    obtain ⟨h1, h2, h3⟩ := maxZ_ok (if m < x then x else m) xs
    have e : maxZ m (x :: xs) = maxZ (if m < x then x else m) xs := rfl
    rw [e]
    have hm : m ≤ (if m < x then x else m) ∧ x ≤ (if m < x then x else m) := by split <;> constructor <;> omega
    refine ⟨?_, Int.le_trans hm.1 h2, fun y hy => ?_⟩
    · rcases h1 with q | q
      · rw [q]
        split
        · exact .inr List.mem_cons_self
        · exact .inl rfl
      · exact .inr (List.mem_cons_of_mem _ q)
    · rcases List.mem_cons.mp hy with z | z
      · subst z; exact Int.le_trans hm.2 h2
      · exact h3 y z
theorem minZ_ok : ∀ (m : Int) (ns : List Int), (minZ m ns = m ∨ minZ m ns ∈ ns) ∧ minZ m ns ≤ m ∧ ∀ y ∈ ns, minZ m ns ≤ y
  | m, [] => ⟨.inl rfl, Int.le_refl _, fun _ z => nomatch z⟩
  | m, x :: xs => by
    obtain ⟨h1, h2, h3⟩ := minZ_ok (if x < m then x else m) xs
    have e : minZ m (x :: xs) = minZ (if x < m then x else m) xs := rfl
    rw [e]
    have hm : (if x < m then x else m) ≤ m ∧ (if x < m then x else m) ≤ x := by split <;> constructor <;> omega
    refine ⟨?_, Int.le_trans h2 hm.1, fun y hy => ?_⟩
    · rcases h1 with q | q
      · rw [q]
        split
        · exact .inr List.mem_cons_self
        · exact .inl rfl
      · exact .inr (List.mem_cons_of_mem _ q)
    · rcases List.mem_cons.mp hy with z | z
      · subst z; exact Int.le_trans h2 hm.2
      · exact h3 y z
theorem vr_sum : VR K (rSum K) opSum false := fun H vs ds fp d Q sz r0 h q => by
  unfold opSum at h
  split at h
  · obtain ⟨v, rfl, r⟩ := reps_one r0
    obtain ⟨ns, h1, e⟩ := Option.map_eq_some_iff.mp h
    subst e
    have e := intsD_eq h1
    subst e
    cases r with
    | lst h2 r2 =>
      obtain ⟨ew, _⟩ := r2.ints
      subst ew
      exact ⟨_, ns, rfl, SqL.of h2, by rw [← sumZ_eq]; exact q _ H [] (Ext.refl H) (.int _) (fun _ z => nomatch z) (fun z => nomatch z)⟩
  · cases h
theorem vr_maxL : VR K (rMax K) opMaxL false := fun H vs ds fp d Q sz r0 h q => by
  unfold opMaxL at h
  split at h
  · obtain ⟨v, rfl, r⟩ := reps_one r0
    obtain ⟨ns, h1, h⟩ := Option.bind_eq_some_iff.mp h
    cases ns with
    | nil => cases h
    | cons n ns =>
      cases h
      have e := intsD_eq h1
      subst e
      cases r with
      | lst h2 r2 =>
        obtain ⟨ew, _⟩ := r2.ints
        subst ew
        obtain ⟨a1, a2, a3⟩ := maxZ_ok n ns
        refine ⟨_, n :: ns, rfl, SqL.of h2, by simp, fun m hm hx => ?_⟩
        have e : m = maxZ n ns := by
          have l1 : maxZ n ns ≤ m := hx _ (by rcases a1 with z | z; · rw [z]; exact List.mem_cons_self
                                              · exact List.mem_cons_of_mem _ z)
          have l2 : m ≤ maxZ n ns := by
            rcases List.mem_cons.mp hm with z | z
            · rw [z]; exact a2
            · exact a3 m z
          omega
        rw [e]
        exact q _ H [] (Ext.refl H) (.int _) (fun _ z => nomatch z) (fun z => nomatch z)
  · cases h
theorem vr_minL : VR K (rMin K) opMinL false := fun H vs ds fp d Q sz r0 h q => by
  unfold opMinL at h
  split at h
  · obtain ⟨v, rfl, r⟩ := reps_one r0
    obtain ⟨ns, h1, h⟩ := Option.bind_eq_some_iff.mp h
    cases ns with
    | nil => cases h
    | cons n ns =>
      cases h
      have e := intsD_eq h1
      subst e
      cases r with
      | lst h2 r2 =>
        obtain ⟨ew, _⟩ := r2.ints
        subst ew
        obtain ⟨a1, a2, a3⟩ := minZ_ok n ns
        refine ⟨_, n :: ns, rfl, SqL.of h2, by simp, fun m hm hx => ?_⟩
        have e : m = minZ n ns := by
          have l1 : m ≤ minZ n ns := hx _ (by rcases a1 with z | z; · rw [z]; exact List.mem_cons_self
                                              · exact List.mem_cons_of_mem _ z)
          have l2 : minZ n ns ≤ m := by
            rcases List.mem_cons.mp hm with z | z
            · rw [z]; exact a2
            · exact a3 m z
          omega
        rw [e]
        exact q _ H [] (Ext.refl H) (.int _) (fun _ z => nomatch z) (fun z => nomatch z)
  · cases h
end
end Dw
/-! Dw, part V: built-in calls by name, isinstance, slices. -/
namespace Dw
open PySem PySem.Spec PyProof.Rows L2

theorem bt_len : bootBuiltins "len" = some (.builtin "len") := by decide +kernel
theorem bt_abs : bootBuiltins "abs" = some (.builtin "abs") := by decide +kernel
theorem bt_min : bootBuiltins "min" = some (.builtin "min") := by decide +kernel
theorem bt_max : bootBuiltins "max" = some (.builtin "max") := by decide +kernel
theorem bt_sum : bootBuiltins "sum" = some (.builtin "sum") := by decide +kernel
theorem bt_sorted : bootBuiltins "sorted" = some (.builtin "sorted") := by decide +kernel
theorem bt_isi : bootBuiltins "isinstance" = some (.builtin "isinstance") := by decide +kernel
theorem bt_int : bootBuiltins "int" = some (.type "int") := by decide +kernel
theorem bt_list : bootBuiltins "list" = some (.type "list") := by decide +kernel
theorem bt_tuple : bootBuiltins "tuple" = some (.type "tuple") := by decide +kernel
theorem bt_bool : bootBuiltins "bool" = some (.type "bool") := by decide +kernel
theorem bt_str : bootBuiltins "str" = some (.type "str") := by decide +kernel
theorem bt_dict : bootBuiltins "dict" = some (.type "dict") := by decide +kernel

section
variable {X : Cx} {G : List Mode} {e e2 : Expr} {es : List Expr} {m m2 : RM} {M N : List Nat} {f f2 : Ev → Option (D × Ev)} {fr : Ev → Option (List D × Ev)} {pos p : Pos} {ms : List RM}
theorem k_I1 {g : Int → Int} {ds : List D} {z : D} (h : opI1 g ds = some z) : mdep z ≤ 0 := by unfold opI1 at h; split at h <;> cases h; exact Nat.le_refl _
theorem k_I2 {g : Int → Int → Int} {ds : List D} {z : D} (h : opI2 g ds = some z) : mdep z ≤ 0 := by unfold opI2 at h; split at h <;> cases h; exact Nat.le_refl _
theorem k_len {ds : List D} {z : D} (h : opLen ds = some z) : mdep z ≤ 0 := by unfold opLen at h; split at h <;> cases h <;> exact Nat.le_refl _
theorem k_int {ds : List D} {z : D} (h : opInt ds = some z) : mdep z ≤ 0 := by unfold opInt at h; split at h <;> cases h <;> exact Nat.le_refl _
theorem k_sum {ds : List D} {z : D} (h : opSum ds = some z) : mdep z ≤ 0 := by
  unfold opSum at h
  split at h
  · obtain ⟨ns, _, e⟩ := Option.map_eq_some_iff.mp h
    subst e; exact Nat.le_refl _
  · cases h
theorem k_maxL {ds : List D} {z : D} (h : opMaxL ds = some z) : mdep z ≤ 0 := by
  unfold opMaxL at h
  split at h
  · obtain ⟨ns, _, h⟩ := Option.bind_eq_some_iff.mp h
    split at h
    · cases h
    · cases h; exact Nat.le_refl _
  · cases h
theorem k_minL {ds : List D} {z : D} (h : opMinL ds = some z) : mdep z ≤ 0 := by
  unfold opMinL at h
  split at h
  · obtain ⟨ns, _, h⟩ := Option.bind_eq_some_iff.mp h
    split at h
    · cases h
    · cases h; exact Nat.le_refl _
  · cases h
theorem itemsD_dep {d : D} {ds : List D} {k : Nat} (h : itemsD d = some ds) (hd : mdep d ≤ k) : ∀ x ∈ ds, mdep x ≤ k - 1 := by
  unfold itemsD at h
  split at h
  · cases h; exact mdep_lst_le hd
  · cases h; exact mdep_tup_le hd
  · cases h
theorem k_list {ds : List D} {z : D} {k : Nat} (h : opList ds = some z) (hd : ∀ d ∈ ds, mdep d ≤ k) : mdep z ≤ max k 1 := by
  unfold opList at h
  split at h
  · obtain ⟨xs, h1, e⟩ := Option.map_eq_some_iff.mp h
    subst e
    have := le_mdep_lst (itemsD_dep h1 (hd _ List.mem_cons_self))
    omega
  · cases h
theorem k_tuple {ds : List D} {z : D} {k : Nat} (h : opTuple ds = some z) (hd : ∀ d ∈ ds, mdep d ≤ k) : mdep z ≤ if k ≤ 1 then 0 else k := by
  unfold opTuple at h
  split at h
  · obtain ⟨xs, h1, e⟩ := Option.map_eq_some_iff.mp h
    subst e
    refine Nat.le_trans (le_mdep_tup (itemsD_dep h1 (hd _ List.mem_cons_self))) ?_
    split <;> split <;> omega
  · cases h
theorem k_sorted {ds : List D} {z : D} {k : Nat} (h : opSorted ds = some z) (hd : ∀ d ∈ ds, mdep d ≤ k) : mdep z ≤ max k 1 := by
  unfold opSorted at h
  split at h
  · rename_i d
    obtain ⟨xs, h1, h2⟩ := Option.bind_eq_some_iff.mp h
    split at h2
    · cases h2
      have := le_mdep_lst (ds := srtD xs) fun x hx => itemsD_dep (d := d) (ds := xs) h1 (hd _ List.mem_cons_self) x (srtD_mem hx)
      omega
    · cases h2
  · cases h
theorem kM1 (m : RM) : kMax [m] = m.k := by simp [kMax]
theorem de_len (hg : Gl X "len") (hm : X.mg "len" = none) (A : DE X G e m M f) (he : starEach [e] X.env = (false, eval e X.env) :: starEach [] X.env := by rfl) : DE X G (.Call (.Name "len" p) [e] [] pos) (.vw 0 []) M (mN opLen (mCons f mNil)) := by
  have := de_callB (p := p) (pos := pos) call_lenA vr_len (.vw 0 []) (fun _ _ _ h => k_len h) (.inl rfl) hg hm bt_len (da_cons A da_nil (apart_nil m) he) (he := he)
  rwa [List.append_nil] at this
theorem de_abs (hg : Gl X "abs") (hm : X.mg "abs" = none) (A : DE X G e m M f) (he : starEach [e] X.env = (false, eval e X.env) :: starEach [] X.env := by rfl) : DE X G (.Call (.Name "abs" p) [e] [] pos) (.vw 0 []) M (mN (opI1 absI) (mCons f mNil)) := by
  have := de_callB (p := p) (pos := pos) call_abs (vr_I1 (f := absI)) (.vw 0 []) (fun _ _ _ h => k_I1 h) (.inl rfl) hg hm bt_abs (da_cons A da_nil (apart_nil m) he) (he := he)
  rwa [List.append_nil] at this
theorem de_sum (hc : X.calm = true) (hg : Gl X "sum") (hm : X.mg "sum" = none) (A : DE X G e m M f) (he : starEach [e] X.env = (false, eval e X.env) :: starEach [] X.env := by rfl) : DE X G (.Call (.Name "sum" p) [e] [] pos) (.vw 0 []) M (mN opSum (mCons f mNil)) := by
  have := de_callB (p := p) (pos := pos) (cr_sum hc) vr_sum (.vw 0 []) (fun _ _ _ h => k_sum h) (.inl rfl) hg hm bt_sum (da_cons A da_nil (apart_nil m) he) (he := he)
  rwa [List.append_nil] at this
theorem de_maxL (hc : X.calm = true) (hg : Gl X "max") (hm : X.mg "max" = none) (A : DE X G e m M f) (he : starEach [e] X.env = (false, eval e X.env) :: starEach [] X.env := by rfl) : DE X G (.Call (.Name "max" p) [e] [] pos) (.vw 0 []) M (mN opMaxL (mCons f mNil)) := by
  have := de_callB (p := p) (pos := pos) (cr_max hc) vr_maxL (.vw 0 []) (fun _ _ _ h => k_maxL h) (.inl rfl) hg hm bt_max (da_cons A da_nil (apart_nil m) he) (he := he)
  rwa [List.append_nil] at this
theorem de_minL (hc : X.calm = true) (hg : Gl X "min") (hm : X.mg "min" = none) (A : DE X G e m M f) (he : starEach [e] X.env = (false, eval e X.env) :: starEach [] X.env := by rfl) : DE X G (.Call (.Name "min" p) [e] [] pos) (.vw 0 []) M (mN opMinL (mCons f mNil)) := by
  have := de_callB (p := p) (pos := pos) (cr_min hc) vr_minL (.vw 0 []) (fun _ _ _ h => k_minL h) (.inl rfl) hg hm bt_min (da_cons A da_nil (apart_nil m) he) (he := he)
  rwa [List.append_nil] at this
theorem de_sorted (hu : X.A.units + 64 < cLine) (hg : Gl X "sorted") (hm : X.mg "sorted" = none) (A : DE X G e m M f) (he : starEach [e] X.env = (false, eval e X.env) :: starEach [] X.env := by rfl) : DE X G (.Call (.Name "sorted" p) [e] [] pos) (if m.k ≤ 1 then .ow 1 else .vw m.k m.rs) M (mN opSorted (mCons f mNil)) := by
  have dk : ∀ (ds : List D) z, (∀ d ∈ ds, mdep d ≤ kMax [m]) → opSorted ds = some z → mdep z ≤ (if m.k ≤ 1 then RM.ow 1 else .vw m.k m.rs).k := fun ds z h1 h => by
    have := k_sorted h h1
    rw [kM1] at this
    by_cases h0 : m.k ≤ 1
    · rw [if_pos h0]; exact Nat.le_trans this (by show max m.k 1 ≤ 1; omega)
    · rw [if_neg h0]; exact Nat.le_trans this (by show max m.k 1 ≤ m.k; omega)
  have := de_callB (p := p) (pos := pos) (cr_sortA hu) vr_sorted (if m.k ≤ 1 then .ow 1 else .vw m.k m.rs) dk (by
    split
    · exact .inr (.inr ⟨rfl, rfl⟩)
    · rename_i h
      refine .inr (.inl ⟨m.k, ?_⟩)
      simp [allRs, show m.k ≠ 0 by omega]) hg hm bt_sorted (da_cons A da_nil (apart_nil m) he) (he := he)
  rwa [List.append_nil] at this
theorem de_int (hg : Gl X "int") (hm : X.mg "int" = none) (A : DE X G e m M f) (he : starEach [e] X.env = (false, eval e X.env) :: starEach [] X.env := by rfl) : DE X G (.Call (.Name "int" p) [e] [] pos) (.vw 0 []) M (mN opInt (mCons f mNil)) := by
  have := de_callTy (p := p) (pos := pos) call_int1 vr_int (.vw 0 []) (fun _ _ _ h => k_int h) (.inl rfl) hg hm bt_int (da_cons A da_nil (apart_nil m) he) (he := he)
  rwa [List.append_nil] at this
theorem de_list (hg : Gl X "list") (hm : X.mg "list" = none) (A : DE X G e m M f) (he : starEach [e] X.env = (false, eval e X.env) :: starEach [] X.env := by rfl) : DE X G (.Call (.Name "list" p) [e] [] pos) (if m.k ≤ 1 then .ow 1 else .vw m.k m.rs) M (mN opList (mCons f mNil)) := by
  have dk : ∀ (ds : List D) z, (∀ d ∈ ds, mdep d ≤ kMax [m]) → opList ds = some z → mdep z ≤ (if m.k ≤ 1 then RM.ow 1 else .vw m.k m.rs).k := fun ds z h1 h => by
    have := k_list h h1
    rw [kM1] at this
    by_cases h0 : m.k ≤ 1
    · rw [if_pos h0]; exact Nat.le_trans this (by show max m.k 1 ≤ 1; omega)
    · rw [if_neg h0]; exact Nat.le_trans this (by show max m.k 1 ≤ m.k; omega)
  have := de_callTy (p := p) (pos := pos) call_list_of vr_list (if m.k ≤ 1 then .ow 1 else .vw m.k m.rs) dk (by
    split
    · exact .inr (.inr ⟨rfl, rfl⟩)
    · rename_i h
      refine .inr (.inl ⟨m.k, ?_⟩)
      simp [allRs, show m.k ≠ 0 by omega]) hg hm bt_list (da_cons A da_nil (apart_nil m) he) (he := he)
  rwa [List.append_nil] at this
theorem de_tuple (hg : Gl X "tuple") (hm : X.mg "tuple" = none) (A : DE X G e m M f) (he : starEach [e] X.env = (false, eval e X.env) :: starEach [] X.env := by rfl) : DE X G (.Call (.Name "tuple" p) [e] [] pos) (if m.k ≤ 1 then .vw 0 [] else .vw m.k m.rs) M (mN opTuple (mCons f mNil)) := by
  have dk : ∀ (ds : List D) z, (∀ d ∈ ds, mdep d ≤ kMax [m]) → opTuple ds = some z → mdep z ≤ (if m.k ≤ 1 then RM.vw 0 [] else .vw m.k m.rs).k := fun ds z h1 h => by
    have := k_tuple h h1
    rw [kM1] at this
    split <;> rename_i h2
    · rw [if_pos h2] at this; exact this
    · rw [if_neg h2] at this; exact this
  have := de_callTy (p := p) (pos := pos) call_tuple_of vr_tuple (if m.k ≤ 1 then .vw 0 [] else .vw m.k m.rs) dk (by
    split
    · exact .inl rfl
    · rename_i h
      refine .inr (.inl ⟨m.k, ?_⟩)
      simp [allRs, show m.k ≠ 0 by omega]) hg hm bt_tuple (da_cons A da_nil (apart_nil m) he) (he := he)
  rwa [List.append_nil] at this
theorem de_min2 (hc : X.calm = true) (hg : Gl X "min") (hm : X.mg "min" = none) (A : DE X G e m M f) (B : DE X (kill M G) e2 m2 N f2) (ap : apart m N = true := by rfl) (he : starEach [e, e2] X.env = (false, eval e X.env) :: starEach [e2] X.env := by rfl) (he2 : starEach [e2] X.env = (false, eval e2 X.env) :: starEach [] X.env := by rfl)
    (hpl : (backTo pos (starEach [e2] X.env)).any (·.1) = false := by rfl) : DE X G (.Call (.Name "min" p) [e, e2] [] pos) (.vw 0 []) (M ++ N) (mN (opI2 minI) (mCons f (mCons f2 mNil))) := by
  have := de_callB (p := p) (pos := pos) (call_min2 hc) (vr_I2 (f := minI)) (.vw 0 []) (fun _ _ _ h => k_I2 h) (.inl rfl) hg hm bt_min (da_cons A (da_cons B da_nil (apart_nil m2) he2) (by rw [List.append_nil]; exact ap) he) (by decide) (by decide) he hpl
  rwa [List.append_nil] at this
theorem de_max2 (hc : X.calm = true) (hg : Gl X "max") (hm : X.mg "max" = none) (A : DE X G e m M f) (B : DE X (kill M G) e2 m2 N f2) (ap : apart m N = true := by rfl) (he : starEach [e, e2] X.env = (false, eval e X.env) :: starEach [e2] X.env := by rfl) (he2 : starEach [e2] X.env = (false, eval e2 X.env) :: starEach [] X.env := by rfl)
    (hpl : (backTo pos (starEach [e2] X.env)).any (·.1) = false := by rfl) : DE X G (.Call (.Name "max" p) [e, e2] [] pos) (.vw 0 []) (M ++ N) (mN (opI2 maxI) (mCons f (mCons f2 mNil))) := by
  have := de_callB (p := p) (pos := pos) (call_max2 hc) (vr_I2 (f := maxI)) (.vw 0 []) (fun _ _ _ h => k_I2 h) (.inl rfl) hg hm bt_max (da_cons A (da_cons B da_nil (apart_nil m2) he2) (by rw [List.append_nil]; exact ap) he) (by decide) (by decide) he hpl
  rwa [List.append_nil] at this

/-! ### isinstance -/
inductive TyT where
  | non | bool | int | str | list | tuple | dict
def TyT.nm : TyT → String
  | .non => "NoneType" | .bool => "bool" | .int => "int" | .str => "str" | .list => "list" | .tuple => "tuple" | .dict => "dict"
def tyT : D → TyT
  | .non => .non
  | .bl _ => .bool
  | .int _ => .int
  | .str _ => .str
  | .tup _ => .tuple
  | .lst _ => .list
  | .dct _ _ _ => .dict
  | .frz _ => .list
def isiB : TyT → TyT → Bool
  | .non, .non => true
  | .bool, .bool => true
  | .bool, .int => true
  | .int, .int => true
  | .str, .str => true
  | .list, .list => true
  | .tuple, .tuple => true
  | .dict, .dict => true
  | _, _ => false
theorem kitB_eq : ∀ a b : TyT, kitB a.nm b.nm = some (isiB a b)
  | .non, b => by cases b <;> decide +kernel
  | .bool, b => by cases b <;> decide +kernel
  | .int, b => by cases b <;> decide +kernel
  | .str, b => by cases b <;> decide +kernel
  | .list, b => by cases b <;> decide +kernel
  | .tuple, b => by cases b <;> decide +kernel
  | .dict, b => by cases b <;> decide +kernel
theorem Rep.tyx {K : PySem.W.Frag} {H : Hp} {d : D} {v : V} {fp : List Addr} (r : Rep K H d v fp) : TyX K H v (.type (tyT d).nm) := by
  cases r with
  | non => exact .base .non
  | bl b => exact .base (.bl b)
  | int i => exact .base (.int i)
  | str x => exact .base (.str x)
  | tup h _ => exact .base (.tup h)
  | lst h _ => exact .base (.lst h)
  | dK h _ _ => exact .base (.dK h)
  | dT h _ _ => exact .base (.dT h)
  | frz h =>
    rcases h with ⟨o, e⟩ | ⟨o, its, n, h1, h2, _⟩
    · exact .base (.frz e)
    · exact .kList h1 h2
def opIsi (T : TyT) (d : D) : Option D := some (.bl (isiB (tyT d) T))
theorem de_isi {x : Str} {T : TyT} {p2 : Pos} (hg : Gl X "isinstance") (hm : X.mg "isinstance" = none) (hgT : Gl X x) (hmT : X.mg x = none) (hbT : bootBuiltins x = some (.type T.nm)) (A : DE X G e m M f)
    (hn : x ≠ "__name__" := by decide) (hd : (x == ("__debug__" : Str)) = false := by decide)
    (he : starEach [e, .Name x p2] X.env = (false, eval e X.env) :: starEach [.Name x p2] X.env := by rfl) (he2 : starEach [.Name x p2] X.env = (false, eval (.Name x p2) X.env) :: starEach [] X.env := by rfl)
    (hpl : (backTo pos (starEach [.Name x p2] X.env)).any (·.1) = false := by rfl) : DE X G (.Call (.Name "isinstance" p) [e, .Name x p2] [] pos) (.vw 0 []) M (un1 (opIsi T) f) := by
  obtain ⟨t, pt, rt⟩ := A.run
  refine ⟨A.hM, _, pe_callB call_isi hg hm bt_isi (pa_cons pt (pa_cons (pe_bltn (v := .ty T.nm) hgT hmT hbT rfl hn hd) pa_nil he2) he) (by decide) (by decide) he hpl, fun sl σ H fs d sl' Q S hf hq => ?_⟩
  obtain ⟨d0, h1, h3⟩ := un1_some hf
  cases h3
  refine rt sl σ H fs d0 sl' _ S h1 fun v H1 fs1 fp O => ?_
  exact ⟨v, .ty T.nm, _, _, isiB (tyT d0) T, rfl, .ty _, O.rep.tyx, kit_ty (kitB_eq _ _), hq _ H1 fs1 [] ⟨O.sr, O.tr, .bl _, Nat.le_refl _, RMok.nil _⟩⟩

/-! ### slices -/
structure DO (X : Cx) (G : List Mode) (e : Option Expr) (g : Ev → Option (Option Int)) : Prop where
  run : ∃ t, PO X e t ∧ ∀ sl σ H fs o (Q : Option Int → Hp → Prop), SR X.K G sl σ H fs → g sl = some o → (∀ H', Ext H H' → Q o H') → t σ H Q
def oNone : Ev → Option (Option Int) := fun _ => some none
def oSome (g : Ev → Option D) : Ev → Option (Option Int) := fun sl => ((g sl).bind intOf).map some
theorem do_none : DO X G none oNone := ⟨_, po_none, fun sl σ H fs o Q S h q => by cases h; exact q H (Ext.refl H)⟩
theorem do_some {g : Ev → Option D} (A : PD X G e m g) : DO X G (some e) (oSome g) := by
  obtain ⟨t, pt, rt⟩ := A.use
  refine ⟨_, po_some pt, fun sl σ H fs o Q S h q => ?_⟩
  obtain ⟨i, h1, e1⟩ := Option.map_eq_some_iff.mp h
  obtain ⟨d, h2, h3⟩ := Option.bind_eq_some_iff.mp h1
  have := intOf_eq h3
  subst this e1
  refine rt sl σ H fs _ _ S h2 fun v H1 fp O => ?_
  have r := O.rep
  cases r
  exact ⟨i, rfl, q H1 O.same⟩
def cutD (xs : List D) (lo hi : Option Int) : List D := (xs.drop (HT.sIx xs.length 0 lo)).take (HT.sIx xs.length xs.length hi - HT.sIx xs.length 0 lo)
def opSl (lo hi : Option Int) : D → Option D
  | .lst xs => some (.lst (cutD xs lo hi))
  | .tup xs => some (.tup (cutD xs lo hi))
  | _ => none
def mSl (f : Ev → Option (D × Ev)) (gl gh : Ev → Option (Option Int)) : Ev → Option (D × Ev) := fun sl => (f sl).bind fun p => (gl p.2).bind fun lo => (gh p.2).bind fun hi => (opSl lo hi p.1).map fun z => (z, p.2)
def eSl (g : Ev → Option D) (gl gh : Ev → Option (Option Int)) : Ev → Option D := fun sl => (g sl).bind fun d => (gl sl).bind fun lo => (gh sl).bind fun hi => opSl lo hi d
theorem mSl_lift {g : Ev → Option D} {gl gh : Ev → Option (Option Int)} : lift (eSl g gl gh) = mSl (lift g) gl gh := by
  funext sl
  unfold lift eSl mSl
  cases h : g sl with
  | none => simp [h]
  | some d =>
    cases h2 : gl sl with
    | none => simp [h, h2]
    | some lo =>
      cases h3 : gh sl with
      | none => simp [h, h2, h3]
      | some hi => simp [h, h2, h3]
def slM (m : RM) : RM := match m with
  | .vw k rs => .vw k rs
  | .ow k => .vw k []
theorem Reps.cutR {K : PySem.W.Frag} {H : Hp} {ds : List D} {vs : List V} {fp : List Addr} (r : Reps K H ds vs fp) (lo hi : Option Int) : ∃ g, Reps K H (cutD ds lo hi) (cutV vs lo hi) g ∧ ∀ b ∈ g, b ∈ fp := by
  unfold cutD cutV
  rw [r.length]
  obtain ⟨g1, g2, e, h1, h2⟩ := r.cut (n := HT.sIx vs.length 0 lo)
  obtain ⟨g3, g4, e2, h3, h4⟩ := h2.cut (n := HT.sIx vs.length vs.length hi - HT.sIx vs.length 0 lo)
  exact ⟨g3, h3, fun b hb => by rw [e, e2]; simp [hb]⟩
theorem cutD_mem {ds : List D} {lo hi : Option Int} {d : D} (h : d ∈ cutD ds lo hi) : d ∈ ds := List.mem_of_mem_drop (List.mem_of_mem_take h)
theorem cutD_all {ds : List D} {lo hi : Option Int} (h : HT.sIx ds.length 0 lo = 0 ∧ HT.sIx ds.length ds.length hi = ds.length) : cutD ds lo hi = ds := by
  unfold cutD
  rw [h.1, h.2]
  simp
theorem opSl_dep {lo hi : Option Int} {d z : D} {k : Nat} (h : opSl lo hi d = some z) (hd : mdep d ≤ k) : mdep z ≤ k := by
  cases d with
  | lst xs =>
    cases h
    have := le_mdep_lst (ds := cutD xs lo hi) fun x hx => mdep_lst_le hd x (cutD_mem hx)
    have p : 1 ≤ mdep (.lst xs) := by unfold mdep; omega
    omega
  | tup xs =>
    cases h
    refine Nat.le_trans (le_mdep_tup (ds := cutD xs lo hi) fun x hx => mdep_tup_le hd x (cutD_mem hx)) ?_
    split <;> omega
  | _ => cases h
/-- a[lo:hi] -/
theorem de_slice {lo hi : Option Expr} {gl gh : Ev → Option (Option Int)} {p2 : Pos} (A : DE X G e m M f) (L : DO X (kill M G) lo gl) (U : DO X (kill M G) hi gh) : DE X G (.Subscript e (.Slice lo hi none p2) pos) (if m.k = 0 then .vw 0 [] else if m.k ≤ 1 then .ow 1 else .vw m.k m.rs) M (mSl f gl gh) := by
  obtain ⟨t, pt, rt⟩ := A.run
  obtain ⟨tl, pl, rl⟩ := L.run
  obtain ⟨th, ph, rh⟩ := U.run
  refine ⟨A.hM, _, pe_slice (sl_list.or sl_tupA) pt pl ph, fun sl σ H fs z sl' Q S hf hq => ?_⟩
  unfold mSl at hf
  obtain ⟨q, h1, hf⟩ := Option.bind_eq_some_iff.mp hf
  obtain ⟨d, s1⟩ := q
  obtain ⟨l, h2, hf⟩ := Option.bind_eq_some_iff.mp hf
  obtain ⟨u, h3, hf⟩ := Option.bind_eq_some_iff.mp hf
  obtain ⟨z', h4, e4⟩ := Option.map_eq_some_iff.mp hf
  cases e4
  refine rt sl σ H fs d s1 _ S h1 fun v H1 fs1 fp O => ?_
  refine rl s1 σ H1 fs1 l _ O.sr h2 fun H2 E2 => ?_
  refine rh s1 σ H2 fs1 u _ (O.sr.same E2) h3 fun H3 E3 => ?_
  have E := E2.trans E3
  have rp := O.rep.same E.same
  have S3 := O.sr.same E
  have T3 : Tr M sl fs H s1 fs1 H3 := ⟨fun c o h hn => E.same c o (O.tr.t1 c o h hn), fun c h => O.tr.t2 c (E.same.free h), O.tr.t3, O.tr.t4⟩
  have dz : mdep z ≤ m.k := opSl_dep h4 O.dep
  have fin : ∀ w H4 gp, Ext H3 H4 → Rep X.K H4 z w gp → (∀ b ∈ gp, b ∈ fp ∨ H3 b = none) → (mdep z ≤ 1 → ∀ p ∈ gp, w = .ref p → H3 p = none) → Q w H4 := fun w H4 gp E4 rz hc hfr => by
    refine hq w H4 fs1 gp ⟨S3.same E4, ⟨fun c o h hn => E4.same c o (T3.t1 c o h hn), fun c h => T3.t2 c (E4.same.free h), T3.t3, T3.t4⟩, rz, ?_, ?_⟩
    · split
      · rename_i h0; rw [h0] at dz; exact dz
      · split
        · rename_i h1; exact Nat.le_trans dz h1
        · exact dz
    · split
      · rename_i h0
        have e0 : gp = [] := rz.imm (by omega)
        subst e0
        exact RMok.nil _
      · split
        · rename_i h1
          exact ok_own S3 T3 rz (by omega) (hfr (by omega))
        · refine ⟨fun c hcm j hj hcj => ?_, fun c hcm => ?_⟩
          · rcases hc c hcm with q | q
            · exact O.ok.rt c q j hj hcj
            · exact absurd hcj (fresh_off S3 q j hj)
          · rcases hc c hcm with q | q
            · exact O.ok.kn A.hM c q
            · exact .inr (T3.t2 c q)
  cases d with
  | lst xs =>
    cases h4
    cases rp with
    | @lst a ws _ g h5 r5 =>
      obtain ⟨g', r6, sub⟩ := r5.cutR l u
      refine .inl ⟨a, ws, rfl, SqL.of h5, fun p n => ?_⟩
      have hz : (cutV ws l u).length ≤ sizeLine := Nat.le_trans (cutV_length ws l u) (by have := S3.sz a _ h5; simpa [szO] using this)
      refine fin _ _ _ (Ext.upd n (szO_lst hz)) (new_lst r6 n) (fun b hb => ?_) fun _ => fr_new (K := X.K) (H' := H3) (d := .non) n
      rcases List.mem_cons.mp hb with e | hb
      · exact .inr (e ▸ n)
      · exact .inl (List.mem_cons_of_mem _ (sub b hb))
  | tup xs =>
    cases h4
    cases rp with
    | @tup a ws _ g h5 r5 =>
      obtain ⟨g', r6, sub⟩ := r5.cutR l u
      have no : ∀ (g : List Addr) (w : V) H4, Rep X.K H4 (.tup (cutD xs l u)) w g → mdep (.tup (cutD xs l u)) ≤ 1 → ∀ p ∈ g, w = .ref p → H3 p = none := fun g w H4 r h p hp _ => by
        have e0 : g = [] := r.imm (by
          unfold mdep at h ⊢
          split at h <;> omega)
        rw [e0] at hp; cases hp
      refine .inr ⟨a, ws, rfl, SqT.of h5, fun hw => ?_, fun _ p n => ?_⟩
      · have ec : cutD xs l u = xs := cutD_all (by rw [r5.length]; exact hw)
        have rr : Rep X.K H3 (.tup (cutD xs l u)) (.ref a) fp := by rw [ec]; exact .tup h5 r5
        exact fin _ H3 _ (Ext.refl H3) rr (fun b hb => .inl hb) (no _ _ _ rr)
      · have hz : (cutV ws l u).length ≤ sizeLine := Nat.le_trans (cutV_length ws l u) (by have := S3.sz a _ h5; simpa [szO] using this)
        have rr := new_tup r6 n
        exact fin _ _ _ (Ext.upd n (szO_tup hz)) rr (fun b hb => .inl (sub b hb)) (no _ _ _ rr)
  | _ => cases h4
end
end Dw
/-! Dw, part W: comparisons by name; what is written for the printed proofs. -/
namespace Dw
open PySem PySem.Spec PyProof.Rows L2

def opLt : D → D → Option D := opI fun i j => .bl (decide (i < j))
def opLe : D → D → Option D := opI fun i j => .bl (decide (i ≤ j))
def opGt : D → D → Option D := opI fun i j => .bl (decide (j < i))
def opGe : D → D → Option D := opI fun i j => .bl (decide (j ≤ i))
theorem vr_lt {K : PySem.W.Frag} : VR2 K (rI0 fun i j => .bl (decide (i < j))) opLt false := vr_I0 fun _ _ => rfl
theorem vr_le {K : PySem.W.Frag} : VR2 K (rI0 fun i j => .bl (decide (i ≤ j))) opLe false := vr_I0 fun _ _ => rfl
theorem vr_gt {K : PySem.W.Frag} : VR2 K (rI0 fun i j => .bl (decide (j < i))) opGt false := vr_I0 fun _ _ => rfl
theorem vr_ge {K : PySem.W.Frag} : VR2 K (rI0 fun i j => .bl (decide (j ≤ i))) opGe false := vr_I0 fun _ _ => rfl
theorem bl_I {g : Int → Int → Bool} : Bl2 (opI fun i j => .bl (g i j)) := fun d e z h => by
  unfold opI at h
  split at h
  · cases h; exact ⟨_, rfl⟩
  · cases h
section
variable {X : Cx} {G : List Mode} {a b : Expr} {ma mb m : RM} {M N : List Nat} {fa fb f : Ev → Option (D × Ev)} {pos : Pos}
theorem DE.toPD {e : Expr} (A : DE X G e m [] f) : PD X G e m (fun sl => (f sl).map (·.1)) := by
  obtain ⟨t, pt, rt⟩ := A.run
  refine PD.mk ⟨t, pt, fun sl σ H fs d Q S hg hq => ?_⟩
  obtain ⟨p, h1, e1⟩ := Option.map_eq_some_iff.mp hg
  obtain ⟨d', sl'⟩ := p
  subst e1
  refine rt sl σ H fs _ _ Q S h1 fun v H' fs' fp O => ?_
  obtain ⟨e1, e2, _⟩ := O.tr.same
  subst e2
  exact hq v H' fp ⟨⟨e1, fun _ => O.sr.sz⟩, O.rep, O.dep, O.ok⟩
theorem mCall_lift {F : List D → Option (D × List D)} {ts : List (Option Nat)} {gr : Ev → Option (List D)} (h : ts.all Option.isNone = true) : lift (eN (fun ds => (F ds).map (·.1)) gr) = mCall F ts (liftL gr) := by
  have h1 : ∀ {ts : List (Option Nat)} {ds : List D} {sl : Ev}, ts.all Option.isNone = true → fillD ts ds sl = some ds := by
    intro ts
    induction ts with
    | nil => intro ds sl _; rfl
    | cons t ts ih =>
      intro ds sl h
      simp only [List.all_cons, Bool.and_eq_true] at h
      cases t with
      | some j => simp at h
      | none =>
        cases ds with
        | nil => rfl
        | cons d ds => show (fillD ts ds sl).map _ = _; rw [ih h.2]; rfl
  have h2 : ∀ {ts : List (Option Nat)} {ds : List D} {sl : Ev}, ts.all Option.isNone = true → storeD ts ds sl = sl := by
    intro ts
    induction ts with
    | nil => intro ds sl _; rfl
    | cons t ts ih =>
      intro ds sl h
      simp only [List.all_cons, Bool.and_eq_true] at h
      cases t with
      | some j => simp at h
      | none =>
        cases ds with
        | nil => rfl
        | cons d ds => show storeD ts ds sl = sl; exact ih h.2
  funext sl
  unfold lift eN mCall liftL
  cases e : gr sl with
  | none => simp [e]
  | some ds =>
    simp only [e, Option.bind_some, Option.map_some]
    rw [h1 h]
    simp only [Option.bind_some]
    cases e2 : F ds with
    | none => simp [e2]
    | some q => simp [e2, h2 h]
theorem sc_of {f : D → D → Option D} (h : Bl2 f) : Sc2 f := fun d e z q => by obtain ⟨b, rfl⟩ := h d e z q; rfl
theorem de_eq (hu : X.A.units + 64 < cLine) (A : DE X G a ma M fa) (B : DE X (kill M G) b mb N fb) (ap : apart ma N = true := by rfl) (hm : behindInMarks .Eq b = false := by rfl) : DE X G (.Compare a [.Eq] [b] pos) (.vw 0 []) (M ++ N) (bin2 opEq fa fb) := de_cmp (op_peq hu) vr_eq (sc_of bl_eq) A B ap hm
theorem dt_eq (hu : X.A.units + 64 < cLine) (A : DE X G a ma M fa) (B : DE X (kill M G) b mb N fb) (ap : apart ma N = true := by rfl) (hm : behindInMarks .Eq b = false := by rfl) : DT X G (.Compare a [.Eq] [b] pos) (M ++ N) (tT (bin2 opEq fa fb)) := dt_cmp (op_peq hu) vr_eq bl_eq A B ap hm
theorem de_ne (hu : X.A.units + 64 < cLine) (A : DE X G a ma M fa) (B : DE X (kill M G) b mb N fb) (ap : apart ma N = true := by rfl) (hm : behindInMarks .NotEq b = false := by rfl) : DE X G (.Compare a [.NotEq] [b] pos) (.vw 0 []) (M ++ N) (bin2 opNe fa fb) := de_cmp (op_pne hu) vr_ne (sc_of bl_ne) A B ap hm
theorem dt_ne (hu : X.A.units + 64 < cLine) (A : DE X G a ma M fa) (B : DE X (kill M G) b mb N fb) (ap : apart ma N = true := by rfl) (hm : behindInMarks .NotEq b = false := by rfl) : DT X G (.Compare a [.NotEq] [b] pos) (M ++ N) (tT (bin2 opNe fa fb)) := dt_cmp (op_pne hu) vr_ne bl_ne A B ap hm
theorem de_lt (A : DE X G a ma M fa) (B : DE X (kill M G) b mb N fb) (ap : apart ma N = true := by rfl) (hm : behindInMarks .Lt b = false := by rfl) : DE X G (.Compare a [.Lt] [b] pos) (.vw 0 []) (M ++ N) (bin2 opLt fa fb) := de_cmp op_lt vr_lt (sc_of bl_I) A B ap hm
theorem dt_lt (A : DE X G a ma M fa) (B : DE X (kill M G) b mb N fb) (ap : apart ma N = true := by rfl) (hm : behindInMarks .Lt b = false := by rfl) : DT X G (.Compare a [.Lt] [b] pos) (M ++ N) (tT (bin2 opLt fa fb)) := dt_cmp op_lt vr_lt bl_I A B ap hm
theorem de_le (A : DE X G a ma M fa) (B : DE X (kill M G) b mb N fb) (ap : apart ma N = true := by rfl) (hm : behindInMarks .LtE b = false := by rfl) : DE X G (.Compare a [.LtE] [b] pos) (.vw 0 []) (M ++ N) (bin2 opLe fa fb) := de_cmp op_le vr_le (sc_of bl_I) A B ap hm
theorem dt_le (A : DE X G a ma M fa) (B : DE X (kill M G) b mb N fb) (ap : apart ma N = true := by rfl) (hm : behindInMarks .LtE b = false := by rfl) : DT X G (.Compare a [.LtE] [b] pos) (M ++ N) (tT (bin2 opLe fa fb)) := dt_cmp op_le vr_le bl_I A B ap hm
theorem de_gt (A : DE X G a ma M fa) (B : DE X (kill M G) b mb N fb) (ap : apart ma N = true := by rfl) (hm : behindInMarks .Gt b = false := by rfl) : DE X G (.Compare a [.Gt] [b] pos) (.vw 0 []) (M ++ N) (bin2 opGt fa fb) := de_cmp op_gt vr_gt (sc_of bl_I) A B ap hm
theorem dt_gt (A : DE X G a ma M fa) (B : DE X (kill M G) b mb N fb) (ap : apart ma N = true := by rfl) (hm : behindInMarks .Gt b = false := by rfl) : DT X G (.Compare a [.Gt] [b] pos) (M ++ N) (tT (bin2 opGt fa fb)) := dt_cmp op_gt vr_gt bl_I A B ap hm
theorem de_ge (A : DE X G a ma M fa) (B : DE X (kill M G) b mb N fb) (ap : apart ma N = true := by rfl) (hm : behindInMarks .GtE b = false := by rfl) : DE X G (.Compare a [.GtE] [b] pos) (.vw 0 []) (M ++ N) (bin2 opGe fa fb) := de_cmp op_ge vr_ge (sc_of bl_I) A B ap hm
theorem dt_ge (A : DE X G a ma M fa) (B : DE X (kill M G) b mb N fb) (ap : apart ma N = true := by rfl) (hm : behindInMarks .GtE b = false := by rfl) : DT X G (.Compare a [.GtE] [b] pos) (M ++ N) (tT (bin2 opGe fa fb)) := dt_cmp op_ge vr_ge bl_I A B ap hm
theorem de_in (hu : X.A.units + 64 < cLine) (A : DE X G a ma M fa) (B : DE X (kill M G) b mb N fb) (ap : apart ma N = true := by rfl) (hm : behindInMarks .In b = false := by rfl) : DE X G (.Compare a [.In] [b] pos) (.vw 0 []) (M ++ N) (bin2 opIn fa fb) := de_cmp (op_inA hu) vr_in (sc_of bl_in) A B ap hm
theorem dt_in (hu : X.A.units + 64 < cLine) (A : DE X G a ma M fa) (B : DE X (kill M G) b mb N fb) (ap : apart ma N = true := by rfl) (hm : behindInMarks .In b = false := by rfl) : DT X G (.Compare a [.In] [b] pos) (M ++ N) (tT (bin2 opIn fa fb)) := dt_cmp (op_inA hu) vr_in bl_in A B ap hm
theorem de_ni (hu : X.A.units + 64 < cLine) (A : DE X G a ma M fa) (B : DE X (kill M G) b mb N fb) (ap : apart ma N = true := by rfl) (hm : behindInMarks .NotIn b = false := by rfl) : DE X G (.Compare a [.NotIn] [b] pos) (.vw 0 []) (M ++ N) (bin2 opNi fa fb) := de_cmp (op_niA hu) vr_ni (sc_of bl_ni) A B ap hm
theorem dt_ni (hu : X.A.units + 64 < cLine) (A : DE X G a ma M fa) (B : DE X (kill M G) b mb N fb) (ap : apart ma N = true := by rfl) (hm : behindInMarks .NotIn b = false := by rfl) : DT X G (.Compare a [.NotIn] [b] pos) (M ++ N) (tT (bin2 opNi fa fb)) := dt_cmp (op_niA hu) vr_ni bl_ni A B ap hm
theorem de_is (A : DE X G a ma M fa) (B : DE X (kill M G) b mb N fb) (ap : apart ma N = true := by rfl) (hm : behindInMarks .Is b = false := by rfl) : DE X G (.Compare a [.Is] [b] pos) (.vw 0 []) (M ++ N) (bin2 opIs fa fb) := de_cmp op_isA vr_is (sc_of bl_is) A B ap hm
theorem dt_is (A : DE X G a ma M fa) (B : DE X (kill M G) b mb N fb) (ap : apart ma N = true := by rfl) (hm : behindInMarks .Is b = false := by rfl) : DT X G (.Compare a [.Is] [b] pos) (M ++ N) (tT (bin2 opIs fa fb)) := dt_cmp op_isA vr_is bl_is A B ap hm
theorem de_isn (A : DE X G a ma M fa) (B : DE X (kill M G) b mb N fb) (ap : apart ma N = true := by rfl) (hm : behindInMarks .IsNot b = false := by rfl) : DE X G (.Compare a [.IsNot] [b] pos) (.vw 0 []) (M ++ N) (bin2 opIsN fa fb) := de_cmp op_isnA vr_isn (sc_of bl_isn) A B ap hm
theorem dt_isn (A : DE X G a ma M fa) (B : DE X (kill M G) b mb N fb) (ap : apart ma N = true := by rfl) (hm : behindInMarks .IsNot b = false := by rfl) : DT X G (.Compare a [.IsNot] [b] pos) (M ++ N) (tT (bin2 opIsN fa fb)) := dt_cmp op_isnA vr_isn bl_isn A B ap hm
end
/-- how an argument list binds -/
abbrev G0 (ps : List PM) (n : Nat) : List Mode := pG ps ++ List.replicate n .no
end Dw
/-! Dw, part X: the rules as the printer calls them. -/
namespace Dw
open PySem PySem.Spec PyProof.Rows L2
theorem DW.congr {X : Cx} {G : List Mode} {c : Expr} {M : List Nat} {f f' : Ev → Option (Bool × Ev)} (h : DW X G c M f) (l : f' = f) : DW X G c M f' := by rw [l]; exact h
theorem tT_bin {op : D → D → Option D} {ga gb : Ev → Option D} : liftB (eT (eBin op ga gb)) = tT (bin2 op (lift ga) (lift gb)) := tT_lift.trans (congrArg tT bin2_lift)
theorem mN1_lift {op : List D → Option D} {g : Ev → Option D} : lift (eN op (eCons g eNil)) = mN op (mCons (lift g) mNil) := mN_lift.trans (congrArg (mN op) mCons_lift)
theorem mN2_lift {op : List D → Option D} {g h : Ev → Option D} : lift (eN op (eCons g (eCons h eNil))) = mN op (mCons (lift g) (mCons (lift h) mNil)) := mN_lift.trans (congrArg (mN op) (mCons_lift.trans (congrArg (mCons (lift g)) mCons_lift)))
section
variable {X : Cx} {G : List Mode} {pos : Pos} {x : Str}
theorem x_var (i : Nat) (hn : (md G i).isNo = false := by rfl) (hN : X.N[i]? = some x := by rfl) (hv : Vis X.env.scope x := by first | exact .inl rfl | exact .inr (.inl rfl) | exact .inr (.inr rfl)) (hd : (x == ("__debug__" : Str)) = false := by decide) (hcd : (x == ("__classdict__" : Str)) = false := by decide) :
    PD X G (.Name x pos) (rdM i (md G i)) (eVar i) := pd_var hn hN hv hd hcd
theorem x_mv (i : Nat) (ho : isOw (md G i) = true := by rfl) (hN : X.N[i]? = some x := by rfl) (hv : Vis X.env.scope x := by first | exact .inl rfl | exact .inr (.inl rfl) | exact .inr (.inr rfl)) (hd : (x == ("__debug__" : Str)) = false := by decide) (hcd : (x == ("__classdict__" : Str)) = false := by decide) :
    DV X G (.Name x pos) (.ow (md G i).k) ((kill [i] G).set i .no) (lift (eVar i)) := dv_mv ho hN hv hd hcd
theorem x_tg (i : Nat) {m : RM} (hN : X.N.Nodup) (hi : (decide (i < G.length) && notLk (md G i)) = true := by rfl) (hx : X.N[i]? = some x := by rfl) (hl : Loc X.env.scope x := by first | exact .inl rfl | exact .inr rfl)
    (hf : X.fn x = true ∨ X.env.scope.names.lookup x = some .local := by first | exact .inl rfl | exact .inr rfl) : DG X G (.Name x pos) m (G.set i (toM m)) [i] (gSet i) := dg_name hi hN hx hl hf
theorem x_pn (j : Nat) (hn : (md G j).isNo = false := by rfl) (hN : X.N[j]? = some x := by rfl) (hv : Vis X.env.scope x := by first | exact .inl rfl | exact .inr (.inl rfl) | exact .inr (.inr rfl)) (hd : (x == ("__debug__" : Str)) = false := by decide) (hcd : (x == ("__classdict__" : Str)) = false := by decide) : DP X G (.Name x pos) j 0 kNil := dp_name hn hN hv hd hcd
theorem x_io {es : List Expr} {ts : List (Option Nat)} {ms : List RM} {N : List Nat} {fr : Ev → Option (List D × Ev)} (i : Nat) (R : DC X G es ts ms N fr) (hn : isOw (md G i) = true := by rfl) (hN : X.N[i]? = some x := by rfl) (hv : Vis X.env.scope x := by first | exact .inl rfl | exact .inr (.inl rfl) | exact .inr (.inr rfl))
    (hd : (x == ("__debug__" : Str)) = false := by decide) (hcd : (x == ("__classdict__" : Str)) = false := by decide)
    (hs : starEach (.Name x pos :: es) X.env = (false, eval (.Name x pos) X.env) :: starEach es X.env := by rfl) : DC X G (.Name x pos :: es) (some i :: ts) ms N fr := dc_io R hn hN hv hd hcd hs
theorem x_set {R : RetS} {G1 Gb Gc : List Mode} {e : Expr} {m : RM} {f : Ev → Option (D × Ev)} (i : Nat) {pos' : Pos} (hN : X.N.Nodup) (A : DV X G e m G1 f) (hi : (decide (i < G1.length) && notLk (md G1 i)) = true := by rfl) (hx : X.N[i]? = some x := by rfl) (hl : Loc X.env.scope x := by first | exact .inl rfl | exact .inr rfl)
    (hs : swapsWith e (some (.Name x pos')) pos.line X.env = pure false := by rfl) (hf : X.fn x = true ∨ X.env.scope.names.lookup x = some .local := by first | exact .inl rfl | exact .inr rfl) (hfx : R.fx.contains i = false := by rfl) :
    DS X R G (.Assign [.Name x pos'] e pos) (G1.set i (toM m)) Gb Gc (sAsg f (gSet i)) := ds_set A hi hN hx hl hs hf hfx
/-- list(range(a)) -/
def opLR1 : List D → Option D
  | [.int j] => if okR j then some (.lst (rngD 0 j.toNat)) else none
  | _ => none
def opLR2 : List D → Option D
  | [.int i, .int j] => if okR i && okR j && decide ((j - i).toNat ≤ 16777216) then some (.lst (rngD i (j - i).toNat)) else none
  | _ => none
theorem rgV_rep {K : PySem.W.Frag} {H : Hp} {a b : Int} : Reps K H (rngD a (b - a).toNat) (rgV a b) [] := by
  unfold rngD rgV
  generalize (List.range (b - a).toNat) = l
  induction l with
  | nil => exact .nil
  | cons n l ih => exact Reps.cons (.int _) ih
theorem rngD_imm {a : Int} {n : Nat} : ∀ d ∈ rngD a n, mdep d ≤ 0 := fun d hd => by
  unfold rngD at hd
  obtain ⟨i, _, e⟩ := List.mem_map.mp hd
  subst e; exact Nat.le_refl _
theorem okR_b {j : Int} (h : okR j = true) : -1000000000 ≤ j ∧ j ≤ 16777216 := by
  unfold okR at h
  simpa using h
section
variable {a b : Expr} {ma mb : RM} {M N : List Nat} {f fb : Ev → Option (D × Ev)} {p p2 pos2 : Pos}
theorem de_listRg1 (hc : X.calm = true) (hgL : Gl X "list") (hmL : X.mg "list" = none) (hgR : Gl X "range") (hmR : X.mg "range" = none) (A : DE X G a ma M f) (na : starEach [a] X.env = (false, eval a X.env) :: starEach [] X.env := by rfl)
    (na2 : starEach [.Call (.Name "range" p2) [a] [] pos2] X.env = (false, eval (.Call (.Name "range" p2) [a] [] pos2) X.env) :: starEach [] X.env := by rfl) : DE X G (.Call (.Name "list" p) [.Call (.Name "range" p2) [a] [] pos2] [] pos) (.ow 1) M (mN opLR1 (mCons f mNil)) := by
  obtain ⟨t, pt, rt⟩ := A.run
  refine ⟨A.hM, _, pe_listRg hc hgL hmL (prg_1 hgR hmR pt na) na2, fun sl σ H fs z sl' Q S hf hq => ?_⟩
  unfold mN mCons mNil at hf
  obtain ⟨q, h1, h2⟩ := Option.bind_eq_some_iff.mp hf
  obtain ⟨z', h3, e3⟩ := Option.map_eq_some_iff.mp h2
  cases e3
  obtain ⟨q1, h4, h5⟩ := Option.bind_eq_some_iff.mp h1
  obtain ⟨q2, h6, e6⟩ := Option.map_eq_some_iff.mp h5
  cases h6
  subst e6
  obtain ⟨d, s⟩ := q1
  refine rt sl σ H fs d s _ S h4 fun v H1 fs1 fp O => ?_
  unfold opLR1 at h3
  split at h3
  · rename_i j e
    simp only [List.cons.injEq, and_true] at e
    subst e
    split at h3
    · rename_i hj
      cases h3
      have rv := O.rep
      cases rv
      obtain ⟨b1, b2⟩ := okR_b hj
      refine ⟨j, rfl, ⟨by omega, by omega, by omega, by omega, by omega⟩, fun q hn => ?_⟩
      have rr : Reps X.K H1 (rngD 0 j.toNat) (rgV 0 j) [] := by have := rgV_rep (K := X.K) (H := H1) (a := 0) (b := j); rwa [Int.sub_zero] at this
      have hz : (rgV 0 j).length ≤ sizeLine := by rw [rgV_length, sizeLine_eq]; omega
      have E : Ext H1 (upd H1 q (.lst (rgV 0 j))) := Ext.upd hn (szO_lst hz)
      refine hq (.ref q) _ fs1 [q] ⟨O.sr.same E, ⟨fun c o h hnn => E.same c o (O.tr.t1 c o h hnn), fun c h => O.tr.t2 c (E.same.free h), O.tr.t3, O.tr.t4⟩, new_lst rr hn, le_mdep_lst rngD_imm, ?_⟩
      exact ok_own O.sr O.tr (new_lst rr hn) (le_mdep_lst rngD_imm) (fr_new (K := X.K) (H' := H1) (d := .non) hn)
    · cases h3
  · cases h3
end
end
end Dw
/-! Dw, part Y: the rules for what writes nothing. Printed by mkY.py. -/
namespace Dw
open PySem PySem.Spec PyProof.Rows L2
abbrev PAl (X : Cx) (G : List Mode) (es : List Expr) (ms : List RM) (g : Ev → Option (List D)) : Prop := DA X G es ms [] (liftL g)
abbrev TD (X : Cx) (G : List Mode) (c : Expr) (g : Ev → Option Bool) : Prop := DT X G c [] (liftB g)
abbrev TW (X : Cx) (G : List Mode) (c : Expr) (g : Ev → Option Bool) : Prop := DW X G c [] (liftB g)
abbrev ID (X : Cx) (G : List Mode) (tg iter : Expr) (mk : Nat) (rs : List Nat) (g : Ev → Option (List D)) : Prop := DI X G tg iter mk rs [] (liftL g)
section
variable {X : Cx} {G : List Mode} {a b c d : Expr} {es rest : List Expr} {ma mb m : RM} {ms : List RM} {ga gb : Ev → Option D} {gr : Ev → Option (List D)} {gc gd : Ev → Option Bool} {pos p p2 pos2 : Pos} {tg : Expr}
theorem pd_sub (A : PD X G a ma ga) (B : PD X G b mb gb) : PD X G (.BinOp a .Sub b pos) (.vw 0 []) (eBin opSub ga gb) := (de_sub A B (apart_nil ma)).congr bin2_lift
theorem pd_mod (A : PD X G a ma ga) (B : PD X G b mb gb) : PD X G (.BinOp a .Mod b pos) (.vw 0 []) (eBin opMod ga gb) := (de_mod A B (apart_nil ma)).congr bin2_lift
theorem pd_div (A : PD X G a ma ga) (B : PD X G b mb gb) : PD X G (.BinOp a .FloorDiv b pos) (.vw 0 []) (eBin opDiv ga gb) := (de_div A B (apart_nil ma)).congr bin2_lift
theorem pd_pow (A : PD X G a ma ga) (B : PD X G b mb gb) : PD X G (.BinOp a .Pow b pos) (.vw 0 []) (eBin opPow ga gb) := (de_pow A B (apart_nil ma)).congr bin2_lift
theorem pd_shl (A : PD X G a ma ga) (B : PD X G b mb gb) : PD X G (.BinOp a .LShift b pos) (.vw 0 []) (eBin opShl ga gb) := (de_shl A B (apart_nil ma)).congr bin2_lift
theorem pd_xor (A : PD X G a ma ga) (B : PD X G b mb gb) : PD X G (.BinOp a .BitXor b pos) (.vw 0 []) (eBin opXor ga gb) := (de_xor A B (apart_nil ma)).congr bin2_lift
theorem pd_and (A : PD X G a ma ga) (B : PD X G b mb gb) : PD X G (.BinOp a .BitAnd b pos) (.vw 0 []) (eBin opAnd ga gb) := (de_and A B (apart_nil ma)).congr bin2_lift
theorem pd_add0 (A : PD X G a ma ga) (B : PD X G b mb gb) (h : ma.k = 0 ∧ mb.k = 0 := by decide) : PD X G (.BinOp a .Add b pos) (.vw 0 []) (eBin opAdd ga gb) := (de_add0 h A B (apart_nil ma)).congr bin2_lift
theorem pd_addO (A : PD X G a ma ga) (B : PD X G b mb gb) (h : ma.k ≤ 1 ∧ mb.k ≤ 1 := by decide) : PD X G (.BinOp a .Add b pos) (.ow 1) (eBin opAdd ga gb) := (de_addO h A B (apart_nil ma)).congr bin2_lift
theorem pd_addV (A : PD X G a ma ga) (B : PD X G b mb gb) : PD X G (.BinOp a .Add b pos) (.vw (max ma.k mb.k) (ma.rs ++ mb.rs)) (eBin opAdd ga gb) := (de_addV A B (apart_nil ma)).congr bin2_lift
theorem pd_mul0 (A : PD X G a ma ga) (B : PD X G b mb gb) (h : ma.k = 0 := by rfl) : PD X G (.BinOp a .Mult b pos) (.vw 0 []) (eBin opMul ga gb) := (de_mul0 h A B (apart_nil ma)).congr bin2_lift
theorem pd_mulO (A : PD X G a ma ga) (B : PD X G b mb gb) (h : ma.k ≤ 1 := by decide) : PD X G (.BinOp a .Mult b pos) (.ow 1) (eBin opMul ga gb) := (de_mulO h A B (apart_nil ma)).congr bin2_lift
theorem pd_neg (A : PD X G a ma ga) : PD X G (.UnaryOp .USub a pos) (.vw 0 []) (eUn opNeg ga) := (de_neg A).congr un1_lift
theorem pd_notV (A : PD X G a ma ga) : PD X G (.UnaryOp .Not a pos) (.vw 0 []) (eUn opNot ga) := (de_notV A).congr un1_lift
theorem pd_ix (hu : X.A.units + 64 < cLine) (A : PD X G a ma ga) (B : PD X G b mb gb) (hs : PlainIx b := by exact fun _ _ => rfl) : PD X G (.Subscript a b pos) (.vw (ma.k - 1) (ma.rs ++ mb.rs)) (eBin opIx ga gb) := (de_ix hu A B hs (apart_nil ma)).congr bin2_lift
theorem pd_if (C : TD X G c gc) (A : PD X G a ma ga) (B : PD X G b mb gb) (la : leR ma m = true := by rfl) (lb : leR mb m = true := by rfl) : PD X G (.IfExp c a b pos) m (eIf gc ga gb) := (de_if C A B la lb).congr mIf_lift
theorem pd_one {op} (A : PD X G a ma ga) : PD X G (.BoolOp op [a] pos) ma ga := de_one A
theorem pd_andV (A : PD X G a ma ga) (B : PD X G (.BoolOp .And (b :: rest) pos) mb gb) (la : leR ma m = true := by rfl) (lb : leR mb m = true := by rfl) : PD X G (.BoolOp .And (a :: b :: rest) pos) m (eAndV ga gb) := (de_andV A B la lb).congr mAnd_lift
theorem pd_orV (A : PD X G a ma ga) (B : PD X G (.BoolOp .Or (b :: rest) pos) mb gb) (la : leR ma m = true := by rfl) (lb : leR mb m = true := by rfl) : PD X G (.BoolOp .Or (a :: b :: rest) pos) m (eOrV ga gb) := (de_orV A B la lb).congr mOr_lift
theorem pl_nil : PAl X G [] [] eNil := da_nil
theorem pl_cons (A : PD X G a ma ga) (R : PAl X G es ms gr) (hs : starEach (a :: es) X.env = (false, eval a X.env) :: starEach es X.env := by rfl) : PAl X G (a :: es) (ma :: ms) (eCons ga gr) := (da_cons A R (apart_nil ma) hs).congr mCons_lift
theorem pd_tup {x1} (R : PAl X G es ms gr) : PD X G (.Tuple es x1 pos) (dspM false ms) (eTup gr) := (de_tup R).congr mTup_lift
theorem pd_lst (R : PAl X G es ms gr) : PD X G (.List es pos) (dspM true ms) (eLst gr) := (de_lst R).congr mLst_lift
theorem pd_slice {lo hi : Option Expr} {gl gh : Ev → Option (Option Int)} (A : PD X G a m ga) (L : DO X G lo gl) (U : DO X G hi gh) : PD X G (.Subscript a (.Slice lo hi none p2) pos) (if m.k = 0 then .vw 0 [] else if m.k ≤ 1 then .ow 1 else .vw m.k m.rs) (eSl ga gl gh) := (de_slice A L U).congr mSl_lift
theorem pd_isi {x : Str} {T : TyT} (hg : Gl X "isinstance") (hm : X.mg "isinstance" = none) (hgT : Gl X x) (hmT : X.mg x = none) (hbT : bootBuiltins x = some (.type T.nm)) (A : PD X G a ma ga)
    (hn : x ≠ "__name__" := by decide) (hd : (x == ("__debug__" : Str)) = false := by decide)
    (he : starEach [a, .Name x p2] X.env = (false, eval a X.env) :: starEach [.Name x p2] X.env := by rfl) (he2 : starEach [.Name x p2] X.env = (false, eval (.Name x p2) X.env) :: starEach [] X.env := by rfl)
    (hpl : (backTo pos (starEach [.Name x p2] X.env)).any (·.1) = false := by rfl) : PD X G (.Call (.Name "isinstance" p) [a, .Name x p2] [] pos) (.vw 0 []) (eUn (opIsi T) ga) := (de_isi hg hm hgT hmT hbT A hn hd he he2 hpl).congr un1_lift
theorem pd_eq (hu : X.A.units + 64 < cLine) (A : PD X G a ma ga) (B : PD X G b mb gb) (hm : behindInMarks .Eq b = false := by rfl) : PD X G (.Compare a [.Eq] [b] pos) (.vw 0 []) (eBin opEq ga gb) := (de_eq hu A B (apart_nil ma) hm).congr bin2_lift
theorem td_eq (hu : X.A.units + 64 < cLine) (A : PD X G a ma ga) (B : PD X G b mb gb) (hm : behindInMarks .Eq b = false := by rfl) : TD X G (.Compare a [.Eq] [b] pos) (eT (eBin opEq ga gb)) := (dt_eq hu A B (apart_nil ma) hm).congr tT_bin
theorem pd_ne (hu : X.A.units + 64 < cLine) (A : PD X G a ma ga) (B : PD X G b mb gb) (hm : behindInMarks .NotEq b = false := by rfl) : PD X G (.Compare a [.NotEq] [b] pos) (.vw 0 []) (eBin opNe ga gb) := (de_ne hu A B (apart_nil ma) hm).congr bin2_lift
theorem td_ne (hu : X.A.units + 64 < cLine) (A : PD X G a ma ga) (B : PD X G b mb gb) (hm : behindInMarks .NotEq b = false := by rfl) : TD X G (.Compare a [.NotEq] [b] pos) (eT (eBin opNe ga gb)) := (dt_ne hu A B (apart_nil ma) hm).congr tT_bin
theorem pd_lt (A : PD X G a ma ga) (B : PD X G b mb gb) (hm : behindInMarks .Lt b = false := by rfl) : PD X G (.Compare a [.Lt] [b] pos) (.vw 0 []) (eBin opLt ga gb) := (de_lt A B (apart_nil ma) hm).congr bin2_lift
theorem td_lt (A : PD X G a ma ga) (B : PD X G b mb gb) (hm : behindInMarks .Lt b = false := by rfl) : TD X G (.Compare a [.Lt] [b] pos) (eT (eBin opLt ga gb)) := (dt_lt A B (apart_nil ma) hm).congr tT_bin
theorem pd_le (A : PD X G a ma ga) (B : PD X G b mb gb) (hm : behindInMarks .LtE b = false := by rfl) : PD X G (.Compare a [.LtE] [b] pos) (.vw 0 []) (eBin opLe ga gb) := (de_le A B (apart_nil ma) hm).congr bin2_lift
theorem td_le (A : PD X G a ma ga) (B : PD X G b mb gb) (hm : behindInMarks .LtE b = false := by rfl) : TD X G (.Compare a [.LtE] [b] pos) (eT (eBin opLe ga gb)) := (dt_le A B (apart_nil ma) hm).congr tT_bin
theorem pd_gt (A : PD X G a ma ga) (B : PD X G b mb gb) (hm : behindInMarks .Gt b = false := by rfl) : PD X G (.Compare a [.Gt] [b] pos) (.vw 0 []) (eBin opGt ga gb) := (de_gt A B (apart_nil ma) hm).congr bin2_lift
theorem td_gt (A : PD X G a ma ga) (B : PD X G b mb gb) (hm : behindInMarks .Gt b = false := by rfl) : TD X G (.Compare a [.Gt] [b] pos) (eT (eBin opGt ga gb)) := (dt_gt A B (apart_nil ma) hm).congr tT_bin
theorem pd_ge (A : PD X G a ma ga) (B : PD X G b mb gb) (hm : behindInMarks .GtE b = false := by rfl) : PD X G (.Compare a [.GtE] [b] pos) (.vw 0 []) (eBin opGe ga gb) := (de_ge A B (apart_nil ma) hm).congr bin2_lift
theorem td_ge (A : PD X G a ma ga) (B : PD X G b mb gb) (hm : behindInMarks .GtE b = false := by rfl) : TD X G (.Compare a [.GtE] [b] pos) (eT (eBin opGe ga gb)) := (dt_ge A B (apart_nil ma) hm).congr tT_bin
theorem pd_in (hu : X.A.units + 64 < cLine) (A : PD X G a ma ga) (B : PD X G b mb gb) (hm : behindInMarks .In b = false := by rfl) : PD X G (.Compare a [.In] [b] pos) (.vw 0 []) (eBin opIn ga gb) := (de_in hu A B (apart_nil ma) hm).congr bin2_lift
theorem td_in (hu : X.A.units + 64 < cLine) (A : PD X G a ma ga) (B : PD X G b mb gb) (hm : behindInMarks .In b = false := by rfl) : TD X G (.Compare a [.In] [b] pos) (eT (eBin opIn ga gb)) := (dt_in hu A B (apart_nil ma) hm).congr tT_bin
theorem pd_ni (hu : X.A.units + 64 < cLine) (A : PD X G a ma ga) (B : PD X G b mb gb) (hm : behindInMarks .NotIn b = false := by rfl) : PD X G (.Compare a [.NotIn] [b] pos) (.vw 0 []) (eBin opNi ga gb) := (de_ni hu A B (apart_nil ma) hm).congr bin2_lift
theorem td_ni (hu : X.A.units + 64 < cLine) (A : PD X G a ma ga) (B : PD X G b mb gb) (hm : behindInMarks .NotIn b = false := by rfl) : TD X G (.Compare a [.NotIn] [b] pos) (eT (eBin opNi ga gb)) := (dt_ni hu A B (apart_nil ma) hm).congr tT_bin
theorem pd_is (A : PD X G a ma ga) (B : PD X G b mb gb) (hm : behindInMarks .Is b = false := by rfl) : PD X G (.Compare a [.Is] [b] pos) (.vw 0 []) (eBin opIs ga gb) := (de_is A B (apart_nil ma) hm).congr bin2_lift
theorem td_is (A : PD X G a ma ga) (B : PD X G b mb gb) (hm : behindInMarks .Is b = false := by rfl) : TD X G (.Compare a [.Is] [b] pos) (eT (eBin opIs ga gb)) := (dt_is A B (apart_nil ma) hm).congr tT_bin
theorem pd_isn (A : PD X G a ma ga) (B : PD X G b mb gb) (hm : behindInMarks .IsNot b = false := by rfl) : PD X G (.Compare a [.IsNot] [b] pos) (.vw 0 []) (eBin opIsN ga gb) := (de_isn A B (apart_nil ma) hm).congr bin2_lift
theorem td_isn (A : PD X G a ma ga) (B : PD X G b mb gb) (hm : behindInMarks .IsNot b = false := by rfl) : TD X G (.Compare a [.IsNot] [b] pos) (eT (eBin opIsN ga gb)) := (dt_isn A B (apart_nil ma) hm).congr tT_bin
theorem td_val (A : PD X G a ma ga) (he : ∀ whole, isTrue a X.env whole = (do let v ← whole; standAt a.pos; holding [v] (truthy v)) := by intro _; rfl) : TD X G a (eT ga) := (dt_val A he).congr tT_lift
theorem td_not (C : TD X G c gc) : TD X G (.UnaryOp .Not c pos) (eNot gc) := (dt_not C).congr tNot_lift
theorem tw_and1 (C : TD X G c gc) : TW X G (.BoolOp .And [c] pos) gc := dw_and1 C
theorem tw_or1 (C : TD X G c gc) : TW X G (.BoolOp .Or [c] pos) gc := dw_or1 C
theorem tw_and (C : TD X G c gc) (B : TW X G (.BoolOp .And (b :: rest) pos) gd) : TW X G (.BoolOp .And (c :: b :: rest) pos) (eAnd gc gd) := (dw_and C B).congr tAnd_lift
theorem tw_or (C : TD X G c gc) (B : TW X G (.BoolOp .Or (b :: rest) pos) gd) : TW X G (.BoolOp .Or (c :: b :: rest) pos) (eOr gc gd) := (dw_or C B).congr tOr_lift
theorem id_seq (A : PD X G a ma ga) : ID X G tg a (ma.k - 1) ma.rs (eSq ga) := (di_seq A).congr iSq_lift
theorem id_range1 (hg : Gl X "range") (hm : X.mg "range" = none) (A : PD X G a ma ga) (hs : starEach [a] X.env = [(false, eval a X.env)] := by rfl) (he : starEach [a] X.env = (false, eval a X.env) :: starEach [] X.env := by rfl) : ID X G tg (.Call (.Name "range" p) [a] [] pos) 0 [] (eRg opR1 (eCons ga eNil)) := (di_range1 hg hm (pl_cons A pl_nil he) hs).congr iRg_lift
theorem id_range2 (hg : Gl X "range") (hm : X.mg "range" = none) (A : PD X G a ma ga) (B : PD X G b mb gb) (hs : starEach [a, b] X.env = [(false, eval a X.env), (false, eval b X.env)] := by rfl) (hs2 : starEach [b] X.env = [(false, eval b X.env)] := by rfl)
    (he : starEach [a, b] X.env = (false, eval a X.env) :: starEach [b] X.env := by rfl) (he2 : starEach [b] X.env = (false, eval b X.env) :: starEach [] X.env := by rfl) : ID X G tg (.Call (.Name "range" p) [a, b] [] pos) 0 [] (eRg opR2 (eCons ga (eCons gb eNil))) := (di_range2 hg hm (pl_cons A (pl_cons B pl_nil he2) he) hs hs2).congr iRg_lift
theorem pd_listRg1 (hc : X.calm = true) (hgL : Gl X "list") (hmL : X.mg "list" = none) (hgR : Gl X "range") (hmR : X.mg "range" = none) (A : PD X G a ma ga) (na : starEach [a] X.env = (false, eval a X.env) :: starEach [] X.env := by rfl)
    (na2 : starEach [.Call (.Name "range" p2) [a] [] pos2] X.env = (false, eval (.Call (.Name "range" p2) [a] [] pos2) X.env) :: starEach [] X.env := by rfl) : PD X G (.Call (.Name "list" p) [.Call (.Name "range" p2) [a] [] pos2] [] pos) (.ow 1) (eN opLR1 (eCons ga eNil)) := (de_listRg1 hc hgL hmL hgR hmR A na na2).congr mN1_lift
theorem pd_len (hg : Gl X "len") (hm : X.mg "len" = none) (A : PD X G a ma ga) (he : starEach [a] X.env = (false, eval a X.env) :: starEach [] X.env := by rfl) : PD X G (.Call (.Name "len" p) [a] [] pos) (.vw 0 []) (eN opLen (eCons ga eNil)) := (de_len hg hm A he).congr mN1_lift
theorem pd_abs (hg : Gl X "abs") (hm : X.mg "abs" = none) (A : PD X G a ma ga) (he : starEach [a] X.env = (false, eval a X.env) :: starEach [] X.env := by rfl) : PD X G (.Call (.Name "abs" p) [a] [] pos) (.vw 0 []) (eN (opI1 absI) (eCons ga eNil)) := (de_abs hg hm A he).congr mN1_lift
theorem pd_sum (hc : X.calm = true) (hg : Gl X "sum") (hm : X.mg "sum" = none) (A : PD X G a ma ga) (he : starEach [a] X.env = (false, eval a X.env) :: starEach [] X.env := by rfl) : PD X G (.Call (.Name "sum" p) [a] [] pos) (.vw 0 []) (eN opSum (eCons ga eNil)) := (de_sum hc hg hm A he).congr mN1_lift
theorem pd_maxL (hc : X.calm = true) (hg : Gl X "max") (hm : X.mg "max" = none) (A : PD X G a ma ga) (he : starEach [a] X.env = (false, eval a X.env) :: starEach [] X.env := by rfl) : PD X G (.Call (.Name "max" p) [a] [] pos) (.vw 0 []) (eN opMaxL (eCons ga eNil)) := (de_maxL hc hg hm A he).congr mN1_lift
theorem pd_minL (hc : X.calm = true) (hg : Gl X "min") (hm : X.mg "min" = none) (A : PD X G a ma ga) (he : starEach [a] X.env = (false, eval a X.env) :: starEach [] X.env := by rfl) : PD X G (.Call (.Name "min" p) [a] [] pos) (.vw 0 []) (eN opMinL (eCons ga eNil)) := (de_minL hc hg hm A he).congr mN1_lift
theorem pd_sorted (hu : X.A.units + 64 < cLine) (hg : Gl X "sorted") (hm : X.mg "sorted" = none) (A : PD X G a ma ga) (he : starEach [a] X.env = (false, eval a X.env) :: starEach [] X.env := by rfl) : PD X G (.Call (.Name "sorted" p) [a] [] pos) (if ma.k ≤ 1 then .ow 1 else .vw ma.k ma.rs) (eN opSorted (eCons ga eNil)) := (de_sorted hu hg hm A he).congr mN1_lift
theorem pd_intC (hg : Gl X "int") (hm : X.mg "int" = none) (A : PD X G a ma ga) (he : starEach [a] X.env = (false, eval a X.env) :: starEach [] X.env := by rfl) : PD X G (.Call (.Name "int" p) [a] [] pos) (.vw 0 []) (eN opInt (eCons ga eNil)) := (de_int hg hm A he).congr mN1_lift
theorem pd_list (hg : Gl X "list") (hm : X.mg "list" = none) (A : PD X G a ma ga) (he : starEach [a] X.env = (false, eval a X.env) :: starEach [] X.env := by rfl) : PD X G (.Call (.Name "list" p) [a] [] pos) (if ma.k ≤ 1 then .ow 1 else .vw ma.k ma.rs) (eN opList (eCons ga eNil)) := (de_list hg hm A he).congr mN1_lift
theorem pd_tuple (hg : Gl X "tuple") (hm : X.mg "tuple" = none) (A : PD X G a ma ga) (he : starEach [a] X.env = (false, eval a X.env) :: starEach [] X.env := by rfl) : PD X G (.Call (.Name "tuple" p) [a] [] pos) (if ma.k ≤ 1 then .vw 0 [] else .vw ma.k ma.rs) (eN opTuple (eCons ga eNil)) := (de_tuple hg hm A he).congr mN1_lift
theorem pd_min2 (hc : X.calm = true) (hg : Gl X "min") (hm : X.mg "min" = none) (A : PD X G a ma ga) (B : PD X G b mb gb) (he : starEach [a, b] X.env = (false, eval a X.env) :: starEach [b] X.env := by rfl) (he2 : starEach [b] X.env = (false, eval b X.env) :: starEach [] X.env := by rfl) (hpl : (backTo pos (starEach [b] X.env)).any (·.1) = false := by rfl) : PD X G (.Call (.Name "min" p) [a, b] [] pos) (.vw 0 []) (eN (opI2 minI) (eCons ga (eCons gb eNil))) := (de_min2 hc hg hm A B (apart_nil ma) he he2 hpl).congr mN2_lift
theorem pd_max2 (hc : X.calm = true) (hg : Gl X "max") (hm : X.mg "max" = none) (A : PD X G a ma ga) (B : PD X G b mb gb) (he : starEach [a, b] X.env = (false, eval a X.env) :: starEach [b] X.env := by rfl) (he2 : starEach [b] X.env = (false, eval b X.env) :: starEach [] X.env := by rfl) (hpl : (backTo pos (starEach [b] X.env)).any (·.1) = false := by rfl) : PD X G (.Call (.Name "max" p) [a, b] [] pos) (.vw 0 []) (eN (opI2 maxI) (eCons ga (eCons gb eNil))) := (de_max2 hc hg hm A B (apart_nil ma) he he2 hpl).congr mN2_lift
end
end Dw
/-! Dw, part Z: defs by name, the end. -/
namespace Dw
open PySem PySem.Spec PyProof.Rows L2

def fuelW : Nat := 1000000000000
def pdF (f : Ev → Option (D × Ev)) : Ev → Option D := fun sl => (f sl).map (·.1)
def eCall (F : List D → Option (D × List D)) (gr : Ev → Option (List D)) : Ev → Option D := eN (fun ds => (F ds).map (·.1)) gr
/-- a def of the module, with its parameters -/
structure Dfn (K : PySem.W.Frag) (mg : Str → Option Value) (x : Str) (st : Stmt) (ps : List Str) : Prop where
  ex : ∃ (f : Addr) (fd : FuncData), Fun K x x st f fd ∧ mg x = some (.ref f) ∧ PySem.W.keepIn K (.ref f) = true ∧ Binds K fd ps []
/-- a def that keeps its promise, by its name -/
structure Cl (P : Program) (w : World) (K : PySem.W.Frag) (mg : Str → Option Value) (base : Heap) (k : Nat) (x : Str) (S : Spec) : Prop where
  ex : ∃ (f : Addr) (fd : FuncData) (ps : List Str), FnOk P w K mg base CX0 k f fd ps (spD K S) ∧ mg x = some (.ref f) ∧ PySem.W.keepIn K (.ref f) = true ∧ Binds K fd ps []
section
variable {X : Cx} {G : List Mode} {e : Expr} {es : List Expr} {ts : List (Option Nat)} {ms : List RM} {M : List Nat} {fr : Ev → Option (List D × Ev)} {gr : Ev → Option (List D)} {k j : Nat} {x : Str} {p pos : Pos}
theorem de_callC (S : Spec) (c : Cl X.prog X.w X.K X.mg X.base k x S) (hr : Room j X.A) (hk : k ≤ j) (hg : Gl X x) (A : DC X G (e :: es) ts ms M fr) (ok : callOk S ts ms G = true := by rfl)
    (hdb : (x == ("__debug__" : Str)) = false := by decide) (he : starEach (e :: es) X.env = (false, eval e X.env) :: starEach es X.env := by rfl) (hpl : (backTo pos (starEach es X.env)).any (·.1) = false := by rfl) :
    DE X G (.Call (.Name x p) (e :: es) [] pos) (callM S.m ms) (M ++ iosOf ts) (mCall S.F ts fr) := by
  obtain ⟨f, fd, ps, F, hm, kp, hb⟩ := c.ex
  exact de_call S F hr hk hg hm kp hb A ok hdb he hpl
theorem pd_call (S : Spec) (c : Cl X.prog X.w X.K X.mg X.base k x S) (hr : Room j X.A) (hk : k ≤ j) (hg : Gl X x) (A : DC X G (e :: es) ts ms [] (liftL gr)) (hts : iosOf ts = [] ∧ ts.all Option.isNone = true := by exact ⟨rfl, rfl⟩) (ok : callOk S ts ms G = true := by rfl)
    (hdb : (x == ("__debug__" : Str)) = false := by decide) (he : starEach (e :: es) X.env = (false, eval e X.env) :: starEach es X.env := by rfl) (hpl : (backTo pos (starEach es X.env)).any (·.1) = false := by rfl) :
    PD X G (.Call (.Name x p) (e :: es) [] pos) (callM S.m ms) (eCall S.F gr) := by
  have := (de_callC (p := p) (pos := pos) S c hr hk hg A ok hdb he hpl).congr (mCall_lift hts.2)
  rw [hts.1] at this
  exact this
theorem dcl_nil : DC X G [] [] [] [] (liftL eNil) := dc_nil
theorem dcl_ex {a : Expr} {ma : RM} {ga : Ev → Option D} (A : PD X G a ma ga) (R : DC X G es ts ms [] (liftL gr)) (hs : starEach (a :: es) X.env = (false, eval a X.env) :: starEach es X.env := by rfl) : DC X G (a :: es) (none :: ts) (ma :: ms) [] (liftL (eCons ga gr)) := by
  have h := dc_ex A R (apart_nil ma) hs
  rw [← mCons_lift] at h
  exact h
theorem DE.toPDF {m : RM} {f : Ev → Option (D × Ev)} (A : DE X G e m [] f) : PD X G e m (pdF f) := A.toPD
end
section
variable {P : Program} {w : World} {K : PySem.W.Frag} {mg : Str → Option Value} {base : Heap}
theorem Cl.mono {j k : Nat} {x : Str} {S : Spec} (c : Cl P w K mg base j x S) (h : j ≤ k) : Cl P w K mg base k x S := by
  obtain ⟨f, fd, ps, F, r⟩ := c.ex
  exact ⟨f, fd, ps, F.mono h, r⟩
theorem cl_def {x : Str} {st : Stmt} {N ps : List Str} {k : Nat} {Gn : List Mode} {F0 : Ev → Option Fl} (S : Spec) (Df : Dfn K mg x st ps) (sc : FnScope N ps (defScope st)) (hps : S.ps.length = ps.length)
    (hb : ∀ (f : Addr) (cdv : Value) (A : Around) (outer : List Env) (s : Shared) (H : Hp) (E : XK), Room k (A.deeper (envOfC x (defScope st) s.heap.objs.size f cdv)) →
      DSs (cxOf CX0 P w K mg base N x (defScope st) f cdv A outer s H E).nox S.R (pG S.ps ++ List.replicate (N.length - ps.length) .no) (defBody st) Gn [] [] F0)
    (hn : leG leX Gn S.R.G = true) (hF : ∀ ds z, S.F ds = some z → runD S.ps N.length F0 ds = some z) : Cl P w K mg base (k + 1) x S := by
  obtain ⟨f, fd, F, hm, kp, b⟩ := Df.ex
  exact ⟨f, fd, ps, ok_def S F sc hps (hb f) hn hF, hm, kp, b⟩
theorem cl_void {x : Str} {st : Stmt} {ps : List Str} {k : Nat} {S : Spec} (Df : Dfn K mg x st ps) (h : ∀ ds, S.F ds = none) : Cl P w K mg base k x S := by
  obtain ⟨f, fd, F, hm, kp, b⟩ := Df.ex
  exact ⟨f, fd, ps, ok_void h, hm, kp, b⟩
/-- a draw: the first cell that is not 0, else the next of the row -/
def drawF : List D → Option (D × List D)
  | [.lst [.lst cs, .int sd], .int many] => (intsD cs).bind fun ns => if 0 < many ∧ many < 1073741824 then
      (match ns.dropWhile (fun c => c == 0) with
      | v :: r => some (.int (v % many), [.lst [.lst (((v / many) :: r).map .int), .int sd], .int many])
      | [] => some (.int (((sd * 48271 + 12345) % 2147483647 / 64) % many), [.lst [.lst [], .int ((sd * 48271 + 12345) % 2147483647)], .int many])) else none
  | _ => none
/-- the law's promise, at its end -/
theorem law_end {S : Spec} (hp : S.ps = [.fz 0]) (h : ∀ ns : List Int, ns.length ≤ 63 → ∃ q, S.F [.frz ns] = some (.bl true, q)) (H : Hp) (a : Addr) (ns : List Int) (hl : ns.length ≤ 63) (O : Only H) (hS : SqL K H a (ns.map V.int)) :
    spD K S [.ref a] H (fun v _ => v = .bl true) fun _ _ _ => False := by
  obtain ⟨q, hq⟩ := h ns hl
  have fr : FrL K H a ns := by
    rcases hS with (h1 | ⟨o, h1⟩) | h1
    · rcases O a with z | ⟨o, xs, z⟩
      · rw [z] at h1; cases h1
      · rw [z] at h1; cases h1
    · exact .inl ⟨o, h1⟩
    · exact .inr h1
  have sz : Sz H := fun b o e => by
    rcases O b with z | ⟨o', xs, z⟩
    · rw [z] at e; cases e
    · rw [z] at e; cases e; rfl
  refine ⟨[.frz ns], fun _ => [], .bl true, q, hq, by rw [hp]; rfl, ?_, fun v H' fs' fp C => ?_⟩
  · rw [hp]
    refine ⟨rfl, sz, fun i hi => ?_, fun i hi => ?_, fun i j hi => ?_, fun i k rs e a ha => nomatch ha⟩
    · cases i with
      | zero => exact ⟨.frz ns, .ref a, rfl, rfl, .frz fr, Nat.le_refl _⟩
      | succ i => exact absurd rfl hi
    · exact List.nodup_nil
    · exact fun _ _ a ha => nomatch ha
  · have r := C.rep
    cases r
    rfl
end
end Dw
/-! Dw, part Za: what a draw leaves behind. -/
namespace Dw
open PySem PySem.Spec PyProof.Rows L2
/-- the state's two cells, as they stand -/
structure DrS (K : PySem.W.Frag) (H : Hp) (fs : Nat → List Addr) (vs : List V) (a c : Addr) (ns : List Int) (sd many : Int) : Prop where
  evs : vs = [.ref a, .int many]
  ha : H a = some (.lst [.ref c, .int sd])
  hc : H c = some (.lst (ns.map V.int))
  ne : c ≠ a
  fs0 : fs 0 = [a, c]
  fs1 : fs 1 = []
  sz : Sz H
  ln : ns.length ≤ sizeLine
theorem dr_start {K : PySem.W.Frag} {H : Hp} {fs : Nat → List Addr} {ds : List D} {vs : List V} {r : D × List D} (S : SR K (pG [.io 2, .fz 0]) (ds.map some) (vs.map some) H fs) (hv : vs.length = 2) (h : drawF ds = some r) :
    ∃ a c ns sd many, DrS K H fs vs a c ns sd many ∧ 0 < many ∧ many < 1073741824 ∧ r = (match ns.dropWhile (fun c => c == 0) with
      | v :: r => (.int (v % many), [.lst [.lst (((v / many) :: r).map .int), .int sd], .int many])
      | [] => (.int (((sd * 48271 + 12345) % 2147483647 / 64) % many), [.lst [.lst [], .int ((sd * 48271 + 12345) % 2147483647)], .int many])) := by
  unfold drawF at h
  split at h
  · rename_i cs sd many
    obtain ⟨ns, h1, h2⟩ := Option.bind_eq_some_iff.mp h
    split at h2
    · rename_i hm
      have e := intsD_eq h1
      subst e
      match vs, hv with
      | [v0, v1], _ =>
        obtain ⟨d, v, q1, q2, q3, _⟩ := S.val 0 (by decide)
        obtain ⟨d', v', p1, p2, p3, _⟩ := S.val 1 (by decide)
        cases q1; cases q2; cases p1; cases p2
        have nd := S.nd 0 rfl
        generalize hf0 : fs 0 = f0 at q3 nd
        generalize hf1 : fs 1 = f1 at p3
        cases p3
        cases q3 with
        | @lst a ws _ g h3 r3 =>
          cases r3 with
          | @cons _ x f _ xs g' r4 t4 =>
            cases t4 with
            | @cons _ y f2 _ ys g2 r5 t5 =>
              cases t5
              cases r5
              cases r4 with
              | @lst c zs _ g3 h4 r6 =>
                obtain ⟨e1, e2⟩ := r6.ints
                subst e1 e2
                have ne : c ≠ a := fun z => by subst z; simp at nd
                refine ⟨a, c, ns, sd, many, ⟨rfl, h3, h4, ne, hf0, hf1, S.sz, ?_⟩, hm.1, hm.2, ?_⟩
                · have := S.sz c _ h4; simpa [szO] using this
                · generalize ns.dropWhile (fun c => c == 0) = l at h2 ⊢
                  cases l with
                  | nil => cases h2; rfl
                  | cons v r => cases h2; rfl
    · cases h2
  · cases h
theorem dr_end {K : PySem.W.Frag} {H H' : Hp} {fs : Nat → List Addr} {vs : List V} {a c : Addr} {ns ns' : List Int} {sd sd' many z : Int} (E : DrS K H fs vs a c ns sd many) (h1 : H' a = some (.lst [.ref c, .int sd'])) (h2 : H' c = some (.lst (ns'.map V.int))) (h3 : ∀ b, b ≠ a → b ≠ c → H' b = H b) (hl : ns'.length ≤ sizeLine) :
    CO K [.io 2, .fz 0] (.vw 0 []) H fs (.int z) [.lst [.lst (ns'.map .int), .int sd'], .int many] vs (.int z) H' fs [] := by
  obtain ⟨e1, ea, ec, ne, f0, f1, sz, _⟩ := E
  subst e1
  have rp : Rep K H' (.lst [.lst (ns'.map .int), .int sd']) (.ref a) [a, c] := by
    have := Rep.lst (K := K) (ds := [.lst (ns'.map .int), .int sd']) h1 (.cons (.lst h2 (reps_ints ns')) (.cons (.int sd') .nil))
    exact this
  have mo : ∀ i, md (pG [.io 2, .fz 0]) i = .ow 2 ∧ i = 0 ∨ (md (pG [.io 2, .fz 0]) i = .vw 0 [] ∧ i = 1) ∨ md (pG [.io 2, .fz 0]) i = .no := fun i => by
    match i with
    | 0 => exact .inl ⟨rfl, rfl⟩
    | 1 => exact .inr (.inl ⟨rfl, rfl⟩)
    | i + 2 => exact .inr (.inr rfl)
  have own : ∀ {i}, (md (pG [.io 2, .fz 0]) i).own = true → i = 0 := fun {i} h => by
    rcases mo i with ⟨_, e⟩ | ⟨e, _⟩ | e
    · exact e
    · rw [e] at h; cases h
    · rw [e] at h; cases h
  have S' : SR K (pG [.io 2, .fz 0]) ([D.lst [.lst (ns'.map .int), .int sd'], .int many].map some) ([V.ref a, .int many].map some) H' fs := by
    refine ⟨rfl, fun b o e => ?_, fun i hi => ?_, fun i hi => ?_, fun i j hi hj ne => ?_, fun i k rs e b hb => ?_⟩
    · by_cases q : b = a
      · subst q; rw [h1] at e; cases e; rfl
      · by_cases q2 : b = c
        · subst q2; rw [h2] at e; cases e
          exact szO_lst (by rw [List.length_map]; exact hl)
        · rw [h3 b q q2] at e; exact sz b o e
    · rcases mo i with ⟨e, rfl⟩ | ⟨e, rfl⟩ | e
      · refine ⟨_, _, rfl, rfl, by rw [f0]; exact rp, ?_⟩
        rw [e]
        refine Nat.le_trans (le_mdep_lst (k := 1) fun d hd => ?_) (Nat.le_refl _)
        simp only [List.mem_cons, List.not_mem_nil, or_false] at hd
        rcases hd with rfl | rfl
        · exact le_mdep_lst (k := 0) fun d hd => by obtain ⟨j, _, e⟩ := List.mem_map.mp hd; subst e; exact Nat.le_refl _
        · exact Nat.zero_le _
      · exact ⟨_, _, rfl, rfl, by rw [f1]; exact .int many, Nat.zero_le _⟩
      · exact absurd e hi
    · rw [own hi, f0]
      simp [Ne.symm ne]
    · exact absurd ((own hi).trans (own hj).symm) ne
    · rcases mo i with ⟨e2, _⟩ | ⟨_, rfl⟩ | e2
      · rw [e2] at e; cases e
      · rw [f1] at hb; cases hb
      · rw [e2] at e; cases e
  refine ⟨S', ⟨fun b o e hn => ?_, fun b e => ?_, fun j hj b hb => .inl ⟨j, hj, hb⟩, fun j hj b hb => .inl ⟨j, hj, hb⟩⟩, .int z, Nat.le_refl _, ⟨(fun _ z => nomatch z), (fun _ z => nomatch z)⟩⟩
  · have := hn 0 2 rfl
    rw [f0] at this
    have n1 : b ≠ a := fun z => this (by simp [z])
    have n2 : b ≠ c := fun z => this (by simp [z])
    rw [h3 b n1 n2]; exact e
  · by_cases q : b = a
    · subst q; rw [h1] at e; cases e
    · by_cases q2 : b = c
      · subst q2; rw [h2] at e; cases e
      · rw [h3 b q q2] at e; exact e
end Dw
/-! Dw, part Zb: from the heap behind the top. -/
namespace Dw
open PySem PySem.Spec PyProof.Rows L2
theorem if_neg_p {c a b : Prop} [Decidable c] (h : ¬ c) (hb : b) : if c then a else b := by rw [if_neg h]; exact hb
theorem if_pos_p {c a b : Prop} [Decidable c] (h : c) (ha : a) : if c then a else b := by rw [if_pos h]; exact ha
theorem dfn_mk {K : PySem.W.Frag} {h : Heap} {mg : Str → Option Value} (X : K.In h) (G : h.Ns mainGlobals mg) {x : Str} {st : Stmt} {ps : List Str} {f : Addr} {oc : Value} {od an : Option Addr} {osl : Array (Option Value)} {kV doc pm cdv ct : Value}
    (a : PySem.W.nsIn K mainGlobals x = some (some (.ref f))) (l : K.lookup f = some ⟨oc, od, .func (PySem.W.fnOf x x (defArgs st) (defBody st) (defScope st) .none kV doc pm an cdv ct), osl⟩) (c : PySem.W.codeIn K cdv x = true) (k : PySem.W.keepIn K (.ref f) = true)
    (hb : ∀ (kV doc pm : Value) (an : Option Addr) (cdv ct : Value) (us : List Value), us.length = ps.length → bindArgs (PySem.W.fnOf x x (defArgs st) (defBody st) (defScope st) .none kV doc pm an cdv ct) ⟨us, []⟩ = pure (ps.zip us)) : Dfn K mg x st ps :=
  have F := fun_mk (st := st) l c k
  ⟨f, _, F, PySem.W.mg_of X G a, k, F.binds hb⟩
theorem all_law {P : Program} {w : World} {K : PySem.W.Frag} {h : Heap} {mg : Str → Option Value} {fa : Addr} {S : Spec} {st : Stmt} {LV : Nat} (X : K.In h) (G : h.Ns mainGlobals mg) (hfa : mg "law" = some (.ref fa)) {f : Addr} {oc : Value} {od an : Option Addr} {osl : Array (Option Value)} {kV doc pm cdv ct : Value}
    (a : PySem.W.nsIn K mainGlobals "law" = some (some (.ref f))) (l : K.lookup f = some ⟨oc, od, .func (PySem.W.fnOf "law" "law" (defArgs st) (defBody st) (defScope st) .none kV doc pm an cdv ct), osl⟩) (c : PySem.W.codeIn K cdv "law" = true) (k : PySem.W.keepIn K (.ref f) = true)
    (hb : ∀ (kV doc pm : Value) (an : Option Addr) (cdv ct : Value) (v : Value), bindArgs (PySem.W.fnOf "law" "law" (defArgs st) (defBody st) (defScope st) .none kV doc pm an cdv ct) ⟨[v], []⟩ = pure [(("script" : Str), v)])
    (H : ∀ base : Heap, K.In base → base.Ns mainGlobals mg → ∀ fd, Fun K "law" "law" st f fd → FnOk P w K mg base CX0 LV f fd ["script"] (spD K S)) :
    ∃ fd : FuncData, (∀ (s : Shared) (v : Value), BindsTo s fd ⟨[v], []⟩ [("script", v)]) ∧ ∀ base : Heap, K.In base → base.Ns mainGlobals mg → FnOk P w K mg base CX0 LV fa fd ["script"] (spD K S) := by
  have e := hfa.symm.trans (PySem.W.mg_of X G a)
  cases e
  exact ⟨_, fun s v => .of_eq (hb _ _ _ _ _ _ v), fun base hK hN => H base hK hN _ (fun_mk (st := st) l c k)⟩
end Dw
/-! Dw, part Ma: the mathematics of the laws' own first defs. -/
namespace Dw
open PySem PySem.Spec PyProof.Rows L2

/-- a state of draws -/
def IsSt (d : D) : Prop := ∃ (cs : List Int) (sd : Int), d = .lst [.lst (cs.map .int), .int sd]
theorem intsD_map : ∀ ns : List Int, intsD (ns.map .int) = some ns
  | [] => rfl
  | n :: ns => by show (intsD (ns.map .int)).map _ = _; rw [intsD_map ns]; rfl
theorem draw_ok {d : D} {m : Int} (h : IsSt d) (h0 : 0 < m) (h1 : m < 1073741824) : ∃ r d', drawF [d, .int m] = some (.int r, [d', .int m]) ∧ 0 ≤ r ∧ r < m ∧ IsSt d' := by
  obtain ⟨cs, sd, rfl⟩ := h
  unfold drawF
  simp only []
  rw [intsD_map]
  simp only [Option.bind_some]
  rw [if_pos ⟨h0, h1⟩]
  generalize cs.dropWhile (fun c => c == 0) = l
  cases l with
  | nil => exact ⟨_, _, rfl, Int.emod_nonneg _ (by omega), Int.emod_lt_of_pos _ h0, [], _, rfl⟩
  | cons v r => exact ⟨_, _, rfl, Int.emod_nonneg _ (by omega), Int.emod_lt_of_pos _ h0, (v / m) :: r, sd, rfl⟩
/-- the first def of the laws with cells -/
def stB : Ev → Option Fl := (sSeq (sAsg (lift (eC (.int 7))) (gSet 1)) (sSeq (sFor (liftL (eSq (eVar 0))) (gSet 2) (sAsg (lift (eBin opMod (eN opInt (eCons (eBin opAdd (eBin opMul (eVar 1) (eC (.int 31))) (eVar 2)) eNil)) (eC (.int 1000003)))) (gSet 1))) (sRet (lift (eLst (eCons (pdF (mLc [2] (liftL (eSq (eVar 0))) (gSet 2) (bdF tYesF (lift (eN (opI1 absI) (eCons (eVar 2) eNil)))))) (eCons (eBin opAdd (eVar 1) (eC (.int 1))) eNil)))))))
theorem st_loop (x : D) : ∀ (cs : List Int) (s : Int) (c : Option D), ∃ s' c', forF (gSet 2) (sAsg (lift (eBin opMod (eN opInt (eCons (eBin opAdd (eBin opMul (eVar 1) (eC (.int 31))) (eVar 2)) eNil)) (eC (.int 1000003)))) (gSet 1)) (cs.map .int) [some x, some (.int s), c] = some (.nx [some x, some (.int s'), c'])
  | [], s, c => ⟨s, c, rfl⟩
  | k :: cs, s, c => by
    obtain ⟨s', c', h⟩ := st_loop x cs ((s * 31 + k) % 1000003) (some (.int k))
    refine ⟨s', c', ?_⟩
    rw [← h]
    simp [forF, gSet, sAsg, lift, eBin, eN, eCons, eVar, eC, eNil, opAdd, opMul, opMod, opI, opIc, opInt, smallI]
theorem st_comp (x : D) : ∀ (cs : List Int) (s : Option D) (c : Option D), lpF [2] (gSet 2) (bdF tYesF (lift (eN (opI1 absI) (eCons (eVar 2) eNil)))) (cs.map .int) [some x, s, c] = some ((cs.map absI).map .int, if cs = [] then [some x, s, c] else [some x, s, none])
  | [], s, c => rfl
  | k :: cs, s, c => by
    have h := st_comp x cs s none
    simp [lpF, gSet, bdF, tYesF, lift, eN, eCons, eVar, eNil, opI1, wipeD, h]
theorem st_ok (ns : List Int) (hl : ns.length ≤ 63) : ∃ d, runD [.fz 0] 3 stB [.frz ns] = some (d, [.frz ns]) ∧ IsSt d := by
  obtain ⟨s', c', h⟩ := st_loop (.frz ns) ns 7 none
  have hc := st_comp (.frz ns) ns (some (.int s')) none
  have hz : ns.length ≤ sizeLine := by rw [sizeLine_eq]; omega
  refine ⟨.lst [.lst ((ns.map absI).map .int), .int (s' + 1)], ?_, ns.map absI, s' + 1, rfl⟩
  have e0 : startD 3 [.frz ns] = [some (.frz ns), none, none] := rfl
  unfold runD
  rw [e0]
  have h1 : sFor (liftL (eSq (eVar 0))) (gSet 2) (sAsg (lift (eBin opMod (eN opInt (eCons (eBin opAdd (eBin opMul (eVar 1) (eC (.int 31))) (eVar 2)) eNil)) (eC (.int 1000003)))) (gSet 1)) [some (.frz ns), some (.int 7), none] = some (.nx [some (.frz ns), some (.int s'), c']) := h
  have h2 : pdF (mLc [2] (liftL (eSq (eVar 0))) (gSet 2) (bdF tYesF (lift (eN (opI1 absI) (eCons (eVar 2) eNil))))) [some (.frz ns), some (.int s'), c'] = some (.lst ((ns.map absI).map .int)) := by
    unfold pdF mLc
    have e1 : liftL (eSq (eVar 0)) [some (.frz ns), some (.int s'), c'] = some (ns.map .int, [some (.frz ns), some (.int s'), c']) := rfl
    rw [e1]
    simp only [Option.bind_some]
    have e2 : wipeD [some (.frz ns), some (.int s'), c'] [2] = [some (.frz ns), some (.int s'), none] := rfl
    rw [e2, hc]
    simp [hz]
  have h3 : sRet (lift (eLst (eCons (pdF (mLc [2] (liftL (eSq (eVar 0))) (gSet 2) (bdF tYesF (lift (eN (opI1 absI) (eCons (eVar 2) eNil)))))) (eCons (eBin opAdd (eVar 1) (eC (.int 1))) eNil)))) [some (.frz ns), some (.int s'), c'] = some (.rt (.lst [.lst ((ns.map absI).map .int), .int (s' + 1)]) [some (.frz ns), some (.int s'), c']) := by
    generalize pdF (mLc [2] (liftL (eSq (eVar 0))) (gSet 2) (bdF tYesF (lift (eN (opI1 absI) (eCons (eVar 2) eNil))))) = g at h2
    unfold sRet lift eLst eCons
    rw [h2]
    rfl
  have h4 : stB [some (.frz ns), none, none] = some (.rt (.lst [.lst ((ns.map absI).map .int), .int (s' + 1)]) [some (.frz ns), some (.int s'), c']) := by
    unfold stB
    have a1 : sAsg (lift (eC (.int 7))) (gSet 1) [some (.frz ns), none, none] = some (.nx [some (.frz ns), some (.int 7), none]) := rfl
    unfold sSeq
    rw [a1]
    simp only [Option.bind_some]
    rw [h1]
    exact h3
  rw [h4]
  rfl
theorem draw_call {j : Nat} {sl : Ev} {d : D} {m : Int} {fr : Ev → Option (List D × Ev)} (hd : eVar j sl = some d) (hf : fr sl = some ([.int m], sl)) (h : IsSt d) (h0 : 0 < m) (h1 : m < 1073741824) :
    ∃ r d', mCall drawF [some j, none] fr sl = some (.int r, sl.set j (some d')) ∧ 0 ≤ r ∧ r < m ∧ IsSt d' := by
  obtain ⟨r, d', e, a, b, c⟩ := draw_ok h h0 h1
  refine ⟨r, d', ?_, a, b, c⟩
  unfold mCall
  rw [hf]
  show (fillD [some j, none] [.int m] sl).bind _ = _
  have hz : fillD [some j, none] [.int m] sl = some [d, .int m] := by
    unfold fillD
    rw [hd]
    rfl
  rw [hz]
  show (drawF [d, .int m]).map _ = _
  rw [e]
  rfl
/-- a loop over a list keeps what each turn keeps -/
theorem forF_inv {I : Ev → Prop} {g : D → Ev → Option Ev} {F : Ev → Option Fl} (hs : ∀ d sl, I sl → ∃ s sl', g d sl = some s ∧ F s = some (.nx sl') ∧ I sl') : ∀ (ds : List D) (sl : Ev), I sl → ∃ sl', forF g F ds sl = some (.nx sl') ∧ I sl'
  | [], sl, h => ⟨sl, rfl, h⟩
  | d :: ds, sl, h => by
    obtain ⟨s, sl', a, b, c⟩ := hs d sl h
    obtain ⟨s2, e, i⟩ := forF_inv hs ds sl' c
    refine ⟨s2, ?_, i⟩
    show (g d sl).bind _ = _
    rw [a]
    show (F s).bind _ = _
    rw [b]
    exact e
end Dw
set_option maxHeartbeats 4000000
/-! Dx, part A: what is turned round: xs[::-1] of lists and of tuples. -/
namespace Dw
open PySem PySem.Spec PyProof.Rows L2

section
variable {prog : Program} {w : World} {A : Around} {E : Value → Shared → Prop} {s : Shared}
theorem places_back (n : Nat) : Builtin.Slice.slicePlaces ((n : Int) - 1) (-1) (-1) = n := by
  unfold Builtin.Slice.slicePlaces
  rw [if_neg (by omega)]
  split
  · rw [show (- -1 : Int) = 1 from by decide, Int.ediv_one]; omega
  · omega
theorem cut_back {sl : Addr} {vk : Value} {n : Nat} {Q : Int × Int × Nat → Shared → Prop} (hs : s.heap.IsSliceOf sl .none .none vk) (pk : IsPart vk (some (-1))) (h : Q ((n : Int) - 1, -1, n) s) :
    wpAny (model prog w) A (Builtin.Slice.sliceApplied (.ref sl) (pure (n : Int))) Q E s := by
  obtain ⟨os, at1, -, dat⟩ := hs
  unfold Builtin.Slice.sliceApplied Builtin.Slice.sliceFields
  refine wpAny_bind (wpAny_bind (wpAny_field at1 dat (x := .none) rfl (wpAny_bind (wpAny_field at1 dat (x := .none) rfl (wpAny_bind (wpAny_field at1 dat (x := vk) rfl (wpAny_pure (wpAny_bind (HT.slicePart_ pk ?_)))))))))
  show wpAny _ _ (if ((-1 : Int) == 0) = true then _ else _) _ _ s
  rw [if_neg (by decide)]
  refine wpAny_bind (HT.slicePart_ .none (wpAny_bind (HT.slicePart_ .none (wpAny_bind (wpAny_pure (wpAny_pure ?_))))))
  have e := places_back n
  show Q ((n : Int) - 1, -1, Builtin.Slice.slicePlaces ((n : Int) - 1) (-1) (-1)) s
  rw [e]
  exact h
theorem picks_back (xs : Array Value) : ((List.range xs.size).filterMap fun (k : Nat) => xs[((xs.size : Int) - 1 + (k : Int) * -1).toNat]?).toArray = xs.toList.reverse.toArray := by
  have e : ((List.range xs.size).filterMap fun (k : Nat) => xs[((xs.size : Int) - 1 + (k : Int) * -1).toNat]?) = ((List.range xs.size).map fun k => xs.size - 1 - k).filterMap (xs[·]?) := by
    rw [List.filterMap_map]
    have f : ∀ l : List Nat, (∀ k ∈ l, k < xs.size) → (l.filterMap fun (k : Nat) => xs[((xs.size : Int) - 1 + (k : Int) * -1).toNat]?) = l.filterMap ((xs[·]?) ∘ fun k => xs.size - 1 - k) := fun l => by
      induction l with
      | nil => exact fun _ => rfl
      | cons k l ih =>
        intro h
        have hk := h k List.mem_cons_self
        rw [List.filterMap_cons, List.filterMap_cons, ih fun j hj => h j (List.mem_cons_of_mem _ hj), show ((xs.size : Int) - 1 + (k : Int) * -1).toNat = xs.size - 1 - k from by omega]
        rfl
    exact f _ fun k hk => List.mem_range.mp hk
  rw [e, PySem.W.krv_range, List.filterMap_reverse, PySem.W.krv_all]
/-- t[::-1] of a tuple: a new tuple -/
theorem tuple_back {t sl : Addr} {its : Array Value} {vk : Value} {Q : Value → Shared → Prop} (ht : IsTup s.heap t its) (hs : s.heap.IsSliceOf sl .none .none vk) (pk : IsPart vk (some (-1)))
    (h : Q (.ref s.heap.objs.size) { s with heap := s.heap.push { cls := .type "tuple", data := .seq its.toList.reverse.toArray } }) (hz : its.size ≤ sizeLine) : wpAny (model prog w) A (getItem (.ref t) (.ref sl)) Q E s := by
  have fits : sizeOk (.seq its.toList.reverse.toArray) := by
    show its.toList.reverse.toArray.size ≤ sizeLine
    simpa using hz
  have cls : s.TypeIs (.ref sl) "slice" := hs.elim fun os h => ⟨os, h.1, h.2.1⟩
  unfold getItem
  refine wpAny_holding (wpAny_bind (wpAny_sequenceKey ht.typeIs (by decide) (wpAny_bind (wpAny_callSpecial?_slot (name := Str.ofString "__getitem__") ht.typeIs PyProof.Rows.slot_tuple_getitem
    (wpAny_call_entry PyProof.Rows.slot_tuple_getitem ht.typeIs entry_tuple_getitem ?_ (args_tuple_getitem _ _))))))
  show wpAny _ _ (Builtin.Tuple.tupleItemsOf (.ref t) >>= _) _ _ s
  refine wpAny_bind (tupleItemsOf_ ht (wpAny_bind (wpAny_typeOf cls ?_)))
  rw [if_pos (by decide)]
  refine wpAny_bind (cut_back hs pk ?_)
  show wpAny _ _ (if (((its.size : Int) - 1 == 0 && (-1 : Int) == 1 && its.size == its.size)) = true then _ else _) _ _ s
  rw [if_neg (by simp), picks_back]
  first
    | exact wpAny_bind (m := Builtin.Tuple.tupleExact _) (wpAny_newObj_type (wpAny_pure ⟨_, rfl, wpAny_pure h⟩) fits)
    | exact wpAny_bind (m := Builtin.Tuple.tupleExact _) (wpAny_newObj_type (wpAny_bind (wpAny_pure (wpAny_pure ⟨_, rfl, wpAny_pure h⟩))) fits)
    | exact wpAny_bind (wpAny_bind (m := Builtin.Tuple.tupleExact _) (wpAny_newObj_type (wpAny_pure (wpAny_pure ⟨_, rfl, wpAny_pure h⟩)) fits))
end
section
variable {X : Cx} {e : Expr} {te : TE}
/-- xs[::-1]: a new list, or a new tuple -/
def rBack (K : PySem.W.Frag) : V → Hp → VK → Prop := fun x H1 Q => (∃ a xs, x = .ref a ∧ SqL K H1 a xs ∧ ∀ p, H1 p = none → Q (.ref p) (upd H1 p (.lst xs.reverse))) ∨
  ∃ a xs, x = .ref a ∧ SqT K H1 a xs ∧ ∀ p, H1 p = none → Q (.ref p) (upd H1 p (.tup xs.reverse))
def tBack (K : PySem.W.Frag) (te : TE) : TE := tUn (rBack K) te
theorem pe_back {k : Nat} {p1 p2 p3 pos : Pos} (he : PE X e te) : PE X (.Subscript e (.Slice none none (some (.UnaryOp .USub (.Constant (.int 1) k p1) p2)) p3) pos) (tBack X.K te) := by
  refine ⟨fun pins s σ H Q I h => Subscript_ (thn (he.run pins s σ H _ I h) fun v s1 ⟨x, H1, I1, r1, q1⟩ => ?_)⟩
  have turn : PO X (some (.UnaryOp .USub (.Constant (.int 1) k p1) p2)) (tPart (tUn (rU fun i => .int (-i)) (tC (.int 1)))) := po_some (pe_un un_neg pe_int)
  refine wpAny_Slice (thn (po_none.run pins s1 σ H1 (fun o H2 => o = none ∧ H2 = H1) I1 ⟨rfl, rfl⟩) fun vl s2 ⟨l, H2, I2, pl, el, e2⟩ => ?_)
  subst el e2
  refine thn (po_none.run pins s2 σ H2 (fun o H3 => o = none ∧ H3 = H2) I2 ⟨rfl, rfl⟩) fun vu s3 ⟨u, H3, I3, pu, eu, e3⟩ => ?_
  subst eu e3
  refine thn (turn.run pins s3 σ H3 (fun o H4 => o = some (-1) ∧ H4 = H3) I3 ⟨1, rfl, -1, rfl, rfl, rfl⟩) fun vs s4 ⟨o, H4, I4, ps, eo, e4⟩ => ?_
  subst eo e4
  have I5 : Inv X pins σ H4 { s4 with heap := s4.heap.push { cls := .type "slice", data := .fields #[vl, vu, vs] } } := I4.kept (t' := s4.toks) fun b ob q => Heap.get?_push_of_some _ q
  cases pl
  cases pu
  show wpAny (model X.prog X.w) X.A (subscriptTail e (.Slice none none (some (.UnaryOp .USub (.Constant (.int 1) k p1) p2)) p3) v (.ref s4.heap.objs.size)) (EP X pins σ Q) X.xe { s4 with heap := s4.heap.push { cls := .type "slice", data := .fields #[Value.none, Value.none, vs] } }
  rcases q1 with ⟨a, xs, ex, hx, q⟩ | ⟨a, xs, ex, hx, q⟩
  · subst ex
    cases r1
    obtain ⟨its, r, ht, hz⟩ := I5.list hx
    have hlen := r.length
    refine tail_any (ops := [.ref a, .ref s4.heap.objs.size]) ht.isList.typeIs (PySem.slot_list_getitem.lookup) ?_ (by with_unfolding_all rfl)
    refine wpAny_getItem_list_slice ht.isList (Heap.IsSliceOf.new _ .none .none vs) .none .none ps (by decide) ?_ (by rw [List.size_toArray]; omega)
    rw [PySem.W.krv_pick]
    exact ⟨.ref _, _, I5.laid (t' := s4.toks) (o := .lst xs.reverse) (fun b ob q => Heap.get?_push_of_some _ q) (Nat.le_refl _) ⟨by rw [List.length_reverse]; exact hz, _, 0, r.reverse, Heap.get?_push_size _ rfl⟩, rfl, q _ (I5.hok.fresh (Nat.le_refl _))⟩
  · subst ex
    cases r1
    obtain ⟨its, r, ht, hz⟩ := I5.tuple hx
    have hlen := r.length
    refine tail_any (ops := [.ref a, .ref s4.heap.objs.size]) ht.typeIs (PyProof.Rows.slot_tuple_getitem.lookup) ?_ (by with_unfolding_all rfl)
    refine tuple_back ht (Heap.IsSliceOf.new _ .none .none vs) ps ?_ (by rw [List.size_toArray]; omega)
    exact ⟨.ref _, _, I5.laid (t' := s4.toks) (o := .tup xs.reverse) (fun b ob q => Heap.get?_push_of_some _ q) (Nat.le_refl _) ⟨by rw [List.length_reverse]; exact hz, _, r.reverse, IsTup.new _ _⟩, rfl, q _ (I5.hok.fresh (Nat.le_refl _))⟩
end

def opBack : D → Option D
  | .lst xs => some (.lst xs.reverse)
  | .tup xs => some (.tup xs.reverse)
  | _ => none
theorem Reps.back {K : PySem.W.Frag} {H : Hp} : ∀ {ds : List D} {vs : List V} {fp : List Addr}, Reps K H ds vs fp → ∃ g, Reps K H ds.reverse vs.reverse g ∧ ∀ b ∈ g, b ∈ fp
  | _, _, _, .nil => ⟨[], .nil, fun _ z => nomatch z⟩
  | _, _, _, .cons (f := f) (g := g0) r t => by
    obtain ⟨g, r2, sub⟩ := Reps.back t
    have e : ∀ b ∈ g ++ (f ++ []), b ∈ f ++ g0 := fun b hb => by
      rw [List.append_nil] at hb
      exact (List.mem_append.mp hb).elim (fun q => List.mem_append_right _ (sub b q)) (List.mem_append_left _)
    refine ⟨g ++ (f ++ []), ?_, e⟩
    rw [List.reverse_cons, List.reverse_cons]
    exact r2.append (.cons r .nil)
theorem opBack_dep {d z : D} {k : Nat} (h : opBack d = some z) (hd : mdep d ≤ k) : mdep z ≤ k := by
  cases d with
  | lst xs =>
    cases h
    have := le_mdep_lst (ds := xs.reverse) fun x hx => mdep_lst_le hd x (List.mem_reverse.mp hx)
    have p : 1 ≤ mdep (.lst xs) := by unfold mdep; omega
    omega
  | tup xs =>
    cases h
    refine Nat.le_trans (le_mdep_tup (ds := xs.reverse) fun x hx => mdep_tup_le hd x (List.mem_reverse.mp hx)) ?_
    split <;> omega
  | _ => cases h
section
variable {X : Cx} {G : List Mode} {e : Expr} {m : RM} {M : List Nat} {f : Ev → Option (D × Ev)} {g : Ev → Option D} {pos : Pos}
theorem vr_back {K : PySem.W.Frag} : VR1 K (rBack K) opBack true := fun H x d fp z Q sz r h q => by
  cases d with
  | lst xs =>
    cases h
    cases r with
    | @lst a ws _ g h5 r5 =>
      obtain ⟨g', r6, sub⟩ := r5.back
      refine .inl ⟨a, ws, rfl, SqL.of h5, fun p n => ?_⟩
      have hz : ws.reverse.length ≤ sizeLine := by rw [List.length_reverse]; have := sz a _ h5; simpa [szO] using this
      refine q _ _ _ (Ext.upd n (szO_lst hz)) (new_lst r6 n) (fun b hb => ?_) fun _ _ => fr_new (K := K) (H' := H) (d := .non) n
      rcases List.mem_cons.mp hb with e | hb
      · exact .inr (e ▸ n)
      · exact .inl (List.mem_cons_of_mem _ (sub b hb))
  | tup xs =>
    cases h
    cases r with
    | @tup a ws _ g h5 r5 =>
      obtain ⟨g', r6, sub⟩ := r5.back
      refine .inr ⟨a, ws, rfl, SqT.of h5, fun p n => ?_⟩
      have hz : ws.reverse.length ≤ sizeLine := by rw [List.length_reverse]; have := sz a _ h5; simpa [szO] using this
      exact q _ _ _ (Ext.upd n (szO_tup hz)) (new_tup r6 n) (fun b hb => .inl (sub b hb)) fun _ _ => fr_new (K := K) (H' := H) (d := .non) n
  | _ => cases h
/-- the mode of what a slice gives -/
abbrev slcM (m : RM) : RM := if m.k = 0 then .vw 0 [] else if m.k ≤ 1 then .ow 1 else .vw m.k m.rs
theorem slc_fit {m : RM} {z : D} (h : mdep z ≤ m.k) : mdep z ≤ (slcM m).k := by
  unfold slcM
  split
  · rename_i h0; rw [h0] at h; exact h
  · split
    · rename_i h1; exact Nat.le_trans h h1
    · exact h
theorem slc_md {m : RM} : (slcM m).k = 0 ∨ (∃ k, slcM m = .vw k m.rs) ∨ (slcM m = .ow 1 ∧ true = true) := by
  unfold slcM
  split
  · exact .inl rfl
  · split
    · exact .inr (.inr ⟨rfl, rfl⟩)
    · exact .inr (.inl ⟨_, rfl⟩)
theorem de_back {k : Nat} {p1 p2 p3 : Pos} (A : DE X G e m M f) : DE X G (.Subscript e (.Slice none none (some (.UnaryOp .USub (.Constant (.int 1) k p1) p2)) p3) pos) (slcM m) M (un1 opBack f) := by
  obtain ⟨ta, pa, run⟩ := un_run vr_back A (slcM m) (fun d z hd hz => slc_fit (opBack_dep hz hd)) slc_md
  exact ⟨A.hM, _, pe_back pa, run⟩
theorem pd_back {k : Nat} {p1 p2 p3 : Pos} (A : PD X G e m g) : PD X G (.Subscript e (.Slice none none (some (.UnaryOp .USub (.Constant (.int 1) k p1) p2)) p3) pos) (slcM m) (eUn opBack g) := (de_back A).congr un1_lift
end
/-! ### one meaning, several depths -/
def ioSame : List PM → List PM → Bool
  | [], [] => true
  | .fz _ :: ps, .fz _ :: qs => ioSame ps qs
  | .io _ :: ps, .io _ :: qs => ioSame ps qs
  | _, _ => false
theorem outP_same : ∀ {ps qs : List PM}, ioSame ps qs = true → ∀ (ds : List D) (s : Ev), outP ps ds s = outP qs ds s
  | [], [], _, _, _ => rfl
  | .fz _ :: ps, .fz _ :: qs, h, [], s => by cases s <;> rfl
  | .fz _ :: ps, .fz _ :: qs, h, d :: ds, [] => rfl
  | .fz _ :: ps, .fz _ :: qs, h, d :: ds, _ :: s => by
    show d :: outP ps ds s = d :: outP qs ds s
    rw [outP_same (ps := ps) (qs := qs) h ds s]
  | .io _ :: ps, .io _ :: qs, h, [], s => by cases s <;> rfl
  | .io _ :: ps, .io _ :: qs, h, d :: ds, [] => rfl
  | .io _ :: ps, .io _ :: qs, h, d :: ds, o :: s => by
    show o.getD d :: outP ps ds s = o.getD d :: outP qs ds s
    rw [outP_same (ps := ps) (qs := qs) h ds s]
theorem runD_same {ps qs : List PM} (h : ioSame ps qs = true) {n : Nat} {F0 : Ev → Option Fl} {ds : List D} : runD ps n F0 ds = runD qs n F0 ds := by
  unfold runD
  simp only [outP_same h]
end Dw
set_option maxHeartbeats 1000000
/-! Dx, part B: a, b = x, y (two or three names). -/
namespace Dw
open PySem PySem.Spec PyProof.Rows L2

def setVs : List Nat → List V → L2.St → L2.St
  | i :: is, v :: vs, σ => setVs is vs (σ.set i (some v))
  | _, _, σ => σ
def gsSets : List Nat → List D → Ev → Option Ev
  | [] => gsNil
  | i :: is => gsCons (gSet i) (gsSets is)
def setGs (m : RM) : List Nat → List Mode → List Mode
  | [], G => G
  | i :: is, G => setGs m is (G.set i (toM m))
def okSets : List Nat → List Mode → Bool
  | [], _ => true
  | i :: is, G => decide (i < G.length) && notLk (md G i) && okSets is G
theorem set_gpost {G : List Mode} {fs : Nat → List Addr} {fp : List Addr} {m : RM} {i : Nat} (hi : i < G.length) (hk : notLk (md G i) = true) : GPost G fs fp m (G.set i (toM m)) (fset fs i fp) := by
  refine ⟨fun j => ?_, fun j k e => ?_⟩
  · rw [md_set hi]
    unfold fset
    by_cases e : j = i
    · subst e
      rw [if_pos rfl, if_pos rfl]
      refine .inr ⟨fun a ha => ha, fun ho => ?_⟩
      cases m with
      | vw k rs => cases ho
      | ow k => exact ⟨k, rfl⟩
    · rw [if_neg e, if_neg e]; exact .inl ⟨rfl, rfl⟩
  · have ne : j ≠ i := fun z => by subst z; rw [e] at hk; cases hk
    rw [md_set hi]
    unfold fset
    rw [if_neg ne, if_neg ne]
    exact ⟨e, rfl⟩
theorem notLk_toM {m : RM} : notLk (toM m) = true := by
  cases m with
  | vw k rs => rfl
  | ow k => cases k <;> rfl
theorem okSets_set {m : RM} {i : Nat} : ∀ {is : List Nat} {G : List Mode}, okSets is G = true → okSets is (G.set i (toM m)) = true
  | [], _, _ => rfl
  | j :: is, G, h => by
    unfold okSets at h ⊢
    simp only [Bool.and_eq_true, decide_eq_true_eq] at h ⊢
    obtain ⟨⟨h1, h2⟩, h3⟩ := h
    refine ⟨⟨by rw [List.length_set]; exact h1, ?_⟩, okSets_set h3⟩
    by_cases hi : i < G.length
    · rw [md_set hi]
      split
      · exact notLk_toM
      · exact h2
    · rw [List.set_eq_of_length_le (by omega)]; exact h2
theorem sets_run {K : PySem.W.Frag} {m : RM} {H : Hp} : ∀ {is : List Nat} {G : List Mode} {sl sl' : Ev} {σ : L2.St} {fs : Nat → List Addr} {ds : List D} {vs : List V} {fp : List Addr}, SR K G sl σ H fs → gsSets is ds sl = some sl' → Reps K H ds vs fp → (∀ d ∈ ds, mdep d ≤ m.k) → GOk G fs fp m → okSets is G = true →
    ∃ fs', SR K (setGs m is G) sl' (setVs is vs σ) H fs' ∧ GPost G fs fp m (setGs m is G) fs'
  | [], G, sl, sl', σ, fs, ds, vs, fp, S, h, r, hd, ok, hk => by
    cases ds with
    | nil => cases h; cases r; exact ⟨fs, S, fun j => .inl ⟨rfl, rfl⟩, fun j k e => ⟨e, rfl⟩⟩
    | cons _ _ => cases h
  | i :: is, G, sl, sl', σ, fs, ds, vs, fp, S, h, r, hd, ok, hk => by
    cases ds with
    | nil => cases h
    | cons d ds =>
      replace h : (gSet i d sl).bind (gsSets is ds) = some sl' := h
      unfold okSets at hk
      simp only [Bool.and_eq_true, decide_eq_true_eq] at hk
      obtain ⟨⟨hi, hl⟩, hk⟩ := hk
      unfold gSet at h
      split at h
      · rename_i hlt
        simp only [Option.bind_some] at h
        cases r with
        | @cons _ v f1 _ vs f2 r1 r2 =>
          have ok1 : GOk G fs f1 m := by
            cases m with
            | vw k rs => exact fun a ha j hj haj => ok a (List.mem_append_left _ ha) j hj haj
            | ow k => exact ⟨(List.nodup_append.mp ok.1).1, fun a ha => ok.2 a (List.mem_append_left _ ha)⟩
          have S1 := S.set ⟨r1, hd d List.mem_cons_self, ok1⟩ hi hlt
          have P1 : GPost G fs f1 m (G.set i (toM m)) (fset fs i f1) := set_gpost hi hl
          obtain ⟨fs2, S2, P2⟩ := sets_run (is := is) S1 h r2 (fun e he => hd e (List.mem_cons_of_mem _ he)) (by
            cases m with
            | vw k rs =>
              intro a ha j hj haj
              rcases P1.p1 j with ⟨e1, e2⟩ | ⟨_, z⟩
              · rw [e1] at hj; rw [e2] at haj
                exact ok a (List.mem_append_right _ ha) j hj haj
              · obtain ⟨k', e⟩ := z hj
                cases e
            | ow k =>
              refine ⟨(List.nodup_append.mp ok.1).2.1, fun a ha j hj haj => ?_⟩
              rcases P1.p1 j with ⟨e1, e2⟩ | ⟨z, _⟩
              · rw [e1] at hj; rw [e2] at haj
                exact ok.2 a (List.mem_append_right _ ha) j hj haj
              · exact (List.nodup_append.mp ok.1).2.2 a (z a haj) a ha rfl) (okSets_set hk)
          refine ⟨fs2, S2, fun j => ?_, fun j k e => ?_⟩
          · rcases P2.p1 j with ⟨e1, e2⟩ | ⟨z, z2⟩
            · rcases P1.p1 j with ⟨e3, e4⟩ | ⟨z, z2⟩
              · exact .inl ⟨e1.trans e3, e2.trans e4⟩
              · exact .inr ⟨fun a ha => List.mem_append_left _ (z a (by rw [← e2]; exact ha)), fun o => z2 (by rw [← e1]; exact o)⟩
            · exact .inr ⟨fun a ha => List.mem_append_right _ (z a ha), z2⟩
          · obtain ⟨e1, e2⟩ := P1.p2 j k e
            obtain ⟨e3, e4⟩ := P2.p2 j k e1
            exact ⟨e3, e4.trans e2⟩
      · cases h
/-- the values at once, then the names -/
def sPar (fr : Ev → Option (List D × Ev)) (is : List Nat) : Ev → Option Fl := fun sl => (fr sl).bind fun p => (gsSets is p.1 p.2).map .nx
/-- the mode of the parts -/
def parM (ms : List RM) : RM := if kMax ms = 0 then .vw 0 [] else .ow (kMax ms)
section
variable {X : Cx} {R : RetS} {G G1 Gb Gc : List Mode} {ms : List RM} {fr : Ev → Option (List D × Ev)} {pos : Pos}
theorem par_run {is : List Nat} {ta : TA} {sl : Ev} {σ : L2.St} {H : Hp} {fs : Nat → List Addr} {fl : Fl} {Dn : Ends} (rt : ∀ sl σ H fs ds sl' (Q : List V → Hp → Prop), SR X.K G sl σ H fs → fr sl = some (ds, sl') → (∀ vs H' fs' fps, OutVs X.K G σ H fs ms ds G1 sl' vs H' fs' fps → Q vs H') → ta σ H Q)
    (hk : okSets is G1 = true) (hfx : is.all (fun i => !R.fx.contains i) = true) (S : SR X.K G sl σ H fs) (h : sPar fr is sl = some fl) (P : Post X.K R G (setGs (parM ms) is G1) Gb Gc σ fs H Dn fl)
    (n : Nat) (hn : is.length = n) : ta σ H fun vs H1 => vs.length = n ∧ Dn.nx (setVs is vs σ) H1 := by
  unfold sPar at h
  obtain ⟨p, h1, h2⟩ := Option.bind_eq_some_iff.mp h
  obtain ⟨s2, h3, e⟩ := Option.map_eq_some_iff.mp h2
  obtain ⟨ds, s⟩ := p
  subst e
  refine rt sl σ H fs ds s _ S h1 fun vs H1 fs1 fps O => ?_
  have r := O.ga.reps
  have dep : ∀ d ∈ ds, mdep d ≤ (parM ms).k := fun d hd => by
    have := O.ga.dep d hd
    unfold parM
    split
    · rename_i h0; rw [h0] at this; exact this
    · exact this
  have gok : GOk G1 fs1 fps.flatten (parM ms) := by
    unfold parM
    split
    · rename_i h0
      rw [r.imm_of fun d hd => by have := O.ga.dep d hd; omega]
      exact fun _ z => nomatch z
    · exact ⟨O.nd, O.off⟩
  have len : ∀ {is : List Nat} {ds : List D} {s s2 : Ev}, gsSets is ds s = some s2 → ds.length = is.length := fun {is} => by
    induction is with
    | nil => intro ds s s2 h; cases ds with
      | nil => rfl
      | cons _ _ => cases h
    | cons i is ih => intro ds s s2 h; cases ds with
      | nil => cases h
      | cons d ds =>
        obtain ⟨s3, _, h4⟩ := Option.bind_eq_some_iff.mp (show (gSet i d s).bind (gsSets is ds) = some s2 from h)
        show ds.length + 1 = is.length + 1
        rw [ih h4]
  obtain ⟨fs2, S2, P2⟩ := sets_run O.sr h3 r dep gok hk
  have fxs : ∀ (is : List Nat) (vs : List V) (σ : L2.St), is.all (fun i => !R.fx.contains i) = true → Fx R σ (setVs is vs σ) := fun is => by
    induction is with
    | nil => intro vs σ _ j hj; rfl
    | cons i is ih =>
      intro vs σ h
      rw [List.all_cons, Bool.and_eq_true] at h
      cases vs with
      | nil => intro j hj; rfl
      | cons v vs =>
        intro j hj
        show (setVs is vs (σ.set i (some v)))[j]? = σ[j]?
        rw [ih vs _ h.2 j hj]
        exact fx_ne (by simpa using h.1) j hj
  refine ⟨by rw [← r.length, len h3, hn], ?_⟩
  have ts : TS G fs H (setGs (parM ms) is G1) fs2 H1 := {
    s1 := O.ts.s1
    s2 := O.ts.s2
    s3 := fun j hj a ha => by
      rcases P2.p1 j with ⟨e1, e2⟩ | ⟨z, ow⟩
      · exact O.ts.s3 j (by rw [← e1]; exact hj) a (by rw [← e2]; exact ha)
      · exact O.own a (z a ha)
    s5 := fun j hj a ha => by
      rcases P2.p1 j with ⟨e1, e2⟩ | ⟨z, _⟩
      · exact O.ts.s5 j (by rw [← e1]; exact hj) a (by rw [← e2]; exact ha)
      · exact own_kn (O.own a (z a ha))
    s4 := fun j k e => by
      obtain ⟨e1, e2⟩ := O.ts.s4 j k e
      obtain ⟨e3, e4⟩ := P2.p2 j k e1
      exact ⟨e3, e4.trans e2⟩ }
  exact P _ _ fs2 S2 ts (fxs is vs σ hfx)
theorem ds_par2 {i j : Nat} {x y : Str} {a b : Expr} {px py pt : Pos} {kt k2 pt2} (hc : X.calm = true) (hN : X.N.Nodup) (A : DVs X G [a, b] ms G1 fr) (hk : okSets [i, j] G1 = true) (hx : X.N[i]? = some x) (hy : X.N[j]? = some y) (hij : i ≠ j)
    (lx : X.env.scope.names.lookup x = some .local) (ly : X.env.scope.names.lookup y = some .local) (hw : swappedStores [.Tuple [.Name x px, .Name y py] kt pt] (.Tuple [a, b] k2 pt2) X.env = pure (some [x, y]))
    (hs : swapsWithSole [.Tuple [.Name x px, .Name y py] kt pt] (.Tuple [a, b] k2 pt2) pos.line X.env = pure false := by rfl) (hfx : [i, j].all (fun i => !R.fx.contains i) = true := by rfl) :
    DS X R G (.Assign [.Tuple [.Name x px, .Name y py] kt pt] (.Tuple [a, b] k2 pt2) pos) (setGs (parM ms) [i, j] G1) Gb Gc (sPar fr [i, j]) := by
  obtain ⟨t, pt', rt⟩ := A.run
  obtain ⟨ps⟩ := ps_par hc hN hx hy hij lx ly pt' hw hs
  refine ⟨fun D σ H => t σ H fun vs H1 => vs.length = 2 ∧ D.nx (setVs [i, j] vs σ) H1, ⟨fun pins s σ H D I h => ps pins s σ H D I ?_⟩, fun sl σ H fs fl Dn S h P => par_run rt hk hfx S h P 2 rfl⟩
  have mono : (fun (vs : List V) (H1 : Hp) => vs.length = 2 ∧ D.nx (setVs [i, j] vs σ) H1) = fun vs H1 => ∃ v w, vs = [v, w] ∧ D.nx ((σ.set i (some v)).set j (some w)) H1 := by
    funext vs H1
    refine propext ⟨fun ⟨e, q⟩ => ?_, fun ⟨v, w, e, q⟩ => by subst e; exact ⟨rfl, q⟩⟩
    match vs, e with
    | [v, w], _ => exact ⟨v, w, rfl, q⟩
  show t σ H fun vs H1 => ∃ v w, vs = [v, w] ∧ D.nx ((σ.set i (some v)).set j (some w)) H1
  rw [← mono]; exact h
theorem ds_par3 {i j l : Nat} {x y z : Str} {a b c : Expr} {px py pz pt : Pos} {kt k2 pt2} (hc : X.calm = true) (hN : X.N.Nodup) (A : DVs X G [a, b, c] ms G1 fr) (hk : okSets [i, j, l] G1 = true) (hx : X.N[i]? = some x) (hy : X.N[j]? = some y) (hz : X.N[l]? = some z) (hij : i ≠ j) (hil : i ≠ l) (hjl : j ≠ l)
    (lx : X.env.scope.names.lookup x = some .local) (ly : X.env.scope.names.lookup y = some .local) (lz : X.env.scope.names.lookup z = some .local) (hw : swappedStores [.Tuple [.Name x px, .Name y py, .Name z pz] kt pt] (.Tuple [a, b, c] k2 pt2) X.env = pure (some [x, y, z]))
    (hs : swapsWithSole [.Tuple [.Name x px, .Name y py, .Name z pz] kt pt] (.Tuple [a, b, c] k2 pt2) pos.line X.env = pure false := by rfl) (hfx : [i, j, l].all (fun i => !R.fx.contains i) = true := by rfl) :
    DS X R G (.Assign [.Tuple [.Name x px, .Name y py, .Name z pz] kt pt] (.Tuple [a, b, c] k2 pt2) pos) (setGs (parM ms) [i, j, l] G1) Gb Gc (sPar fr [i, j, l]) := by
  obtain ⟨t, pt', rt⟩ := A.run
  obtain ⟨ps⟩ := ps_par3 hc hN hx hy hz hij hil hjl lx ly lz pt' hw hs
  refine ⟨fun D σ H => t σ H fun vs H1 => vs.length = 3 ∧ D.nx (setVs [i, j, l] vs σ) H1, ⟨fun pins s σ H D I h => ps pins s σ H D I ?_⟩, fun sl σ H fs fl Dn S h P => par_run rt hk hfx S h P 3 rfl⟩
  have mono : (fun (vs : List V) (H1 : Hp) => vs.length = 3 ∧ D.nx (setVs [i, j, l] vs σ) H1) = fun vs H1 => ∃ u v w, vs = [u, v, w] ∧ D.nx (((σ.set i (some u)).set j (some v)).set l (some w)) H1 := by
    funext vs H1
    refine propext ⟨fun ⟨e, q⟩ => ?_, fun ⟨u, v, w, e, q⟩ => by subst e; exact ⟨rfl, q⟩⟩
    match vs, e with
    | [u, v, w], _ => exact ⟨u, v, w, rfl, q⟩
  show t σ H fun vs H1 => ∃ u v w, vs = [u, v, w] ∧ D.nx (((σ.set i (some u)).set j (some v)).set l (some w)) H1
  rw [← mono]; exact h
end
end Dw
set_option maxHeartbeats 1000000
/-! Dx, part C: comparisons in a chain. -/
namespace Dw
open PySem PySem.Spec PyProof.Rows L2

/-- what follows the first part of a chain, its value d told -/
structure CH (X : Cx) (G : List Mode) (ops : List CmpOp) (es : List Expr) (f : D → Ev → Option Bool) : Prop where
  val : ∀ pins s σ H sl fs d v u fp b (pos : Pos) (Q : VK), SR X.K G sl σ H fs → Inv X pins σ H s → RelV v u → Rep X.K H d v fp → f d sl = some b → (∀ H', Ext H H' → Q (.bl b) H') →
    wpAny (model X.prog X.w) X.A (compareChain pos u ops (evalEach es X.env)) (EP X pins σ Q) X.xe s
  tst : ∀ pins s σ H sl fs d v u fp b (pos : Pos) (Q : Bool → Hp → Prop), SR X.K G sl σ H fs → Inv X pins σ H s → RelV v u → Rep X.K H d v fp → f d sl = some b → (∀ H', Ext H H' → Q b H') →
    wpAny (model X.prog X.w) X.A (testChain pos u ops (evalEach es X.env)) (TP X pins σ Q) X.xe s
def cLast (op : D → D → Option D) (g : Ev → Option D) : D → Ev → Option Bool := fun d sl => (g sl).bind fun e => (op d e).bind truD
def cLink (op : D → D → Option D) (g : Ev → Option D) (f : D → Ev → Option Bool) : D → Ev → Option Bool := fun d sl => (g sl).bind fun e => ((op d e).bind truD).bind fun k => if k then f e sl else some false
def eCh (g : Ev → Option D) (f : D → Ev → Option Bool) : Ev → Option D := fun sl => (g sl).bind fun d => (f d sl).map .bl
def eChT (g : Ev → Option D) (f : D → Ev → Option Bool) : Ev → Option Bool := fun sl => (g sl).bind fun d => f d sl
section
variable {X : Cx} {G : List Mode} {a b c : Expr} {ma mb : RM} {ga gb : Ev → Option D} {fr : Bool} {pos : Pos} {op op2 : CmpOp} {ops : List CmpOp} {es : List Expr} {r : R2} {o : D → D → Option D} {f : D → Ev → Option Bool}
theorem ch_last (ho : OpR X (compareOp op) r) (hv : VR2 X.K r o fr) (bl : Bl2 o) (B : PD X G b mb gb) : CH X G [op] [b] (cLast o gb) := by
  obtain ⟨t, pt, rt⟩ := B.use
  refine ⟨fun pins s σ H sl fs d v u fp k pos Q S I rv rd hf hq => ?_, fun pins s σ H sl fs d v u fp k pos Q S I rv rd hf hq => ?_⟩ <;>
  (unfold cLast at hf
   obtain ⟨e, h1, h2⟩ := Option.bind_eq_some_iff.mp hf
   obtain ⟨z, h3, h4⟩ := Option.bind_eq_some_iff.mp h2
   obtain ⟨k', rfl⟩ := bl d e z h3
   cases h4)
  · refine chain_last (thn (pt.run pins s σ H (fun y H1 => ∃ fp, OutP X.K G H fs mb e y H1 fp) I (rt sl σ H fs e _ S h1 fun y H1 gp O => ⟨gp, O⟩)) fun w s1 ⟨y, H1, I1, r1, gp, O⟩ => ?_)
    refine ho pins s1 σ H1 v y u w Q I1 rv r1 (hv H1 v y d e fp gp _ Q (S.same O.same).sz (rd.same O.same.same) O.rep h3 fun x H2 hp E rz _ _ => ?_)
    cases rz
    exact hq H2 (O.same.trans E)
  · refine test_last (thn (pt.run pins s σ H (fun y H1 => ∃ fp, OutP X.K G H fs mb e y H1 fp) I (rt sl σ H fs e _ S h1 fun y H1 gp O => ⟨gp, O⟩)) fun w s1 ⟨y, H1, I1, r1, gp, O⟩ => ?_)
    refine thn (ho pins s1 σ H1 v y u w (fun x H2 => x = .bl k ∧ Ext H1 H2) I1 rv r1 (hv H1 v y d e fp gp _ _ (S.same O.same).sz (rd.same O.same.same) O.rep h3 fun x H2 hp E rz _ _ => by cases rz; exact ⟨rfl, E⟩)) fun c s2 ⟨x, H2, I2, r2, e2, E⟩ => ?_
    subst e2
    cases r2
    exact wpAny_truthy_bool ⟨H2, I2, hq H2 (O.same.trans E)⟩
theorem ch_link (ho : OpR X (compareOp op) r) (hv : VR2 X.K r o fr) (bl : Bl2 o) (B : PD X G b mb gb) (C : CH X G (op2 :: ops) (c :: es) f) : CH X G (op :: op2 :: ops) (b :: c :: es) (cLink o gb f) := by
  obtain ⟨t, pt, rt⟩ := B.use
  refine ⟨fun pins s σ H sl fs d v u fp k pos Q S I rv rd hf hq => ?_, fun pins s σ H sl fs d v u fp k pos Q S I rv rd hf hq => ?_⟩ <;>
  (unfold cLink at hf
   obtain ⟨e, h1, h2⟩ := Option.bind_eq_some_iff.mp hf
   obtain ⟨k1, h3, h4⟩ := Option.bind_eq_some_iff.mp h2
   obtain ⟨z, h5, h6⟩ := Option.bind_eq_some_iff.mp h3
   obtain ⟨k', rfl⟩ := bl d e z h5
   cases h6)
  · refine chain_link (thn (pt.run pins s σ H (fun y H1 => ∃ fp, OutP X.K G H fs mb e y H1 fp) I (rt sl σ H fs e _ S h1 fun y H1 gp O => ⟨gp, O⟩)) fun w s1 ⟨y, H1, I1, r1, gp, O⟩ => ?_)
    refine thn (ho pins s1 σ H1 v y u w (fun x H2 => x = .bl k1 ∧ Ext H1 H2) I1 rv r1 (hv H1 v y d e fp gp _ _ (S.same O.same).sz (rd.same O.same.same) O.rep h5 fun x H2 hp E rz _ _ => by cases rz; exact ⟨rfl, E⟩)) fun c s2 ⟨x, H2, I2, r2, e2, E⟩ => ?_
    subst e2
    cases r2
    refine wpAny_truthy_bool ?_
    cases k1 with
    | false =>
      cases h4
      exact ⟨.bl false, H2, I2, rfl, hq H2 (O.same.trans E)⟩
    | true => exact C.val pins s2 σ H2 sl fs e y w gp k pos Q (S.same (O.same.trans E)) I2 r1 (O.rep.same E.same) h4 fun H' E' => hq H' ((O.same.trans E).trans E')
  · refine test_link (thn (pt.run pins s σ H (fun y H1 => ∃ fp, OutP X.K G H fs mb e y H1 fp) I (rt sl σ H fs e _ S h1 fun y H1 gp O => ⟨gp, O⟩)) fun w s1 ⟨y, H1, I1, r1, gp, O⟩ => ?_)
    refine thn (ho pins s1 σ H1 v y u w (fun x H2 => x = .bl k1 ∧ Ext H1 H2) I1 rv r1 (hv H1 v y d e fp gp _ _ (S.same O.same).sz (rd.same O.same.same) O.rep h5 fun x H2 hp E rz _ _ => by cases rz; exact ⟨rfl, E⟩)) fun c s2 ⟨x, H2, I2, r2, e2, E⟩ => ?_
    subst e2
    cases r2
    refine wpAny_truthy_bool ?_
    cases k1 with
    | false =>
      cases h4
      exact ⟨H2, I2, hq H2 (O.same.trans E)⟩
    | true => exact C.tst pins s2 σ H2 sl fs e y w gp k pos Q (S.same (O.same.trans E)) I2 r1 (O.rep.same E.same) h4 fun H' E' => hq H' ((O.same.trans E).trans E')
theorem pd_chain (A : PD X G a ma ga) (C : CH X G (op :: op2 :: ops) (b :: c :: es) f) (hm : lastMarks (op :: op2 :: ops) (b :: c :: es) = false := by with_unfolding_all rfl) : PD X G (.Compare a (op :: op2 :: ops) (b :: c :: es) pos) (.vw 0 []) (eCh ga f) := by
  obtain ⟨t, pt, rt⟩ := A.use
  refine PD.mk ⟨fun σ H Q => ∃ sl fs d, SR X.K G sl σ H fs ∧ eCh ga f sl = some d ∧ ∀ v H' fp, OutP X.K G H fs (.vw 0 []) d v H' fp → Q v H', ⟨fun pins s σ H Q I ⟨sl, fs, d, S, hg, q⟩ => ?_⟩, fun sl σ H fs d Q S hg q => ⟨sl, fs, d, S, hg, q⟩⟩
  unfold eCh at hg
  obtain ⟨e, h1, h2⟩ := Option.bind_eq_some_iff.mp hg
  obtain ⟨k, h3, e2⟩ := Option.map_eq_some_iff.mp h2
  subst e2
  refine Compare_chain (thn (pt.run pins s σ H (fun y H1 => ∃ fp, OutP X.K G H fs ma e y H1 fp) I (rt sl σ H fs e _ S h1 fun y H1 gp O => ⟨gp, O⟩)) fun w s1 ⟨y, H1, I1, r1, gp, O⟩ => ?_) hm
  exact C.val pins s1 σ H1 sl fs e y w gp k pos Q (S.same O.same) I1 r1 O.rep h3 fun H' E => q _ H' [] ⟨O.same.trans E, .bl k, Nat.le_refl _, RMok.nil _⟩
theorem td_chain (A : PD X G a ma ga) (C : CH X G (op :: op2 :: ops) (b :: c :: es) f) (hm : lastMarks (op :: op2 :: ops) (b :: c :: es) = false := by with_unfolding_all rfl) : TD X G (.Compare a (op :: op2 :: ops) (b :: c :: es) pos) (eChT ga f) := by
  obtain ⟨t, pt, rt⟩ := A.use
  refine ⟨(fun _ z => nomatch z), fun σ H Q => ∃ sl fs d, SR X.K G sl σ H fs ∧ eChT ga f sl = some d ∧ ∀ H', Ext H H' → Q d H', ⟨fun pins s σ H Q I ⟨sl, fs, d, S, hg, q⟩ => ?_⟩, fun sl σ H fs d sl' Q S hg q => ?_⟩
  · unfold eChT at hg
    obtain ⟨e, h1, h3⟩ := Option.bind_eq_some_iff.mp hg
    refine isTrue_chain (thn (pt.run pins s σ H (fun y H1 => ∃ fp, OutP X.K G H fs ma e y H1 fp) I (rt sl σ H fs e _ S h1 fun y H1 gp O => ⟨gp, O⟩)) fun w s1 ⟨y, H1, I1, r1, gp, O⟩ => ?_) hm
    exact C.tst pins s1 σ H1 sl fs e y w gp d pos Q (S.same O.same) I1 r1 O.rep h3 fun H' E => q H' (O.same.trans E)
  · unfold liftB at hg
    obtain ⟨k, h1, e2⟩ := Option.map_eq_some_iff.mp hg
    cases e2
    exact ⟨sl, fs, d, S, h1, fun H' E => q H' fs (S.same E) (.pure E.same)⟩
/-- the parts by their operators -/
theorem cl_lt (B : PD X G b mb gb) : CH X G [.Lt] [b] (cLast opLt gb) := ch_last op_lt vr_lt bl_I B
theorem cl_le (B : PD X G b mb gb) : CH X G [.LtE] [b] (cLast opLe gb) := ch_last op_le vr_le bl_I B
theorem cl_gt (B : PD X G b mb gb) : CH X G [.Gt] [b] (cLast opGt gb) := ch_last op_gt vr_gt bl_I B
theorem cl_ge (B : PD X G b mb gb) : CH X G [.GtE] [b] (cLast opGe gb) := ch_last op_ge vr_ge bl_I B
theorem cl_eq (hu : X.A.units + 64 < cLine) (B : PD X G b mb gb) : CH X G [.Eq] [b] (cLast opEq gb) := ch_last (op_peq hu) vr_eq bl_eq B
theorem cl_ne (hu : X.A.units + 64 < cLine) (B : PD X G b mb gb) : CH X G [.NotEq] [b] (cLast opNe gb) := ch_last (op_pne hu) vr_ne bl_ne B
theorem ck_lt (B : PD X G b mb gb) (C : CH X G (op2 :: ops) (c :: es) f) : CH X G (.Lt :: op2 :: ops) (b :: c :: es) (cLink opLt gb f) := ch_link op_lt vr_lt bl_I B C
theorem ck_le (B : PD X G b mb gb) (C : CH X G (op2 :: ops) (c :: es) f) : CH X G (.LtE :: op2 :: ops) (b :: c :: es) (cLink opLe gb f) := ch_link op_le vr_le bl_I B C
theorem ck_gt (B : PD X G b mb gb) (C : CH X G (op2 :: ops) (c :: es) f) : CH X G (.Gt :: op2 :: ops) (b :: c :: es) (cLink opGt gb f) := ch_link op_gt vr_gt bl_I B C
theorem ck_ge (B : PD X G b mb gb) (C : CH X G (op2 :: ops) (c :: es) f) : CH X G (.GtE :: op2 :: ops) (b :: c :: es) (cLink opGe gb f) := ch_link op_ge vr_ge bl_I B C
theorem ck_eq (hu : X.A.units + 64 < cLine) (B : PD X G b mb gb) (C : CH X G (op2 :: ops) (c :: es) f) : CH X G (.Eq :: op2 :: ops) (b :: c :: es) (cLink opEq gb f) := ch_link (op_peq hu) vr_eq bl_eq B C
theorem ck_ne (hu : X.A.units + 64 < cLine) (B : PD X G b mb gb) (C : CH X G (op2 :: ops) (c :: es) f) : CH X G (.NotEq :: op2 :: ops) (b :: c :: es) (cLink opNe gb f) := ch_link (op_pne hu) vr_ne bl_ne B C
end
end Dw
set_option maxHeartbeats 1000000
/-! Dx, part D: what is walked: ranges with a step, zip, enumerate, reversed. -/
namespace Dw
open PySem PySem.Spec PyProof.Rows L2 RZ RT

section
variable {X : Cx} {G : List Mode} {tg a b c e : Expr} {ms : List RM} {m ma mb : RM} {M : List Nat} {fr : Ev → Option (List D × Ev)} {f : Ev → Option (D × Ev)} {p pos : Pos}
def opRg3 : List D → Option (List D)
  | [.int i, .int j, .int c] => if okR i && okR j && decide (c ≠ 0) && decide (c.natAbs ≤ 1000000) && Builtin.Range.small i j c && decide (0 ≤ Builtin.Range.rangeSize i j c) && decide (Builtin.Range.rangeSize i j c ≤ 16777216) then some (rngC i c (Builtin.Range.rangeSize i j c).toNat) else none
  | _ => none
theorem di_range3 (hg : Gl X "range") (hm : X.mg "range" = none) (R : DA X G [a, b, c] ms M fr) (hs : starEach [a, b, c] X.env = (false, eval a X.env) :: starEach [b, c] X.env := by rfl) (hpl : (backTo pos (starEach [b, c] X.env)).any (·.1) = false := by rfl) :
    DI X G tg (.Call (.Name "range" p) [a, b, c] [] pos) 0 [] M (iRg opRg3 fr) := by
  obtain ⟨t, pa, ra⟩ := R.run
  refine ⟨R.hM, _, pi_range3 hg hm pa hs hpl, fun sl σ H fs items sl' Q S hf hq => ?_⟩
  obtain ⟨ds, h1, h2⟩ := iRg_some hf
  refine ra sl σ H fs ds sl' _ S h1 fun vs H' fs' fps P => ?_
  unfold opRg3 at h2
  split at h2
  · rename_i i j k
    split at h2
    · rename_i hj
      cases h2
      simp only [Bool.and_eq_true, decide_eq_true_eq] at hj
      obtain ⟨⟨⟨⟨⟨⟨h1, h2⟩, h3⟩, h4⟩, h5⟩, h6⟩, h7⟩ := hj
      exact ⟨i, j, k, (Builtin.Range.rangeSize i j k).toNat, P.av.reps.ints3, ⟨h3, by omega, h5, by omega⟩, rng_fin P hq yl_rngC mdep_rngC⟩
    · cases h2
  · cases h2
/-! ### zip -/
def zipT (xs ys : List D) : List D := (xs.zip ys).map fun p => .tup [p.1, p.2]
def opZip : List D → Option (List D)
  | [.lst xs, .lst ys] => some (zipT xs ys)
  | [.tup xs, .tup ys] => some (zipT xs ys)
  | _ => none
/-- how deep a tuple of such parts is -/
def tupK (k : Nat) : Nat := if k = 0 then 0 else k + 1
theorem mdep_pair {d e : D} {k l : Nat} (h : mdep d ≤ k) (h2 : mdep e ≤ l) : mdep (.tup [d, e]) ≤ tupK (max k l) := by
  unfold tupK
  refine le_mdep_tup fun x hx => ?_
  simp at hx
  rcases hx with rfl | rfl <;> omega
theorem zipT_get {xs ys : List D} {i : Nat} {d : D} (h : (zipT xs ys)[i]? = some d) : ∃ x y, xs[i]? = some x ∧ ys[i]? = some y ∧ d = .tup [x, y] := by
  unfold zipT at h
  rw [List.getElem?_map] at h
  obtain ⟨p, h1, rfl⟩ := Option.map_eq_some_iff.mp h
  rw [List.getElem?_zip_eq_some] at h1
  exact ⟨_, _, h1.1, h1.2, rfl⟩
theorem zipT_len {xs ys : List D} : (zipT xs ys).length = min xs.length ys.length := by unfold zipT; simp
theorem ext_pair {H : Hp} {T : Addr} {x y : V} (h : H T = none) : Ext H (upd H T (.tup [x, y])) := Ext.upd h (szO_tup (by rw [sizeLine_eq]; show 2 ≤ _; decide))
theorem yl_zipL {K : PySem.W.Frag} {H0 : Hp} {xs ys : List D} {vs ws : List V} {a b : Addr} {fp gp : List Addr} (h : H0 a = some (.lst vs)) (r : Reps K H0 xs vs fp) (h2 : H0 b = some (.lst ws)) (r2 : Reps K H0 ys ws gp) : Yl K (Itz K a b) (zipT xs ys) ((a :: fp) ++ (b :: gp)) H0 := fun H k sz => by
  have ha : H a = some (.lst vs) := k a _ h fun _ => by simp
  have hb : H b = some (.lst ws) := k b _ h2 fun _ => by simp
  have rr : Reps K H xs vs fp := r.keep k fun c hc => by simp [hc]
  have rs : Reps K H ys ws gp := r2.keep k fun c hc => by simp [hc]
  refine ⟨fun i d hd => ?_, ⟨vs, ws, SqL.of ha, SqL.of hb, by rw [zipT_len, r.length, r2.length]; omega⟩⟩
  obtain ⟨x, y, hx, hy, rfl⟩ := zipT_get hd
  obtain ⟨v, f, h3, h4, h5⟩ := rr.get hx
  obtain ⟨w, g, h6, h7, h8⟩ := rs.get hy
  refine ⟨⟨vs, ws, v, w, SqL.of ha, SqL.of hb, h3, h6⟩, fun u H' y => ?_⟩
  obtain ⟨T, x', y', rfl, hT, rfl, q1, q2⟩ := y
  have e1 := q1 vs (SqL.of ha)
  rw [h3] at e1; cases e1
  have e2 := q2 ws (SqL.of hb)
  rw [h6] at e2; cases e2
  refine ⟨ext_pair hT, _, new_tup (.cons h4 (.cons h7 .nil)) hT, fun c hc => ?_⟩
  simp at hc ⊢
  rcases hc with hc | hc
  · exact .inr (.inl (h5 c hc))
  · exact .inr (.inr (.inr (h8 c hc)))
theorem yl_zipT {K : PySem.W.Frag} {H0 : Hp} {xs ys : List D} {vs ws : List V} {a b : Addr} {fp gp : List Addr} (h : H0 a = some (.tup vs)) (r : Reps K H0 xs vs fp) (h2 : H0 b = some (.tup ws)) (r2 : Reps K H0 ys ws gp) : Yl K (ItzT K a b) (zipT xs ys) (fp ++ gp) H0 := fun H k sz => by
  have ha : H a = some (.tup vs) := k a _ h fun z => nomatch z
  have hb : H b = some (.tup ws) := k b _ h2 fun z => nomatch z
  have rr : Reps K H xs vs fp := r.keep k fun c hc => by simp [hc]
  have rs : Reps K H ys ws gp := r2.keep k fun c hc => by simp [hc]
  refine ⟨fun i d hd => ?_, ⟨vs, ws, SqT.of ha, SqT.of hb, by rw [zipT_len, r.length, r2.length]; omega⟩⟩
  obtain ⟨x, y, hx, hy, rfl⟩ := zipT_get hd
  obtain ⟨v, f, h3, h4, h5⟩ := rr.get hx
  obtain ⟨w, g, h6, h7, h8⟩ := rs.get hy
  refine ⟨⟨vs, ws, v, w, SqT.of ha, SqT.of hb, h3, h6⟩, fun u H' y => ?_⟩
  obtain ⟨T, x', y', rfl, hT, rfl, q1, q2⟩ := y
  have e1 := q1 vs (SqT.of ha)
  rw [h3] at e1; cases e1
  have e2 := q2 ws (SqT.of hb)
  rw [h6] at e2; cases e2
  refine ⟨ext_pair hT, _, new_tup (.cons h4 (.cons h7 .nil)) hT, fun c hc => ?_⟩
  simp at hc ⊢
  rcases hc with hc | hc
  · exact .inl (h5 c hc)
  · exact .inr (h8 c hc)
theorem di_zip {elts : List Expr} {kk : Nat} {tpos : Pos} (hg : Gl X "zip") (hm : X.mg "zip" = none) (R : DA X G [a, b] [ma, mb] M fr) (hs : starEach [a, b] X.env = (false, eval a X.env) :: starEach [b] X.env := by rfl) (hpl : (backTo pos (starEach [b] X.env)).any (·.1) = false := by rfl) :
    DI X G (.Tuple elts kk tpos) (.Call (.Name "zip" p) [a, b] [] pos) (tupK (max (ma.k - 1) (mb.k - 1))) (ma.rs ++ mb.rs) M (iRg opZip fr) := by
  obtain ⟨t, pa, ra⟩ := R.run
  refine ⟨R.hM, _, pi_zipA hg hm pa hs hpl, fun sl σ H fs items sl' Q S hf hq => ?_⟩
  obtain ⟨ds, h1, h2⟩ := iRg_some hf
  refine ra sl σ H fs ds sl' _ S h1 fun vs H' fs' fps P => ?_
  have av := P.av
  cases av with
  | @cons _ d1 v1 f1 _ ds1 _ fps1 r1 k1 o1 av =>
    cases av with
    | @cons _ d2 v2 f2 _ ds2 _ fps2 r2 k2 o2 av =>
      cases av
      have fin : ∀ J ufp, Yl X.K J items ufp H' → (∀ c ∈ ufp, c ∈ f1 ∨ c ∈ f2) → (∀ d ∈ items, mdep d ≤ tupK (max (ma.k - 1) (mb.k - 1))) → Q J H' := fun J ufp y sub dep =>
        hq J H' fs' ufp ⟨P.sr, P.tr, y, dep, fun c hc j hj hcj => by
          rcases sub c hc with q | q
          · exact List.mem_append_left _ (o1.rt c q j hj hcj)
          · exact List.mem_append_right _ (o2.rt c q j hj hcj), fun c hc => (sub c hc).elim (o1.kn R.hM c) (o2.kn R.hM c), fun c hc => (sub c hc).elim r1.alive r2.alive⟩
      have dz : ∀ {xs ys : List D}, (∀ d ∈ xs, mdep d ≤ ma.k - 1) → (∀ d ∈ ys, mdep d ≤ mb.k - 1) → ∀ d ∈ zipT xs ys, mdep d ≤ tupK (max (ma.k - 1) (mb.k - 1)) := fun {xs ys} hx hy d hd => by
        obtain ⟨i, hi⟩ := List.getElem?_of_mem hd
        obtain ⟨x, y, e1, e2, rfl⟩ := zipT_get hi
        exact mdep_pair (hx x (List.mem_of_getElem? e1)) (hy y (List.mem_of_getElem? e2))
      unfold opZip at h2
      split at h2
      · rename_i xs ys e
        simp only [List.cons.injEq, and_true] at e
        obtain ⟨rfl, rfl⟩ := e
        cases h2
        cases r1 with
        | lst h3 r3 =>
          cases r2 with
          | lst h4 r4 =>
            exact ⟨_, _, _, _, rfl, .inl ⟨SqL.of h3, SqL.of h4, fin _ _ (yl_zipL h3 r3 h4 r4) (fun c hc => List.mem_append.mp hc) (dz (mdep_lst_le k1) (mdep_lst_le k2))⟩⟩
      · rename_i xs ys e
        simp only [List.cons.injEq, and_true] at e
        obtain ⟨rfl, rfl⟩ := e
        cases h2
        cases r1 with
        | tup h3 r3 =>
          cases r2 with
          | tup h4 r4 =>
            exact ⟨_, _, _, _, rfl, .inr ⟨SqT.of h3, SqT.of h4, fin _ _ (yl_zipT h3 r3 h4 r4) (fun c hc => List.mem_append.mp hc) (dz (mdep_tup_le k1) (mdep_tup_le k2))⟩⟩
      · cases h2
/-! ### enumerate -/
def enumT (n : Nat) : List D → List D
  | [] => []
  | x :: xs => .tup [.int n, x] :: enumT (n + 1) xs
def opEnum : List D → Option (List D)
  | [.lst xs] => some (enumT 0 xs)
  | _ => none
theorem enumT_len : ∀ {n : Nat} {xs : List D}, (enumT n xs).length = xs.length
  | _, [] => rfl
  | n, x :: xs => by show (enumT (n + 1) xs).length + 1 = _; rw [enumT_len]; rfl
theorem enumT_get : ∀ {n : Nat} {xs : List D} {i : Nat} {d : D}, (enumT n xs)[i]? = some d → ∃ x, xs[i]? = some x ∧ d = .tup [.int (n + i : Nat), x]
  | _, [], i, d, h => by simp [enumT] at h
  | n, x :: xs, 0, d, h => by simp [enumT] at h; exact ⟨x, rfl, by rw [← h]; rfl⟩
  | n, x :: xs, i + 1, d, h => by
    obtain ⟨y, h1, h2⟩ := enumT_get (n := n + 1) (xs := xs) (i := i) (d := d) (by simpa [enumT] using h)
    exact ⟨y, by simpa using h1, by rw [h2, show n + 1 + i = n + (i + 1) by omega]⟩
theorem yl_enum {K : PySem.W.Frag} {H0 : Hp} {xs : List D} {vs : List V} {a : Addr} {fp : List Addr} (h : H0 a = some (.lst vs)) (r : Reps K H0 xs vs fp) : Yl K (Ite K a) (enumT 0 xs) (a :: fp) H0 := fun H k sz => by
  have ha : H a = some (.lst vs) := k a _ h fun _ => List.mem_cons_self
  have rr : Reps K H xs vs fp := r.keep k fun c hc => List.mem_cons_of_mem _ hc
  refine ⟨fun i d hd => ?_, ⟨vs, SqL.of ha, by rw [enumT_len, r.length]; exact Nat.le_refl _⟩⟩
  obtain ⟨x, hx, rfl⟩ := enumT_get hd
  obtain ⟨v, f, h3, h4, h5⟩ := rr.get hx
  refine ⟨⟨vs, v, SqL.of ha, h3⟩, fun u H' y => ?_⟩
  obtain ⟨T, x', rfl, hT, rfl, q1⟩ := y
  have e1 := q1 vs (SqL.of ha)
  rw [h3] at e1; cases e1
  rw [Nat.zero_add]
  refine ⟨ext_pair hT, _, new_tup (.cons (.int _) (.cons h4 .nil)) hT, fun c hc => ?_⟩
  simp at hc
  exact List.mem_cons_of_mem _ (h5 c hc)
theorem di_enum {elts : List Expr} {kk : Nat} {tpos : Pos} (hg : Gl X "enumerate") (hm : X.mg "enumerate" = none) (R : DA X G [e] [m] M fr) (hs : starEach [e] X.env = [(false, eval e X.env)] := by rfl) :
    DI X G (.Tuple elts kk tpos) (.Call (.Name "enumerate" p) [e] [] pos) (tupK (m.k - 1)) m.rs M (iRg opEnum fr) := by
  obtain ⟨t, pa, ra⟩ := R.run
  refine ⟨R.hM, _, pi_enum hg hm pa hs, fun sl σ H fs items sl' Q S hf hq => ?_⟩
  obtain ⟨ds, h1, h2⟩ := iRg_some hf
  refine ra sl σ H fs ds sl' _ S h1 fun vs H' fs' fps P => ?_
  have av := P.av
  cases av with
  | @cons _ d1 v1 f1 _ ds1 _ fps1 r1 k1 o1 av =>
    cases av
    unfold opEnum at h2
    split at h2
    · rename_i xs e
      simp only [List.cons.injEq, and_true] at e
      subst e
      cases h2
      cases r1 with
      | @lst a ws _ g h3 r3 =>
        refine ⟨_, _, rfl, SqL.of h3, hq _ H' fs' _ ⟨P.sr, P.tr, yl_enum h3 r3, fun d hd => ?_, fun c hc => o1.rt c hc, fun c hc => o1.kn R.hM c hc, fun c hc => (Rep.lst h3 r3).alive hc⟩⟩
        obtain ⟨i, hi⟩ := List.getElem?_of_mem hd
        obtain ⟨x, e1, rfl⟩ := enumT_get hi
        have := mdep_pair (d := .int (0 + i : Nat)) (k := 0) (Nat.zero_le _) (mdep_lst_le k1 x (List.mem_of_getElem? e1))
        rwa [Nat.zero_max] at this
    · cases h2
/-! ### reversed -/
def opRev : D → Option (List D)
  | .lst xs => some xs.reverse
  | .tup xs => some xs.reverse
  | _ => none
def iRv (f : Ev → Option (D × Ev)) : Ev → Option (List D × Ev) := fun sl => (f sl).bind fun p => (opRev p.1).map fun ds => (ds, p.2)
def eRv (g : Ev → Option D) : Ev → Option (List D) := fun sl => (g sl).bind opRev
theorem iRv_lift {g : Ev → Option D} : liftL (eRv g) = iRv (lift g) := by
  funext sl
  unfold liftL eRv iRv lift
  cases h : g sl with
  | none => simp [h]
  | some a => simp [h]
theorem yl_revL {K : PySem.W.Frag} {H0 : Hp} {ds : List D} {vs : List V} {a : Addr} {fp : List Addr} (h : H0 a = some (.lst vs)) (r : Reps K H0 ds vs fp) : Yl K (Itv K a vs.length) ds.reverse (a :: fp) H0 := fun H k sz => by
  have ha : H a = some (.lst vs) := k a _ h fun _ => List.mem_cons_self
  have rr : Reps K H ds vs fp := r.keep k fun b hb => List.mem_cons_of_mem _ hb
  refine ⟨fun i d hd => ?_, by rw [List.length_reverse, r.length]; exact Nat.le_refl _⟩
  have hi : i < ds.length := by have := (List.getElem?_eq_some_iff.mp hd).1; rw [List.length_reverse] at this; exact this
  rw [List.getElem?_reverse hi] at hd
  obtain ⟨v, f, h1, h2, h3⟩ := rr.get hd
  rw [r.length] at h1 hi
  refine ⟨⟨hi, vs, v, SqL.of ha, by rw [show vs.length - 1 - i = vs.length - 1 - i from rfl]; exact h1⟩, fun x H' y => ?_⟩
  obtain ⟨rfl, y⟩ := y
  have e := y vs (SqL.of ha)
  rw [h1] at e; cases e
  exact ⟨Ext.refl _, f, h2, fun b hb => List.mem_cons_of_mem _ (h3 b hb)⟩
theorem yl_revT {K : PySem.W.Frag} {H0 : Hp} {ds : List D} {vs : List V} {a : Addr} {fp : List Addr} (h : H0 a = some (.tup vs)) (r : Reps K H0 ds vs fp) : Yl K (ItvT K a vs.length) ds.reverse fp H0 := fun H k sz => by
  have ha : H a = some (.tup vs) := k a _ h fun z => nomatch z
  have rr : Reps K H ds vs fp := r.keep k fun b hb => hb
  refine ⟨fun i d hd => ?_, by rw [List.length_reverse, r.length]; exact Nat.le_refl _⟩
  have hi : i < ds.length := by have := (List.getElem?_eq_some_iff.mp hd).1; rw [List.length_reverse] at this; exact this
  rw [List.getElem?_reverse hi] at hd
  obtain ⟨v, f, h1, h2, h3⟩ := rr.get hd
  rw [r.length] at h1 hi
  refine ⟨⟨hi, vs, v, SqT.of ha, h1⟩, fun x H' y => ?_⟩
  obtain ⟨rfl, y⟩ := y
  have e := y vs (SqT.of ha)
  rw [h1] at e; cases e
  exact ⟨Ext.refl _, f, h2, h3⟩
theorem di_rev (hg : Gl X "reversed") (hm : X.mg "reversed" = none) (A : DE X G e m M f) (hs : starEach [e] X.env = (false, eval e X.env) :: starEach [] X.env := by rfl) : DI X G tg (.Call (.Name "reversed" p) [e] [] pos) (m.k - 1) m.rs M (iRv f) := by
  obtain ⟨t, pt, rt⟩ := A.run
  refine ⟨A.hM, _, pi_revA hg hm pt hs, fun sl σ H fs items sl' R S hf hq => ?_⟩
  unfold iRv at hf
  obtain ⟨q, h1, h2⟩ := Option.bind_eq_some_iff.mp hf
  obtain ⟨d, s⟩ := q
  obtain ⟨ds, h3, e⟩ := Option.map_eq_some_iff.mp h2
  replace h3 : opRev d = some ds := h3
  replace e : (ds, s) = (items, sl') := e
  simp only [Prod.mk.injEq] at e
  obtain ⟨rfl, rfl⟩ := e
  refine rt sl σ H fs d s _ S h1 fun v H' fs' fp O => ?_
  have rp := O.rep
  have dp := O.dep
  have fin : ∀ J ufp, Yl X.K J ds ufp H' → (∀ a ∈ ufp, a ∈ fp) → (∀ d ∈ ds, mdep d ≤ m.k - 1) → R J H' := fun J ufp y sub dep =>
    hq J H' fs' ufp ⟨O.sr, O.tr, y, dep, fun a ha => O.ok.rt a (sub a ha), fun a ha => O.ok.kn A.hM a (sub a ha), fun a ha => O.rep.alive (sub a ha)⟩
  unfold opRev at h3
  split at h3
  · cases h3
    cases rp with
    | lst h4 r4 => exact ⟨_, _, rfl, .inl ⟨SqL.of h4, fin _ _ (yl_revL h4 r4) (fun _ h => h) fun d hd => mdep_lst_le dp d (List.mem_reverse.mp hd)⟩⟩
  · cases h3
    cases rp with
    | tup h4 r4 => exact ⟨_, _, rfl, .inr ⟨SqT.of h4, fin _ _ (yl_revT h4 r4) (fun _ h => h) fun d hd => mdep_tup_le dp d (List.mem_reverse.mp hd)⟩⟩
  · cases h3
end
section
variable {X : Cx} {G : List Mode} {tg a b c e : Expr} {m ma mb mc : RM} {ga gb gc g : Ev → Option D} {p pos : Pos}
theorem id_range3 (hg : Gl X "range") (hm : X.mg "range" = none) (A : PD X G a ma ga) (B : PD X G b mb gb) (C : PD X G c mc gc) (hs : starEach [a, b, c] X.env = (false, eval a X.env) :: starEach [b, c] X.env := by rfl) (hpl : (backTo pos (starEach [b, c] X.env)).any (·.1) = false := by rfl)
    (he2 : starEach [b, c] X.env = (false, eval b X.env) :: starEach [c] X.env := by rfl) (he3 : starEach [c] X.env = (false, eval c X.env) :: starEach [] X.env := by rfl) : ID X G tg (.Call (.Name "range" p) [a, b, c] [] pos) 0 [] (eRg opRg3 (eCons ga (eCons gb (eCons gc eNil)))) :=
  (di_range3 hg hm (pl_cons A (pl_cons B (pl_cons C pl_nil he3) he2) hs) hs hpl).congr iRg_lift
theorem id_zip {elts : List Expr} {kk : Nat} {tpos : Pos} (hg : Gl X "zip") (hm : X.mg "zip" = none) (A : PD X G a ma ga) (B : PD X G b mb gb) (hs : starEach [a, b] X.env = (false, eval a X.env) :: starEach [b] X.env := by rfl) (hpl : (backTo pos (starEach [b] X.env)).any (·.1) = false := by rfl)
    (he2 : starEach [b] X.env = (false, eval b X.env) :: starEach [] X.env := by rfl) : ID X G (.Tuple elts kk tpos) (.Call (.Name "zip" p) [a, b] [] pos) (tupK (max (ma.k - 1) (mb.k - 1))) (ma.rs ++ mb.rs) (eRg opZip (eCons ga (eCons gb eNil))) :=
  (di_zip hg hm (pl_cons A (pl_cons B pl_nil he2) hs) hs hpl).congr iRg_lift
theorem id_enum {elts : List Expr} {kk : Nat} {tpos : Pos} (hg : Gl X "enumerate") (hm : X.mg "enumerate" = none) (A : PD X G e m g) (hs : starEach [e] X.env = [(false, eval e X.env)] := by rfl) (he2 : starEach [e] X.env = (false, eval e X.env) :: starEach [] X.env := by rfl) :
    ID X G (.Tuple elts kk tpos) (.Call (.Name "enumerate" p) [e] [] pos) (tupK (m.k - 1)) m.rs (eRg opEnum (eCons g eNil)) := (di_enum hg hm (pl_cons A pl_nil he2) hs).congr iRg_lift
theorem id_rev (hg : Gl X "reversed") (hm : X.mg "reversed" = none) (A : PD X G e m g) (hs : starEach [e] X.env = (false, eval e X.env) :: starEach [] X.env := by rfl) : ID X G tg (.Call (.Name "reversed" p) [e] [] pos) (m.k - 1) m.rs (eRv g) := (di_rev hg hm A hs).congr iRv_lift
end
end Dw
set_option maxHeartbeats 1000000
/-! Dx, part E: list(range(a, b)), tuple(range(..)). -/
namespace Dw
open PySem PySem.Spec PyProof.Rows L2
def opTR1 : List D → Option D
  | [.int j] => if okR j then some (.tup (rngD 0 j.toNat)) else none
  | _ => none
def opTR2 : List D → Option D
  | [.int i, .int j] => if okR i && okR j && decide ((j - i).toNat ≤ 16777216) then some (.tup (rngD i (j - i).toNat)) else none
  | _ => none
section
variable {X : Cx} {G : List Mode} {a b : Expr} {ma mb : RM} {ga gb : Ev → Option D} {p p2 pos pos2 : Pos}
theorem rg_len {i j : Int} (hz : (j - i).toNat ≤ 16777216) : (rgV i j).length ≤ sizeLine := by rw [rgV_length, sizeLine_eq]; exact hz
theorem pd_listRg2 (hc : X.calm = true) (hgL : Gl X "list") (hmL : X.mg "list" = none) (hgR : Gl X "range") (hmR : X.mg "range" = none) (A : PD X G a ma ga) (B : PD X G b mb gb)
    (na : starEach [a, b] X.env = (false, eval a X.env) :: starEach [b] X.env := by rfl) (nb : starEach [b] X.env = (false, eval b X.env) :: starEach [] X.env := by rfl) (hp : (backTo pos2 (starEach [b] X.env)).any (·.1) = false := by rfl)
    (na2 : starEach [.Call (.Name "range" p2) [a, b] [] pos2] X.env = (false, eval (.Call (.Name "range" p2) [a, b] [] pos2) X.env) :: starEach [] X.env := by rfl) : PD X G (.Call (.Name "list" p) [.Call (.Name "range" p2) [a, b] [] pos2] [] pos) (.ow 1) (eN opLR2 (eCons ga (eCons gb eNil))) := by
  obtain ⟨ta, pa, ra⟩ := A.use
  obtain ⟨tb, pb, rb⟩ := B.use
  refine PD.mk ⟨_, pe_listRg hc hgL hmL (prg_2 hgR hmR pa pb na nb hp) na2, fun sl σ H fs d Q S hg hq => ?_⟩
  unfold eN eCons eNil at hg
  obtain ⟨ds, h1, h2⟩ := Option.bind_eq_some_iff.mp hg
  obtain ⟨x, h3, h4⟩ := Option.bind_eq_some_iff.mp h1
  obtain ⟨r, h5, e⟩ := Option.map_eq_some_iff.mp h4
  obtain ⟨y, h6, h7⟩ := Option.bind_eq_some_iff.mp h5
  cases h7
  subst e
  refine ra sl σ H fs x _ S h3 fun v H1 f1 O1 => rb sl σ H1 fs y _ (S.same O1.same) h6 fun w H2 f2 O2 => ?_
  unfold opLR2 at h2
  split at h2
  · rename_i i j e
    simp only [List.cons.injEq, and_true] at e
    obtain ⟨rfl, rfl⟩ := e
    split at h2
    · rename_i hj
      cases h2
      simp only [Bool.and_eq_true, decide_eq_true_eq] at hj
      obtain ⟨b1, b2⟩ := okR_b hj.1.1
      obtain ⟨b3, b4⟩ := okR_b hj.1.2
      have r1 := O1.rep
      have r2 := O2.rep
      cases r1
      cases r2
      refine ⟨i, j, rfl, rfl, ⟨by omega, by omega, by omega, by omega, by omega⟩, fun q hn => ?_⟩
      have rr : Reps X.K H2 (rngD i (j - i).toNat) (rgV i j) [] := rgV_rep
      have E : Ext H2 (upd H2 q (.lst (rgV i j))) := Ext.upd hn (szO_lst (rg_len hj.2))
      have S2 := (S.same O1.same).same O2.same
      have ok := ok_own (K := X.K) (G := G) (M := []) (H := H2) S2 (.pure (Same.refl H2)) (new_lst rr hn) (le_mdep_lst rngD_imm) (fr_new (K := X.K) (H' := H2) (d := .non) hn)
      refine hq (.ref q) _ [q] ⟨(O1.same.trans O2.same).trans E, new_lst rr hn, le_mdep_lst rngD_imm, ?_⟩
      refine ⟨ok.1, fun c hc => ?_, ok.2.2⟩
      rcases ok.2.1 c hc with z | ⟨j, hj, _⟩
      · exact .inl ((O1.same.trans O2.same).same.free z)
      · exact nomatch hj
    · cases h2
  · cases h2
theorem pd_tupRg1 (hc : X.calm = true) (hgL : Gl X "tuple") (hmL : X.mg "tuple" = none) (hgR : Gl X "range") (hmR : X.mg "range" = none) (A : PD X G a ma ga) (na : starEach [a] X.env = (false, eval a X.env) :: starEach [] X.env := by rfl)
    (na2 : starEach [.Call (.Name "range" p2) [a] [] pos2] X.env = (false, eval (.Call (.Name "range" p2) [a] [] pos2) X.env) :: starEach [] X.env := by rfl) : PD X G (.Call (.Name "tuple" p) [.Call (.Name "range" p2) [a] [] pos2] [] pos) (.vw 0 []) (eN opTR1 (eCons ga eNil)) := by
  obtain ⟨ta, pa, ra⟩ := A.use
  refine PD.mk ⟨_, pe_tupRg hc hgL hmL (prg_1 hgR hmR pa na) na2, fun sl σ H fs d Q S hg hq => ?_⟩
  unfold eN eCons eNil at hg
  obtain ⟨ds, h1, h2⟩ := Option.bind_eq_some_iff.mp hg
  obtain ⟨x, h3, h4⟩ := Option.bind_eq_some_iff.mp h1
  cases h4
  refine ra sl σ H fs x _ S h3 fun v H1 f1 O1 => ?_
  unfold opTR1 at h2
  split at h2
  · rename_i j e
    simp only [List.cons.injEq, and_true] at e
    subst e
    split at h2
    · rename_i hj
      cases h2
      obtain ⟨b1, b2⟩ := okR_b hj
      have r1 := O1.rep
      cases r1
      refine ⟨j, rfl, ⟨by omega, by omega, by omega, by omega, by omega⟩, fun q hn => ?_⟩
      have rr : Reps X.K H1 (rngD 0 j.toNat) (rgV 0 j) [] := by have := rgV_rep (K := X.K) (H := H1) (a := 0) (b := j); rwa [Int.sub_zero] at this
      have E : Ext H1 (upd H1 q (.tup (rgV 0 j))) := Ext.upd hn (szO_tup (rg_len (by omega)))
      exact hq (.ref q) _ [] ⟨O1.same.trans E, new_tup rr hn, by have := le_mdep_tup (ds := rngD 0 j.toNat) (k := 0) rngD_imm; exact this, RMok.nil _⟩
    · cases h2
  · cases h2
theorem pd_tupRg2 (hc : X.calm = true) (hgL : Gl X "tuple") (hmL : X.mg "tuple" = none) (hgR : Gl X "range") (hmR : X.mg "range" = none) (A : PD X G a ma ga) (B : PD X G b mb gb)
    (na : starEach [a, b] X.env = (false, eval a X.env) :: starEach [b] X.env := by rfl) (nb : starEach [b] X.env = (false, eval b X.env) :: starEach [] X.env := by rfl) (hp : (backTo pos2 (starEach [b] X.env)).any (·.1) = false := by rfl)
    (na2 : starEach [.Call (.Name "range" p2) [a, b] [] pos2] X.env = (false, eval (.Call (.Name "range" p2) [a, b] [] pos2) X.env) :: starEach [] X.env := by rfl) : PD X G (.Call (.Name "tuple" p) [.Call (.Name "range" p2) [a, b] [] pos2] [] pos) (.vw 0 []) (eN opTR2 (eCons ga (eCons gb eNil))) := by
  obtain ⟨ta, pa, ra⟩ := A.use
  obtain ⟨tb, pb, rb⟩ := B.use
  refine PD.mk ⟨_, pe_tupRg hc hgL hmL (prg_2 hgR hmR pa pb na nb hp) na2, fun sl σ H fs d Q S hg hq => ?_⟩
  unfold eN eCons eNil at hg
  obtain ⟨ds, h1, h2⟩ := Option.bind_eq_some_iff.mp hg
  obtain ⟨x, h3, h4⟩ := Option.bind_eq_some_iff.mp h1
  obtain ⟨r, h5, e⟩ := Option.map_eq_some_iff.mp h4
  obtain ⟨y, h6, h7⟩ := Option.bind_eq_some_iff.mp h5
  cases h7
  subst e
  refine ra sl σ H fs x _ S h3 fun v H1 f1 O1 => rb sl σ H1 fs y _ (S.same O1.same) h6 fun w H2 f2 O2 => ?_
  unfold opTR2 at h2
  split at h2
  · rename_i i j e
    simp only [List.cons.injEq, and_true] at e
    obtain ⟨rfl, rfl⟩ := e
    split at h2
    · rename_i hj
      cases h2
      simp only [Bool.and_eq_true, decide_eq_true_eq] at hj
      obtain ⟨b1, b2⟩ := okR_b hj.1.1
      obtain ⟨b3, b4⟩ := okR_b hj.1.2
      have r1 := O1.rep
      have r2 := O2.rep
      cases r1
      cases r2
      refine ⟨i, j, rfl, rfl, ⟨by omega, by omega, by omega, by omega, by omega⟩, fun q hn => ?_⟩
      have rr : Reps X.K H2 (rngD i (j - i).toNat) (rgV i j) [] := rgV_rep
      have E : Ext H2 (upd H2 q (.tup (rgV i j))) := Ext.upd hn (szO_tup (rg_len hj.2))
      exact hq (.ref q) _ [] ⟨(O1.same.trans O2.same).trans E, new_tup rr hn, by have := le_mdep_tup (ds := rngD i (j - i).toNat) (k := 0) rngD_imm; exact this, RMok.nil _⟩
    · cases h2
  · cases h2
end
end Dw
set_option maxHeartbeats 1000000
/-! Dx, part F: all, any; how many unlike things; unlike ints in order; what is never raised. -/
namespace Dw
open PySem PySem.Spec PyProof.Rows L2

/-! ### all, any of lists of bools -/
def blsD : List D → Option (List Bool)
  | [] => some []
  | .bl b :: ds => (blsD ds).map (b :: ·)
  | _ :: _ => none
theorem blsD_eq : ∀ {ds : List D} {bs : List Bool}, blsD ds = some bs → ds = bs.map .bl
  | [], _, h => by cases h; rfl
  | .bl i :: ds, _, h => by
    obtain ⟨r, h1, e⟩ := Option.map_eq_some_iff.mp h
    subst e
    rw [blsD_eq h1]; rfl
  | .non :: _, _, h => nomatch h
  | .int _ :: _, _, h => nomatch h
  | .str _ :: _, _, h => nomatch h
  | .tup _ :: _, _, h => nomatch h
  | .lst _ :: _, _, h => nomatch h
  | .dct _ _ _ :: _, _, h => nomatch h
  | .frz _ :: _, _, h => nomatch h
theorem Reps.bls {K : PySem.W.Frag} {H : Hp} : ∀ {bs : List Bool} {vs : List V} {fp : List Addr}, Reps K H (bs.map .bl) vs fp → vs = bs.map V.bl
  | [], _, _, .nil => rfl
  | b :: bs, _, _, .cons r t => by
    cases r
    rw [Reps.bls t]; rfl
def opAll : List D → Option D
  | [.lst ds] => (blsD ds).map fun bs => .bl (bs.all id)
  | _ => none
def opAny : List D → Option D
  | [.lst ds] => (blsD ds).map fun bs => .bl (bs.any id)
  | _ => none
theorem vr_all {K : PySem.W.Frag} : VR K (rAll K) opAll false := fun H vs ds fp d Q sz r0 h q => by
  unfold opAll at h
  split at h
  · obtain ⟨bs, h1, e⟩ := Option.map_eq_some_iff.mp h
    subst e
    have e2 := blsD_eq h1
    subst e2
    obtain ⟨v, rfl, r⟩ := reps_one r0
    cases r with
    | lst h2 r2 =>
      have e3 := r2.bls
      subst e3
      exact ⟨_, bs, rfl, SqL.of h2, q _ H [] (Ext.refl H) (.bl _) (fun _ z => nomatch z) fun z => nomatch z⟩
  · cases h
theorem vr_any {K : PySem.W.Frag} : VR K (rAny K) opAny false := fun H vs ds fp d Q sz r0 h q => by
  unfold opAny at h
  split at h
  · obtain ⟨bs, h1, e⟩ := Option.map_eq_some_iff.mp h
    subst e
    have e2 := blsD_eq h1
    subst e2
    obtain ⟨v, rfl, r⟩ := reps_one r0
    cases r with
    | lst h2 r2 =>
      have e3 := r2.bls
      subst e3
      exact ⟨_, bs, rfl, SqL.of h2, q _ H [] (Ext.refl H) (.bl _) (fun _ z => nomatch z) fun z => nomatch z⟩
  · cases h
theorem bt_all : bootBuiltins "all" = some (.builtin "all") := by decide +kernel
theorem bt_any : bootBuiltins "any" = some (.builtin "any") := by decide +kernel
theorem k_all {ds : List D} {z : D} (h : opAll ds = some z) : mdep z ≤ 0 := by
  unfold opAll at h
  split at h
  · obtain ⟨bs, h1, e⟩ := Option.map_eq_some_iff.mp h
    subst e; exact Nat.le_refl _
  · cases h
theorem k_any {ds : List D} {z : D} (h : opAny ds = some z) : mdep z ≤ 0 := by
  unfold opAny at h
  split at h
  · obtain ⟨bs, h1, e⟩ := Option.map_eq_some_iff.mp h
    subst e; exact Nat.le_refl _
  · cases h
section
variable {X : Cx} {G : List Mode} {e : Expr} {m : RM} {M : List Nat} {f : Ev → Option (D × Ev)} {g : Ev → Option D} {p pos : Pos}
theorem de_all (hc : X.calm = true) (hg : Gl X "all") (hm : X.mg "all" = none) (A : DE X G e m M f) (he : starEach [e] X.env = (false, eval e X.env) :: starEach [] X.env := by rfl) : DE X G (.Call (.Name "all" p) [e] [] pos) (.vw 0 []) M (mN opAll (mCons f mNil)) := by
  have := de_callB (p := p) (pos := pos) (cr_all hc) vr_all (.vw 0 []) (fun _ _ _ h => k_all h) (.inl rfl) hg hm bt_all (da_cons A da_nil (apart_nil m) he) (he := he)
  rwa [List.append_nil] at this
theorem de_any (hc : X.calm = true) (hg : Gl X "any") (hm : X.mg "any" = none) (A : DE X G e m M f) (he : starEach [e] X.env = (false, eval e X.env) :: starEach [] X.env := by rfl) : DE X G (.Call (.Name "any" p) [e] [] pos) (.vw 0 []) M (mN opAny (mCons f mNil)) := by
  have := de_callB (p := p) (pos := pos) (cr_any hc) vr_any (.vw 0 []) (fun _ _ _ h => k_any h) (.inl rfl) hg hm bt_any (da_cons A da_nil (apart_nil m) he) (he := he)
  rwa [List.append_nil] at this
theorem pd_all (hc : X.calm = true) (hg : Gl X "all") (hm : X.mg "all" = none) (A : PD X G e m g) (he : starEach [e] X.env = (false, eval e X.env) :: starEach [] X.env := by rfl) : PD X G (.Call (.Name "all" p) [e] [] pos) (.vw 0 []) (eN opAll (eCons g eNil)) := (de_all hc hg hm A he).congr mN1_lift
theorem pd_any (hc : X.calm = true) (hg : Gl X "any") (hm : X.mg "any" = none) (A : PD X G e m g) (he : starEach [e] X.env = (false, eval e X.env) :: starEach [] X.env := by rfl) : PD X G (.Call (.Name "any" p) [e] [] pos) (.vw 0 []) (eN opAny (eCons g eNil)) := (de_any hc hg hm A he).congr mN1_lift
end

/-! ### what is never raised -/
def sNever : Ev → Option Fl := fun _ => none
theorem ds_never {X : Cx} {R : RetS} {G Gn Gb Gc : List Mode} {s : Stmt} : DS X R G s Gn Gb Gc sNever := ⟨_, ps_never, fun sl σ H fs fl Dn S h => nomatch h⟩

/-! ### unlike things -/
def rowsD : List D → Option (List (List Int))
  | [] => some []
  | .tup xs :: ds => (intsD xs).bind fun r => (rowsD ds).map (r :: ·)
  | _ :: _ => none
theorem rowsD_eq : ∀ {ds : List D} {rs : List (List Int)}, rowsD ds = some rs → ds = rs.map fun r => .tup (r.map .int)
  | [], _, h => by cases h; rfl
  | .tup xs :: ds, _, h => by
    obtain ⟨r, h1, h2⟩ := Option.bind_eq_some_iff.mp (show ((intsD xs).bind fun r => (rowsD ds).map (r :: ·)) = _ from h)
    obtain ⟨rs, h3, e⟩ := Option.map_eq_some_iff.mp h2
    subst e
    rw [rowsD_eq h3, intsD_eq h1]; rfl
  | .non :: _, _, h => nomatch h
  | .bl _ :: _, _, h => nomatch h
  | .int _ :: _, _, h => nomatch h
  | .str _ :: _, _, h => nomatch h
  | .lst _ :: _, _, h => nomatch h
  | .dct _ _ _ :: _, _, h => nomatch h
  | .frz _ :: _, _, h => nomatch h
def unI (ns : List Int) : List Int := ns.eraseDups
def opLenSet : D → Option D
  | .lst ds => match intsD ds with
    | some ns => if ns.length ≤ 4000 then some (.int (unI ns).length) else none
    | none => (rowsD ds).bind fun rs => if rs.length < 64 then some (.int rs.eraseDups.length) else none
  | .tup ds => (intsD ds).bind fun ns => if ns.length ≤ 4000 then some (.int (unI ns).length) else none
  | _ => none
theorem nodup_un {α : Type} [BEq α] [LawfulBEq α] : ∀ (n : Nat) (xs : List α), xs.length ≤ n → xs.eraseDups.Nodup
  | 0, xs, h => by
    have e : xs = [] := List.eq_nil_of_length_eq_zero (by omega)
    subst e; simp
  | n + 1, [], h => by simp
  | n + 1, x :: xs, h => by
    rw [List.eraseDups_cons, List.nodup_cons]
    refine ⟨fun hx => ?_, nodup_un n _ (Nat.le_trans (List.length_filter_le ..) (by simpa using h))⟩
    rw [List.mem_eraseDups, List.mem_filter] at hx
    simp at hx
/-- a set's size, however it came -/
theorem nodup_len {α : Type} {xs ys : List α} (h1 : xs.Nodup) (h2 : ys.Nodup) (h : ∀ x, x ∈ xs ↔ x ∈ ys) : xs.length = ys.length := ((List.perm_ext_iff_of_nodup h1 h2).mpr h).length_eq
def rLenSet (K : PySem.W.Frag) : V → Hp → VK → Prop := fun x H Q =>
  (∃ l ns, x = .ref l ∧ (SqL K H l (ns.map V.int) ∨ SqT K H l (ns.map V.int)) ∧ ns.length ≤ 4000 ∧ Q (.int (unI ns).length) H) ∨
  ∃ (l : Addr) (ks : List (Addr × List Int)), x = .ref l ∧ SqL K H l (ks.map fun p => V.ref p.1) ∧ (∀ p ∈ ks, SqT K H p.1 (p.2.map V.int)) ∧ ks.length < 64 ∧ Q (.int (ks.map (·.2)).eraseDups.length) H
section
variable {X : Cx}
theorem pe_lenSetA {a : Expr} {ta : TE} {p p2 q pos : Pos} (hc : X.calm = true) (hu : X.A.units + 64 < cLine) (hg : Gl X "len") (hm : X.mg "len" = none) (hg2 : Gl X "set") (hm2 : X.mg "set" = none) (ha : PE X a ta)
    (na : starEach [a] X.env = (false, eval a X.env) :: starEach [] X.env := by rfl) : PE X (.Call (.Name "len" p) [.Call (.Name "set" p2) [a] [] q] [] pos) (tUn (rLenSet X.K) ta) := by
  refine ⟨fun pins s σ H Q I h => ?_⟩
  refine Call_ (ld_blt I hg hm PySem.boot_len (PyProof.Rows.callWith_builtin1 (PyProof.Rows.args_cons ?_ rfl) rfl rfl))
  refine Call_ (ld_blt I hg2 hm2 PyProof.Rows.boot_set (PyProof.Rows.callWith_type1 (PyProof.Rows.args_cons ?_ na) na rfl))
  refine thn (ha.run pins s σ H _ I h) fun v s1 ⟨x, H1, I1, r1, q1⟩ => PyProof.Rows.args_nil ?_
  rcases q1 with ⟨l, ns, rfl, hq | hq, h1, q1⟩ | ⟨l, ks, rfl, hq, hk, h1, q1⟩
  · cases r1
    obtain ⟨its, r, pl, hz⟩ := I1.list hq
    have hl : its.toArray.size = ns.length := by rw [List.size_toArray, ← r.length, List.length_map]
    refine call_set_list (I1.ok.hd hc) pl.isList (ns := ns) (by simpa using r.ints) (by unfold scanBound; omega) fun h' tk hS hk => ?_
    rw [hl, PySem.W.oss_met, PySem.W.oss_dups] at hS
    refine PyProof.Rows.args_nil ?_
    obtain ⟨o, es, ep, t, ho, hex, hd, _, _, _, hf, hn⟩ := hS
    have I2 : Inv X pins σ H1 { s1 with heap := h', toks := tk } := I1.kept fun b o e => hk b o (Heap.lt_size e) e
    have hle : ns.eraseDups.length ≤ ns.length := by rw [← PySem.W.oss_dups]; exact PySem.W.oss_len ns
    exact call_len_set ho hex hd hf (by rw [hn]; omega) ⟨.int ns.eraseDups.length, H1, I2.tok _, ⟨_, by rw [hn]⟩, q1⟩
  · cases r1
    obtain ⟨its, r, pl, hz⟩ := I1.tuple hq
    refine call_set_tupI (P := X.prog) (w := X.w) ns (I1.ok.hd hc) (show s1.heap.IsTuple l its.toArray from pl) (by simpa using r.ints) (by unfold scanBound; omega) fun h' tk c hS hc' hk => ?_
    refine PyProof.Rows.args_nil ?_
    obtain ⟨o, es, ep, t, ho, hex, hd, _, nd, hS2, hb, hf, hn, _⟩ := hS
    have I2 : Inv X pins σ H1 { s1 with heap := h', toks := tk } := I1.kept hk
    have hlen : es.size = ns.eraseDups.length := by
      have := nodup_len nd (nodup_un _ ns (Nat.le_refl _)) fun x => by
        rw [← hS2 x, ← PySem.W.oss_dups, PySem.W.oss_has]; simp
      rw [List.length_map, Array.length_toList] at this
      exact this
    exact call_len_set ho hex hd hf (by rw [hn]; omega) ⟨.int ns.eraseDups.length, H1, I2.tok _, ⟨_, by rw [hlen]⟩, q1⟩
  · cases r1
    obtain ⟨its, rv, pl, hz⟩ := I1.list hq
    refine call_set_tups (P := X.prog) (w := X.w) ks (I1.ok.hd hc) pl.isList (by simpa using refs_of_vals rv) (fun p hp => I1.isT (hk p hp)) h1 (by omega) fun h' tk L es ep t R g k => ?_
    refine PyProof.Rows.args_nil ?_
    obtain ⟨o, ho, hex, hd⟩ := R.ob
    have I2 : Inv X pins σ H1 { s1 with heap := h', toks := tk } := I1.kept k
    have hsz : es.size = L.length := R.size (s := { s1 with heap := h', toks := tk })
    have hfits : t.fits es.size = true := R.fits (s := { s1 with heap := h', toks := tk })
    have hlen : L.length = (ks.map (·.2)).eraseDups.length := by
      have := nodup_len R.nd (nodup_un _ (ks.map (·.2)) (Nat.le_refl _)) fun x => by
        rw [List.mem_eraseDups]
        constructor
        · intro hx
          obtain ⟨p, hp, rfl⟩ := List.mem_map.mp hx
          exact List.mem_map.mpr ⟨p, List.mem_of_mem_take (g.sub p hp), rfl⟩
        · intro hx
          obtain ⟨p, hp, rfl⟩ := List.mem_map.mp hx
          exact g.all p (by rw [List.take_length]; exact hp)
      rw [List.length_map] at this
      exact this
    have hle := R.few
    exact call_len_set ho hex hd hfits (by omega) ⟨.int (ks.map (·.2)).eraseDups.length, H1, I2.tok _, ⟨_, by rw [hsz, hlen]⟩, q1⟩
end
end Dw
set_option maxHeartbeats 1000000
/-! Dx, part G: len(set(..)); {}; sorted(set(a tuple of ints)). -/
namespace Dw
open PySem PySem.Spec PyProof.Rows L2

theorem Reps.rows {K : PySem.W.Frag} {H : Hp} : ∀ {rs : List (List Int)} {vs : List V} {fp : List Addr}, Reps K H (rs.map fun r => .tup (r.map .int)) vs fp → ∃ ks : List (Addr × List Int), vs = ks.map (fun p => V.ref p.1) ∧ ks.map (·.2) = rs ∧ ∀ p ∈ ks, SqT K H p.1 (p.2.map V.int)
  | [], _, _, .nil => ⟨[], rfl, rfl, fun _ h => nomatch h⟩
  | r :: rs, _, _, .cons h t => by
    obtain ⟨ks, e1, e2, e3⟩ := Reps.rows t
    cases h with
    | @tup a ws _ g hs hr =>
      obtain ⟨e4, _⟩ := hr.ints
      subst e4
      refine ⟨(a, r) :: ks, by rw [e1]; rfl, by rw [List.map_cons, e2], fun p hp => ?_⟩
      rcases List.mem_cons.mp hp with e | hp
      · subst e; exact SqT.of hs
      · exact e3 p hp
theorem vr_lenSet {K : PySem.W.Frag} : VR1 K (rLenSet K) opLenSet false := fun H x d fp z Q sz r h q => by
  have fin : ∀ n : Nat, z = .int n → Q (.int n) H := fun n e => by
    subst e
    exact q _ H [] (Ext.refl H) (.int _) (fun _ z => nomatch z) fun z => nomatch z
  cases d with
  | lst ds =>
    unfold opLenSet at h
    cases r with
    | @lst a vs _ g hs hr =>
      cases h1 : intsD ds with
      | some ns =>
        simp only [h1] at h
        split at h
        · rename_i hl
          cases h
          have e := intsD_eq h1
          subst e
          obtain ⟨e2, _⟩ := hr.ints
          subst e2
          exact .inl ⟨a, ns, rfl, .inl (SqL.of hs), hl, fin _ rfl⟩
        · cases h
      | none =>
        simp only [h1] at h
        obtain ⟨rs, h2, h3⟩ := Option.bind_eq_some_iff.mp h
        split at h3
        · rename_i hl
          cases h3
          have e := rowsD_eq h2
          subst e
          obtain ⟨ks, e1, e2, e3⟩ := hr.rows
          subst e1 e2
          exact .inr ⟨a, ks, rfl, SqL.of hs, e3, by simpa using hl, fin _ rfl⟩
        · cases h3
  | tup ds =>
    cases r with
    | @tup a vs _ g hs hr =>
      obtain ⟨ns, h1, h2⟩ := Option.bind_eq_some_iff.mp (show ((intsD ds).bind fun ns => if ns.length ≤ 4000 then some (D.int (unI ns).length) else none) = _ from h)
      split at h2
      · rename_i hl
        cases h2
        have e := intsD_eq h1
        subst e
        obtain ⟨e2, _⟩ := hr.ints
        subst e2
        exact .inl ⟨a, ns, rfl, .inr (SqT.of hs), hl, fin _ rfl⟩
      · cases h2
  | _ => cases h
theorem k_lenSet {d z : D} (h : opLenSet d = some z) : mdep z ≤ 0 := by
  unfold opLenSet at h
  split at h
  · split at h
    · split at h <;> cases h; exact Nat.le_refl _
    · obtain ⟨rs, h2, h3⟩ := Option.bind_eq_some_iff.mp h
      split at h3 <;> cases h3; exact Nat.le_refl _
  · obtain ⟨rs, h2, h3⟩ := Option.bind_eq_some_iff.mp h
    split at h3 <;> cases h3; exact Nat.le_refl _
  · cases h
section
variable {X : Cx} {G : List Mode} {e : Expr} {m : RM} {M : List Nat} {f : Ev → Option (D × Ev)} {g : Ev → Option D} {p p2 q pos : Pos}
theorem de_lenSet (hc : X.calm = true) (hu : X.A.units + 64 < cLine) (hg : Gl X "len") (hm : X.mg "len" = none) (hg2 : Gl X "set") (hm2 : X.mg "set" = none) (A : DE X G e m M f) (na : starEach [e] X.env = (false, eval e X.env) :: starEach [] X.env := by rfl) :
    DE X G (.Call (.Name "len" p) [.Call (.Name "set" p2) [e] [] q] [] pos) (.vw 0 []) M (un1 opLenSet f) := by
  obtain ⟨ta, pa, run⟩ := un_run vr_lenSet A (.vw 0 []) (fun d z _ h => k_lenSet h) (.inl rfl)
  exact ⟨A.hM, _, pe_lenSetA hc hu hg hm hg2 hm2 pa na, run⟩
theorem pd_lenSet (hc : X.calm = true) (hu : X.A.units + 64 < cLine) (hg : Gl X "len") (hm : X.mg "len" = none) (hg2 : Gl X "set") (hm2 : X.mg "set" = none) (A : PD X G e m g) (na : starEach [e] X.env = (false, eval e X.env) :: starEach [] X.env := by rfl) :
    PD X G (.Call (.Name "len" p) [.Call (.Name "set" p2) [e] [] q] [] pos) (.vw 0 []) (eUn opLenSet g) := (de_lenSet hc hu hg hm hg2 hm2 A na).congr un1_lift
/-- {} -/
theorem pd_dnewK : PD X G (.Dict [] [] pos) (.ow 1) (eC (.dct false [] [])) := by
  refine PD.mk ⟨_, pe_dnewK, fun sl σ H fs d Q S hg hq => ?_⟩
  cases hg
  intro p hn
  have rp : Rep X.K (upd H p (.dK [])) (.dct false [] []) (.ref p) [p] := .dK upd_same rfl .nil
  refine hq (.ref p) _ [p] ⟨Ext.upd hn (by show decide (0 ≤ sizeLine) = true; simp), rp, le_mdep_dct (fun _ h => nomatch h), by simp, fun a ha => ?_, fun a ha j hj haj => ?_⟩
  · simp at ha; subst ha; exact .inl hn
  · simp at ha; subst ha; exact S.alive (own_ne_no hj) haj hn
theorem pd_dnewT : PD X G (.Dict [] [] pos) (.ow 1) (eC (.dct true [] [])) := by
  refine PD.mk ⟨_, pe_dnewT, fun sl σ H fs d Q S hg hq => ?_⟩
  cases hg
  intro p hn
  have rp : Rep X.K (upd H p (.dT [])) (.dct true [] []) (.ref p) [p] := .dT upd_same rfl .nil
  refine hq (.ref p) _ [p] ⟨Ext.upd hn (by show decide (0 ≤ sizeLine) = true; simp), rp, le_mdep_dct (fun _ h => nomatch h), by simp, fun a ha => ?_, fun a ha j hj haj => ?_⟩
  · simp at ha; subst ha; exact .inl hn
  · simp at ha; subst ha; exact S.alive (own_ne_no hj) haj hn
end
end Dw
set_option maxHeartbeats 1000000
/-! Dx, part H: enumerate over a tuple. -/
namespace Dw
open PySem PySem.Spec PyProof.Rows L2 RZ RT

section
/-- the tuple at its place, each part in a new pair with its count -/
def JtE (Kf : PySem.W.Frag) (src : Addr) : It where
  go := fun n hp => ∃ (parts : List V) (one : V), SqT Kf hp src parts ∧ parts[n]? = some one
  yld := fun n hp v hp' => ∃ new one, v = .ref new ∧ hp new = none ∧ hp' = upd hp new (.tup [.int (n : Nat), one]) ∧ ∀ parts, SqT Kf hp src parts → parts[n]? = some one
  stop := fun n hp => ∃ parts : List V, SqT Kf hp src parts ∧ parts.length ≤ n
theorem turn_tupE {Pg : Program} {w : World} {Kf : PySem.W.Frag} {ts : List Expr} {nn : Nat} {q0 : Pos} (src en dr : Addr) (apart : src ≠ dr) (off : en ≠ src) :
    Turn Pg w Kf (.Tuple ts nn q0) (JtE Kf src) [en, dr] en (fun n hp => (∃ last, IsEnum hp en dr ((n : Nat) : Int) last) ∧ hp.IsTupleIter dr src n ∧ en ≠ dr) := by
  constructor
  · simp
  · rintro n hp ⟨⟨last, h1⟩, ⟨ob, h2, h3, h4⟩, h5⟩ c hc
    rcases (by simpa using hc : c = en ∨ c = dr) with rfl | rfl
    · exact ⟨_, h1, fun v => by simp⟩
    · exact ⟨ob, h2, fun v => by rw [h4]; simp⟩
  · rintro n hp hp' ⟨⟨last, h1⟩, h2, h5⟩ same
    exact ⟨⟨last, same en (by simp) _ h1⟩, h2.at fun ob => same dr (by simp) ob, h5⟩
  · rintro X rfl rfl rfl calm n pins s σ H E inv fpo ⟨⟨last, h1⟩, h2, h5⟩ ⟨parts, one, h6, h7⟩
    obtain ⟨its, vals, isT, _⟩ := inv.tuple h6
    obtain ⟨u, hu, ru⟩ := vals.get h7
    have le : en < s.heap.objs.size := Heap.lt_size h1
    have ld : dr < s.heap.objs.size := by obtain ⟨_, q, _⟩ := h2; exact Heap.lt_size q
    have room : n < its.toArray.size := by simpa using (List.getElem?_eq_some_iff.mp hu).1
    refine wpAny_pyNext_enum_itemD (Draws.tuple (A := X.A.in1) (inv.ok.hd calm) dr src apart its.toArray) h1 ⟨h2, isT⟩ room h5 (by simp [h5, off]) fun x h' tk hx out st new big rest => ?_
    have ex : x = u := by
      have := hx.symm.trans (show its.toArray[n]? = some u by simpa using hu)
      exact Option.some.inj this
    subst ex
    refine ⟨_, rfl, wpAny_letOwnedTupleGo_enum (s := { s with heap := h', toks := tk + 1 }) out fun h'' out' sb => ?_⟩
    have new' := (sb.2 _ (Nat.ne_of_gt le)).trans new
    have okN : ObjOk X.prog X.w (upd H s.heap.objs.size (.tup [.int (n : Nat), one])) h'' s.heap.objs.size (.tup [.int (n : Nat), one]) :=
      ⟨(by decide : 2 ≤ sizeLine), _, .cons ⟨tk, rfl⟩ (.cons ru .nil), _, new', rfl, _, rfl⟩
    have inv' : Inv X pins σ (upd H s.heap.objs.size (.tup [.int (n : Nat), one])) { s with heap := h'', toks := tk + 1 } :=
      inv.turnedNew (ch := [en, dr]) (fun c ob hc q => (sb.2 c fun z => hc (by simp [z])).trans (rest c ob (fun z => hc (by simp [z])) (fun z => hc (by simp [z])) q)) fpo (Nat.le_refl _) okN
    refine ⟨V.ref s.heap.objs.size, _, inv', rfl, ⟨s.heap.objs.size, one, rfl, inv.hok.fresh (Nat.le_refl _), rfl, fun ps hp => (inv.tuple_inj hp h6).symm ▸ h7⟩, ⟨⟨x, ?_⟩, st.1.at fun ob q => (sb.2 dr (Ne.symm h5)).trans q, h5⟩, fun c hc => ?_⟩
    · rw [show ((n + 1 : Nat) : Int) = (n : Int) + 1 by omega]
      exact out'
    · have lc : c < s.heap.objs.size := by
        rcases (by simpa using hc : c = en ∨ c = dr) with rfl | rfl
        · exact le
        · exact ld
      exact (upd_ne (Nat.ne_of_lt lc)).trans (fpo c hc).1
  · rintro X rfl rfl rfl calm n pins s σ H E inv fpo ⟨⟨last, h1⟩, h2, h5⟩ ⟨parts, h6, h7⟩
    obtain ⟨its, vals, isT, _⟩ := inv.tuple h6
    obtain ⟨g0, g1, g2, g3, g4, g5⟩ := fpo dr (by simp)
    -- the end comes at the length: at n ≥ length the drawer stands there too
    have lv := vals.length
    have hT : s.TypeIs (.ref en) "enumerate" := ⟨_, h1, rfl⟩
    unfold pyNext
    refine wpAny_bind (wpAny_attempt (wpAny_callSpecial?_slot (name := Str.ofString "__next__") hT F.slot_enumerate_next
      (wpAny_call_entry F.slot_enumerate_next hT F.entry_enumerate_next ?_ (F.args_enumerate_next_1 _))))
    show wpAny _ _ (field (.ref en) 2 >>= _) _ _ _
    refine wpAny_bind (wpAny_field h1 rfl (x := .ref dr) rfl ?_)
    refine wpAny_bind (wpAny_nextOf_tuple_end (inv.ok.hd calm) h2 (show s.heap.IsTuple src its.toArray from isT) (by simp; omega) fun h' e he' hx' => ?_)
    obtain ⟨o, ho, hc⟩ := hx'
    refine wpAny_bind (wpAny_isInstance (T := "StopIteration") (b := true) ⟨o, ho, hc⟩ isSubtype_stop ?_)
    exact wpAny_pure ⟨rfl, inv.turned (t' := s.toks) (fun b o hb q => he' b o hb q) g0 g1 g3 g4 g5⟩
  · rintro A n s Q E ⟨⟨last, h1⟩, h2, h5⟩ h
    exact wpAny_pyIter_enum h1 h
theorem mkE_tup {src : Addr} {its : Array Value} {ob : Obj} (bg : Begins (.ref src) ob fun hp => hp.IsTuple src its) :
    Meets (Builtin.«enumerate.__new__» ⟨[.type "enumerate", .ref src], []⟩) (fun _ R s => s.heap.IsTuple src its ∧
      R (.ok (.ret (.ref (s.heap.push ob).objs.size))) { s with heap := (s.heap.push ob).push { cls := .type "enumerate", data := .fields #[.none, .bool false, .ref s.heap.objs.size, rawInt 0, .none, .none] } }) := by
  refine .of_wp fun prog w A R s ⟨isT, rest⟩ => ?_
  have sub := sub_enumerate
  have begun : ∀ {A' : Around} {E Q : Value → Shared → Prop}, Q (.ref s.heap.objs.size) { s with heap := s.heap.push ob } → wpAny (model prog w) A' (pyIter (.ref src)) Q E s := fun q => bg.iter _ _ _ _ _ _ isT q
  obtain ⟨hp, gg, dd, tk, os⟩ := s
  wp_walk using begun
  refine wpAny_stack_any fun st => wpAny_pure ?_
  split
  · rename_i c _ _ _ _ _
    rcases hc : (c == Value.type "enumerate") with _ | _
    all_goals (wp_walk using begun; exact ⟨_, rfl, rest⟩)
  · wp_walk using begun
    exact ⟨_, rfl, rest⟩
theorem newE_tup {prog : Program} {w : World} {A : Around} {E Q : Value → Shared → Prop} {s : Shared} {src : Addr} {its : Array Value} (isT : s.heap.IsTuple src its)
    (go : ∀ hp, IsEnum hp (s.heap.objs.size + 1) s.heap.objs.size 0 .none → hp.IsTupleIter s.heap.objs.size src 0 → (∀ c ob, s.heap.get? c = some ob → hp.get? c = some ob) → Q (.ref (s.heap.objs.size + 1)) { s with heap := hp }) :
    wpAny (model prog w) A (call (.type "enumerate") [.ref src]) Q E s := by
  refine callType_new F.called_enumerate (by decide) (F.typeCall_enumerate_1 _) (F.newCall_enumerate_1 _) (fun ob => F.args_object_init_2 ob _) F.entry_enumerate_new (mkE_tup (begins_tuple src its)) ⟨isT, ?_⟩
  generalize ho : ({ cls := .type "tuple_iterator", data := .fields #[.ref src, .int 0 0] } : Obj) = ob
  have fr : ob.isFreed = false := by rw [← ho]; rfl
  have sz : (s.heap.push ob).objs.size = s.heap.objs.size + 1 := Heap.size_push ..
  show _ ∧ _
  rw [sz]
  have isE : IsEnum ((s.heap.push ob).push { cls := .type "enumerate", data := .fields #[.none, .bool false, .ref s.heap.objs.size, rawInt 0, .none, .none] }) (s.heap.objs.size + 1) s.heap.objs.size 0 .none := by
    have q := Heap.get?_push_size (s.heap.push ob) (o := { cls := .type "enumerate", data := .fields #[.none, .bool false, .ref s.heap.objs.size, rawInt 0, .none, .none] }) rfl
    rw [sz] at q
    exact q
  refine ⟨⟨_, isE, rfl⟩, go _ isE ⟨ob, Heap.get?_push_of_some _ (Heap.get?_push_size _ fr), by rw [← ho], by rw [← ho]; rfl⟩ fun c o q => Heap.get?_push_of_some _ (Heap.get?_push_of_some _ q)⟩
/-- enumerate of a list or of a tuple -/
def wEn (Kf : PySem.W.Frag) (ta : TA) : TI := fun σ H R => ta σ H fun vs hp => ∃ (src : Addr) (parts : List V), vs = [.ref src] ∧ ((SqL Kf hp src parts ∧ R (Ite Kf src) hp) ∨ (SqT Kf hp src parts ∧ R (JtE Kf src) hp))
theorem pi_enumA {X : Cx} {e : Expr} {ta : TA} {p pos q0 : Pos} {ts : List Expr} {nn : Nat} (hg : Gl X "enumerate") (hm : X.mg "enumerate" = none) (ha : PA X [e] ta) (hs : starEach [e] X.env = [(false, eval e X.env)] := by rfl) :
    PI X (.Tuple ts nn q0) (.Call (.Name "enumerate" p) [e] [] pos) (wEn X.K ta) := by
  constructor
  intro pins s σ H R inv h
  refine Call_ (ld_blt inv hg hm boot_enumerate (PyProof.Rows.callWith_type1 (thn (ha.run pos pins s σ H _ inv h) ?_) hs rfl))
  rintro us t ⟨vs, hp, inv1, rel, src, parts, rfl, way⟩
  cases rel with
  | cons r0 r1 =>
    cases r1
    cases r0
    have young : ∀ c ∈ [t.heap.objs.size + 1, t.heap.objs.size], FpOk X pins hp c := fun c hc => by
      have le : t.heap.objs.size ≤ c := by
        rcases (by simpa using hc : c = t.heap.objs.size + 1 ∨ c = t.heap.objs.size) with rfl | rfl <;> omega
      exact inv1.fpOk le (inv1.hok.fresh le)
    rcases way with ⟨isL, go⟩ | ⟨isT, go⟩
    · obtain ⟨its, vals, pl, _⟩ := inv1.list isL
      exact call_enumerate_list pl.isList fun hp' isE dr _ keep => wpAny_pyIter_enum isE
        ⟨_, _, _, _, hp, rfl, inv1.kept (t' := t.toks) keep, turn_enum src _ _, ⟨⟨.none, isE⟩, dr, Nat.succ_ne_self _⟩, young, go⟩
    · obtain ⟨its, vals, tp, _⟩ := inv1.tuple isT
      have lt : src < t.heap.objs.size := by obtain ⟨_, q, _⟩ := tp; exact Heap.lt_size q
      exact newE_tup tp fun hp' isE dr keep => wpAny_pyIter_enum isE
        ⟨_, _, _, _, hp, rfl, inv1.kept (t' := t.toks) keep, turn_tupE src _ _ (Nat.ne_of_lt lt) (Nat.ne_of_gt (Nat.lt_succ_of_lt lt)), ⟨⟨.none, isE⟩, dr, Nat.succ_ne_self _⟩, young, go⟩
theorem yl_enumT {K : PySem.W.Frag} {H0 : Hp} {xs : List D} {vs : List V} {a : Addr} {fp : List Addr} (h : H0 a = some (.tup vs)) (r : Reps K H0 xs vs fp) : Yl K (JtE K a) (enumT 0 xs) fp H0 := fun H k sz => by
  have ha : H a = some (.tup vs) := k a _ h fun z => nomatch z
  have rr : Reps K H xs vs fp := r.keep k fun c hc => hc
  refine ⟨fun i d hd => ?_, vs, SqT.of ha, by rw [enumT_len, r.length]; exact Nat.le_refl _⟩
  obtain ⟨x, hx, rfl⟩ := enumT_get hd
  obtain ⟨v, f, h3, h4, h5⟩ := rr.get hx
  refine ⟨⟨vs, v, SqT.of ha, h3⟩, ?_⟩
  rintro u H' ⟨T, x', rfl, hT, rfl, q1⟩
  have e1 := (q1 vs (SqT.of ha)).symm.trans h3
  cases e1
  rw [Nat.zero_add]
  exact ⟨ext_pair hT, _, new_tup (.cons (.int _) (.cons h4 .nil)) hT, fun c hc => h5 c (by simpa using hc)⟩
def opEnA : List D → Option (List D)
  | [.lst xs] => some (enumT 0 xs)
  | [.tup xs] => some (enumT 0 xs)
  | _ => none
end
section
variable {X : Cx} {G : List Mode} {e : Expr} {ms : List RM} {m : RM} {M : List Nat} {fr : Ev → Option (List D × Ev)} {g : Ev → Option D} {p pos : Pos}
theorem di_enA {elts : List Expr} {kk : Nat} {tpos : Pos} (hg : Gl X "enumerate") (hm : X.mg "enumerate" = none) (R : DA X G [e] [m] M fr) (hs : starEach [e] X.env = [(false, eval e X.env)] := by rfl) :
    DI X G (.Tuple elts kk tpos) (.Call (.Name "enumerate" p) [e] [] pos) (tupK (m.k - 1)) m.rs M (iRg opEnA fr) := by
  obtain ⟨t, pa, ra⟩ := R.run
  refine ⟨R.hM, _, pi_enumA hg hm pa hs, fun sl σ H fs items sl' Q S hf hq => ?_⟩
  obtain ⟨ds, h1, h2⟩ := iRg_some hf
  refine ra sl σ H fs ds sl' _ S h1 fun vs H' fs' fps P => ?_
  have av := P.av
  cases av with
  | @cons _ d1 v1 f1 _ ds1 _ fps1 r1 k1 o1 av =>
    cases av
    have dep : ∀ {xs : List D}, (∀ d ∈ xs, mdep d ≤ m.k - 1) → ∀ d ∈ enumT 0 xs, mdep d ≤ tupK (m.k - 1) := fun {xs} hx d hd => by
      obtain ⟨i, hi⟩ := List.getElem?_of_mem hd
      obtain ⟨x, e1, rfl⟩ := enumT_get hi
      have := mdep_pair (d := .int (0 + i : Nat)) (k := 0) (Nat.zero_le _) (hx x (List.mem_of_getElem? e1))
      rwa [Nat.zero_max] at this
    unfold opEnA at h2
    split at h2
    · rename_i xs e
      simp only [List.cons.injEq, and_true] at e
      subst e
      cases h2
      cases r1 with
      | lst h3 r3 => exact ⟨_, _, rfl, .inl ⟨SqL.of h3, hq _ H' fs' _ ⟨P.sr, P.tr, yl_enum h3 r3, dep (mdep_lst_le k1), fun c hc => o1.rt c hc, fun c hc => o1.kn R.hM c hc, fun c hc => (Rep.lst h3 r3).alive hc⟩⟩⟩
    · rename_i xs e
      simp only [List.cons.injEq, and_true] at e
      subst e
      cases h2
      cases r1 with
      | tup h3 r3 => exact ⟨_, _, rfl, .inr ⟨SqT.of h3, hq _ H' fs' _ ⟨P.sr, P.tr, yl_enumT h3 r3, dep (mdep_tup_le k1), fun c hc => o1.rt c hc, fun c hc => o1.kn R.hM c hc, fun c hc => (Rep.tup h3 r3).alive hc⟩⟩⟩
    · cases h2
theorem id_enA {elts : List Expr} {kk : Nat} {tpos : Pos} (hg : Gl X "enumerate") (hm : X.mg "enumerate" = none) (A : PD X G e m g) (hs : starEach [e] X.env = [(false, eval e X.env)] := by rfl) (he2 : starEach [e] X.env = (false, eval e X.env) :: starEach [] X.env := by rfl) :
    ID X G (.Tuple elts kk tpos) (.Call (.Name "enumerate" p) [e] [] pos) (tupK (m.k - 1)) m.rs (eRg opEnA (eCons g eNil)) := (di_enA hg hm (pl_cons A pl_nil he2) hs).congr iRg_lift
end
end Dw
set_option maxHeartbeats 1000000
/-! Dx, part I: numbers of the module. -/
namespace Dw
open PySem PySem.Spec PyProof.Rows L2 RZ RT
theorem x_gint {X : Cx} {G : List Mode} {x : Str} {i : Int} {pos : Pos} (hg : Gl X x) (hm : ∃ t, X.mg x = some (.int i t)) (hd : (x == ("__debug__" : Str)) = false := by decide) : PD X G (.Name x pos) (.vw 0 []) (eC (.int i)) := by
  obtain ⟨t, hm⟩ := hm
  exact pd_glob (v := .int i) hg hm ⟨t, rfl⟩ (fun _ => .int i) rfl hd
theorem gint_mk {K : PySem.W.Frag} {h : Heap} {mg : Str → Option Value} (X : K.In h) (G : h.Ns mainGlobals mg) {x : Str} {i : Int} {t : Tok} (a : PySem.W.nsIn K mainGlobals x = some (some (.int i t))) : ∃ t, mg x = some (.int i t) := ⟨t, PySem.W.mg_of X G a⟩
end Dw
/-! Dw, part Mb: total correctness of meanings, rule by rule. -/
namespace Dw
open PySem PySem.Spec PyProof.Rows L2

def OkE (f : Ev → Option (D × Ev)) (sl : Ev) (Q : D → Ev → Prop) : Prop := ∃ d s, f sl = some (d, s) ∧ Q d s
def OkL (f : Ev → Option (List D × Ev)) (sl : Ev) (Q : List D → Ev → Prop) : Prop := ∃ d s, f sl = some (d, s) ∧ Q d s
def OkB (f : Ev → Option (Bool × Ev)) (sl : Ev) (Q : Bool → Ev → Prop) : Prop := ∃ d s, f sl = some (d, s) ∧ Q d s
def OkS (F : Ev → Option Fl) (sl : Ev) (Q : Fl → Prop) : Prop := ∃ fl, F sl = some fl ∧ Q fl
section
variable {sl : Ev} {Q : D → Ev → Prop} {QL : List D → Ev → Prop} {QB : Bool → Ev → Prop} {R : Fl → Prop}
theorem OkE.imp {f : Ev → Option (D × Ev)} {Q' : D → Ev → Prop} (h : OkE f sl Q) (k : ∀ d s, Q d s → Q' d s) : OkE f sl Q' := let ⟨d, s, e, q⟩ := h; ⟨d, s, e, k d s q⟩
theorem OkL.imp {f : Ev → Option (List D × Ev)} {Q' : List D → Ev → Prop} (h : OkL f sl QL) (k : ∀ d s, QL d s → Q' d s) : OkL f sl Q' := let ⟨d, s, e, q⟩ := h; ⟨d, s, e, k d s q⟩
theorem OkS.imp {F : Ev → Option Fl} {R' : Fl → Prop} (h : OkS F sl R) (k : ∀ fl, R fl → R' fl) : OkS F sl R' := let ⟨d, e, q⟩ := h; ⟨d, e, k d q⟩
theorem okE_lift {g : Ev → Option D} {d : D} (h : g sl = some d) (q : Q d sl) : OkE (lift g) sl Q := ⟨d, sl, lift_some.mpr ⟨h, rfl⟩, q⟩
theorem okE_bin {op : D → D → Option D} {fa fb : Ev → Option (D × Ev)} (h : OkE fa sl fun d s => OkE fb s fun e s2 => ∃ z, op d e = some z ∧ Q z s2) : OkE (bin2 op fa fb) sl Q := by
  obtain ⟨d, s, h1, e, s2, h2, z, h3, q⟩ := h
  exact ⟨z, s2, by unfold bin2; rw [h1, Option.bind_some]; show (fb s).bind _ = _; rw [h2, Option.bind_some, h3]; rfl, q⟩
theorem okE_un {op : D → Option D} {fa : Ev → Option (D × Ev)} (h : OkE fa sl fun d s => ∃ z, op d = some z ∧ Q z s) : OkE (un1 op fa) sl Q := by
  obtain ⟨d, s, h1, z, h3, q⟩ := h
  exact ⟨z, s, by unfold un1; rw [h1, Option.bind_some, h3]; rfl, q⟩
theorem okL_lift {g : Ev → Option (List D)} {d : List D} (h : g sl = some d) (q : QL d sl) : OkL (liftL g) sl QL := ⟨d, sl, by unfold liftL; rw [h]; rfl, q⟩
theorem okL_nil (q : QL [] sl) : OkL mNil sl QL := ⟨[], sl, rfl, q⟩
theorem okL_cons {f : Ev → Option (D × Ev)} {fr : Ev → Option (List D × Ev)} (h : OkE f sl fun d s => OkL fr s fun ds s2 => QL (d :: ds) s2) : OkL (mCons f fr) sl QL := by
  obtain ⟨d, s, h1, ds, s2, h2, q⟩ := h
  exact ⟨d :: ds, s2, by unfold mCons; rw [h1, Option.bind_some, h2]; rfl, q⟩
theorem okE_N {op : List D → Option D} {fr : Ev → Option (List D × Ev)} (h : OkL fr sl fun ds s => ∃ z, op ds = some z ∧ Q z s) : OkE (mN op fr) sl Q := by
  obtain ⟨d, s, h1, z, h3, q⟩ := h
  exact ⟨z, s, by unfold mN; rw [h1, Option.bind_some, h3]; rfl, q⟩
theorem okE_tup {fr : Ev → Option (List D × Ev)} (h : OkL fr sl fun ds s => ds.length ≤ sizeLine ∧ Q (.tup ds) s) : OkE (mTup fr) sl Q := by
  obtain ⟨d, s, h1, h3, q⟩ := h
  exact ⟨_, s, by unfold mTup; rw [h1, Option.bind_some]; exact if_pos h3, q⟩
theorem okE_lst {fr : Ev → Option (List D × Ev)} (h : OkL fr sl fun ds s => ds.length ≤ sizeLine ∧ Q (.lst ds) s) : OkE (mLst fr) sl Q := by
  obtain ⟨d, s, h1, h3, q⟩ := h
  exact ⟨_, s, by unfold mLst; rw [h1, Option.bind_some]; exact if_pos h3, q⟩
theorem okE_if {fc : Ev → Option (Bool × Ev)} {fa fb : Ev → Option (D × Ev)} (h : OkB fc sl fun b s => if b = true then OkE fa s Q else OkE fb s Q) : OkE (mIf fc fa fb) sl Q := by
  obtain ⟨b, s, h1, h2⟩ := h
  cases b with
  | true =>
    obtain ⟨d, s2, h3, q⟩ := h2
    exact ⟨d, s2, by unfold mIf; rw [h1, Option.bind_some]; exact h3, q⟩
  | false =>
    obtain ⟨d, s2, h3, q⟩ := h2
    exact ⟨d, s2, by unfold mIf; rw [h1, Option.bind_some]; exact h3, q⟩
theorem okE_call {F : List D → Option (D × List D)} {ts : List (Option Nat)} {fr : Ev → Option (List D × Ev)} (h : OkL fr sl fun ds s => ∃ as, fillD ts ds s = some as ∧ ∃ z as', F as = some (z, as') ∧ Q z (storeD ts as' s)) : OkE (mCall F ts fr) sl Q := by
  obtain ⟨ds, s, h1, as, h2, z, as', h3, q⟩ := h
  exact ⟨z, _, by unfold mCall; rw [h1, Option.bind_some]; show (fillD ts ds s).bind _ = _; rw [h2, Option.bind_some, h3]; rfl, q⟩
/-- a draw -/
theorem okE_draw {j : Nat} {e : Ev → Option D} {d : D} {m : Int} (hd : eVar j sl = some d) (hi : IsSt d) (he : e sl = some (.int m)) (h0 : 0 < m) (h1 : m < 1073741824) (q : ∀ (r : Nat) d', (r : Int) < m → IsSt d' → Q (.int r) (sl.set j (some d'))) :
    OkE (mCall drawF [some j, none] (mCons (lift e) mNil)) sl Q := by
  obtain ⟨r, d', e1, a, b, c⟩ := draw_call (fr := mCons (lift e) mNil) hd (by unfold mCons lift; rw [he]; rfl) hi h0 h1
  obtain ⟨n, rfl⟩ : ∃ n : Nat, r = n := ⟨r.toNat, by omega⟩
  exact ⟨_, _, e1, q n d' b c⟩
theorem okB_T {f : Ev → Option (D × Ev)} (h : OkE f sl fun d s => ∃ b, truD d = some b ∧ QB b s) : OkB (tT f) sl QB := by
  obtain ⟨d, s, h1, b, h2, q⟩ := h
  exact ⟨b, s, by unfold tT; rw [h1, Option.bind_some, h2]; rfl, q⟩
theorem okB_lift {g : Ev → Option Bool} {b : Bool} (h : g sl = some b) (q : QB b sl) : OkB (liftB g) sl QB := ⟨b, sl, by unfold liftB; rw [h]; rfl, q⟩
theorem okB_not {fc : Ev → Option (Bool × Ev)} (h : OkB fc sl fun b s => QB (!b) s) : OkB (tNotF fc) sl QB := by
  obtain ⟨b, s, h1, q⟩ := h
  exact ⟨!b, s, by unfold tNotF; rw [h1]; rfl, q⟩
theorem okB_and {fc fd : Ev → Option (Bool × Ev)} (h : OkB fc sl fun b s => if b = true then OkB fd s QB else QB false s) : OkB (tAndF fc fd) sl QB := by
  obtain ⟨b, s, h1, h2⟩ := h
  cases b with
  | true =>
    obtain ⟨d, s2, h3, q⟩ := h2
    exact ⟨d, s2, by unfold tAndF; rw [h1, Option.bind_some]; exact h3, q⟩
  | false => exact ⟨false, s, by unfold tAndF; rw [h1, Option.bind_some]; rfl, h2⟩
theorem okB_or {fc fd : Ev → Option (Bool × Ev)} (h : OkB fc sl fun b s => if b = true then QB true s else OkB fd s QB) : OkB (tOrF fc fd) sl QB := by
  obtain ⟨b, s, h1, h2⟩ := h
  cases b with
  | false =>
    obtain ⟨d, s2, h3, q⟩ := h2
    exact ⟨d, s2, by unfold tOrF; rw [h1, Option.bind_some]; exact h3, q⟩
  | true => exact ⟨true, s, by unfold tOrF; rw [h1, Option.bind_some]; rfl, h2⟩
theorem okS_seq {F F2 : Ev → Option Fl} (h : OkS F sl fun fl => ∃ s, fl = .nx s ∧ OkS F2 s R) : OkS (sSeq F F2) sl R := by
  obtain ⟨fl, h1, s, rfl, fl2, h2, q⟩ := h
  exact ⟨fl2, by unfold sSeq; rw [h1, Option.bind_some]; exact h2, q⟩
theorem okS_seqR {F F2 : Ev → Option Fl} (h : OkS F sl fun fl => (∃ s, fl = .nx s ∧ OkS F2 s R) ∨ ∃ d s, fl = .rt d s ∧ R (.rt d s)) : OkS (sSeq F F2) sl R := by
  obtain ⟨fl, h1, ⟨s, rfl, fl2, h2, q⟩ | ⟨d, s, rfl, q⟩⟩ := h
  · exact ⟨fl2, by unfold sSeq; rw [h1, Option.bind_some]; exact h2, q⟩
  · exact ⟨.rt d s, by unfold sSeq; rw [h1, Option.bind_some], q⟩
/-- if c: return e -/
theorem okS_guard {c : Ev → Option Bool} {b : Bool} {g : Ev → Option D} {F2 : Ev → Option Fl} (hc : c sl = some b) (h1 : b = true → ∃ d, g sl = some d ∧ R (.rt d sl)) (h2 : b = false → OkS F2 sl R) : OkS (sSeq (sIf (liftB c) (sRet (lift g)) sSkip) F2) sl R := by
  cases b with
  | true =>
    obtain ⟨d, e, q⟩ := h1 rfl
    refine ⟨.rt d sl, ?_, q⟩
    have e1 : sIf (liftB c) (sRet (lift g)) sSkip sl = some (.rt d sl) := by
      unfold sIf liftB; rw [hc]
      show (sRet (lift g)) sl = _
      unfold sRet lift; rw [e]; rfl
    unfold sSeq; rw [e1, Option.bind_some]
  | false =>
    obtain ⟨fl, e, q⟩ := h2 rfl
    refine ⟨fl, ?_, q⟩
    have e1 : sIf (liftB c) (sRet (lift g)) sSkip sl = some (.nx sl) := by
      unfold sIf liftB; rw [hc]; rfl
    unfold sSeq; rw [e1, Option.bind_some]; exact e
theorem okS_sto0 {j : Nat} {gi : Ev → Option D} {f : Ev → Option (D × Ev)} (h : OkE f sl fun x s => ∃ d k z, eVar j s = some d ∧ gi s = some k ∧ opPut d k x = some z ∧ R (.nx (s.set j (some z)))) : OkS (sSto j kNil gi f) sl R := by
  obtain ⟨x, s, h1, d, k, z, h2, h3, h4, q⟩ := h
  refine ⟨_, ?_, q⟩
  unfold sSto
  rw [h1, Option.bind_some]
  show (some []).bind _ = _
  rw [Option.bind_some]
  show (eVar j s).bind _ = _
  rw [h2, Option.bind_some]
  show (some d).bind _ = _
  rw [Option.bind_some]
  show (gi s).bind _ = _
  rw [h3, Option.bind_some]
  show (opPut d k x).map _ = _
  rw [h4]
  rfl
theorem okS_par {fr : Ev → Option (List D × Ev)} {is : List Nat} (h : OkL fr sl fun ds s => ∃ s', gsSets is ds s = some s' ∧ R (.nx s')) : OkS (sPar fr is) sl R := by
  obtain ⟨ds, s, h1, s', h2, q⟩ := h
  refine ⟨_, ?_, q⟩
  unfold sPar
  rw [h1, Option.bind_some]
  show (gsSets is ds s).map _ = _
  rw [h2]
  rfl
theorem okS_skip (q : R (.nx sl)) : OkS sSkip sl R := ⟨_, rfl, q⟩
theorem okS_asg {f : Ev → Option (D × Ev)} {i : Nat} (h : OkE f sl fun d s => i < s.length ∧ R (.nx (s.set i (some d)))) : OkS (sAsg f (gSet i)) sl R := by
  obtain ⟨d, s, h1, h2, q⟩ := h
  refine ⟨_, ?_, q⟩
  unfold sAsg
  rw [h1, Option.bind_some]
  show (gSet i d s).map _ = _
  unfold gSet
  rw [if_pos h2]
  rfl
theorem okS_asgT {f : Ev → Option (D × Ev)} {g : D → Ev → Option Ev} (h : OkE f sl fun d s => ∃ s', g d s = some s' ∧ R (.nx s')) : OkS (sAsg f g) sl R := by
  obtain ⟨d, s, h1, s', h2, q⟩ := h
  refine ⟨_, ?_, q⟩
  unfold sAsg
  rw [h1, Option.bind_some]
  show (g d s).map _ = _
  rw [h2]
  rfl
theorem okS_drop {f : Ev → Option (D × Ev)} (h : OkE f sl fun _ s => R (.nx s)) : OkS (sDrop f) sl R := by
  obtain ⟨d, s, h1, q⟩ := h
  exact ⟨_, by unfold sDrop; rw [h1]; rfl, q⟩
theorem okS_ret {f : Ev → Option (D × Ev)} (h : OkE f sl fun d s => R (.rt d s)) : OkS (sRet f) sl R := by
  obtain ⟨d, s, h1, q⟩ := h
  exact ⟨_, by unfold sRet; rw [h1]; rfl, q⟩
theorem okS_if {fc : Ev → Option (Bool × Ev)} {Fa Fb : Ev → Option Fl} (h : OkB fc sl fun b s => if b = true then OkS Fa s R else OkS Fb s R) : OkS (sIf fc Fa Fb) sl R := by
  obtain ⟨b, s, h1, h2⟩ := h
  cases b with
  | true =>
    obtain ⟨d, h3, q⟩ := h2
    exact ⟨d, by unfold sIf; rw [h1, Option.bind_some]; exact h3, q⟩
  | false =>
    obtain ⟨d, h3, q⟩ := h2
    exact ⟨d, by unfold sIf; rw [h1, Option.bind_some]; exact h3, q⟩
/-- the place itself is changed -/
theorem okS_meth0 {j : Nat} {fr : Ev → Option (List D × Ev)} {op : D → List D → Option D} {d : D} (hd : eVar j sl = some d) (h : OkL fr sl fun ds s => ∃ z, op d ds = some z ∧ R (.nx (s.set j (some z)))) : OkS (sMeth j kNil fr op) sl R := by
  obtain ⟨ds, s, h1, z, h2, q⟩ := h
  refine ⟨_, ?_, q⟩
  unfold sMeth
  show (some []).bind _ = _
  rw [Option.bind_some, hd, Option.bind_some]
  show (some d).bind _ = _
  rw [Option.bind_some, h1, Option.bind_some]
  show ((op d ds).map _) = _
  rw [h2]
  rfl
theorem okE_pop0 {j : Nat} {fr : Ev → Option (List D × Ev)} {op : D → List D → Option (D × D)} {d : D} (hd : eVar j sl = some d) (h : OkL fr sl fun ds s => ∃ z d2, op d ds = some (z, d2) ∧ Q z (s.set j (some d2))) : OkE (mPop j kNil fr op) sl Q := by
  obtain ⟨ds, s, h1, z, d2, h2, q⟩ := h
  refine ⟨z, _, ?_, q⟩
  unfold mPop
  show (some []).bind _ = _
  rw [Option.bind_some, hd, Option.bind_some]
  show (some d).bind _ = _
  rw [Option.bind_some, h1, Option.bind_some]
  show (op d ds).bind _ = _
  rw [h2]
  rfl
/-! ### loops -/
theorem okF_for {α : Type} {f : α → D} {g : D → Ev → Option Ev} {F : Ev → Option Fl} {xs : List α} (I : List α → Ev → Prop)
    (st : ∀ done x rest s, xs = done ++ x :: rest → I done s → ∃ s1, g (f x) s = some s1 ∧ OkS F s1 fun fl => match fl with | .nx s2 => I (done ++ [x]) s2 | .ct s2 => I (done ++ [x]) s2 | .bk s2 => R (.nx s2) | .rt d s2 => R (.rt d s2))
    (en : ∀ s, I xs s → R (.nx s)) : ∀ (done rest : List α) (s : Ev), xs = done ++ rest → I done s → ∃ fl, forF g F (rest.map f) s = some fl ∧ R fl
  | done, [], s, e, h => by
    rw [List.append_nil] at e
    subst e
    exact ⟨_, rfl, en s h⟩
  | done, x :: rest, s, e, h => by
    obtain ⟨s1, h1, fl, h2, h3⟩ := st done x rest s e h
    have e1 : forF g F ((x :: rest).map f) s = (F s1).bind fun fl => match fl with
      | .nx s => forF g F (rest.map f) s
      | .ct s => forF g F (rest.map f) s
      | .bk s => some (.nx s)
      | .rt d s => some (.rt d s) := by
      show (g (f x) s).bind _ = _
      rw [h1]
      rfl
    rw [e1, h2]
    cases fl with
    | nx s2 => exact okF_for I st en (done ++ [x]) rest s2 (by rw [List.append_assoc]; exact e) h3
    | ct s2 => exact okF_for I st en (done ++ [x]) rest s2 (by rw [List.append_assoc]; exact e) h3
    | bk s2 => exact ⟨_, rfl, h3⟩
    | rt d s2 => exact ⟨_, rfl, h3⟩
theorem okS_for {α : Type} (f : α → D) {g : D → Ev → Option Ev} {F : Ev → Option Fl} {fi : Ev → Option (List D × Ev)} (xs : List α) (I : List α → Ev → Prop)
    (hi : OkL fi sl fun ds s => ds = xs.map f ∧ I [] s)
    (st : ∀ done x rest s, xs = done ++ x :: rest → I done s → ∃ s1, g (f x) s = some s1 ∧ OkS F s1 fun fl => match fl with | .nx s2 => I (done ++ [x]) s2 | .ct s2 => I (done ++ [x]) s2 | .bk s2 => R (.nx s2) | .rt d s2 => R (.rt d s2))
    (en : ∀ s, I xs s → R (.nx s)) : OkS (sFor fi g F) sl R := by
  obtain ⟨ds, s, h1, rfl, h2⟩ := hi
  obtain ⟨fl, h3, q⟩ := okF_for I st en [] xs s rfl h2
  exact ⟨fl, by unfold sFor; rw [h1]; exact h3, q⟩
/-- a loop that keeps I, whatever it walks over -/
theorem okS_forI {g : D → Ev → Option Ev} {F : Ev → Option Fl} {fi : Ev → Option (List D × Ev)} (I : Ev → Prop)
    (hi : OkL fi sl fun _ s => I s) (st : ∀ x s, I s → ∃ s1, g x s = some s1 ∧ OkS F s1 fun fl => match fl with | .nx s2 => I s2 | .ct s2 => I s2 | .bk s2 => R (.nx s2) | .rt d s2 => R (.rt d s2))
    (en : ∀ s, I s → R (.nx s)) : OkS (sFor fi g F) sl R := by
  obtain ⟨ds, s, h1, h2⟩ := hi
  refine okS_for (fun d : D => d) ds (fun _ s => I s) ⟨ds, s, h1, by simp, h2⟩ (fun done x rest s _ h => st x s h) en
/-! ### what is collected -/
theorem lp_rel {α : Type} {f : α → D} {vs : List Nat} {g : D → Ev → Option Ev} {fb : Ev → Option (List D × Ev)} {I : Ev → Prop} {P : α → List D → Prop} : ∀ {xs : List α} {s : Ev}, (∀ x ∈ xs, ∀ s, I s → ∃ s1, g (f x) s = some s1 ∧ OkL fb s1 fun q s2 => I (wipeD s2 vs) ∧ P x q) → I s →
    ∃ (qs : List (List D)) (s' : Ev), lpF vs g fb (xs.map f) s = some (qs.flatten, s') ∧ I s' ∧ qs.length = xs.length ∧ ∀ (n : Nat) x q, xs[n]? = some x → qs[n]? = some q → P x q
  | [], s, st, h => ⟨[], s, rfl, h, rfl, fun n x q e => by simp at e⟩
  | x :: xs, s, st, h => by
    obtain ⟨s1, h1, q, s2, h2, h3, h4⟩ := st x List.mem_cons_self s h
    obtain ⟨qs, s', h5, h6, h7, h8⟩ := lp_rel (xs := xs) (fun y hy => st y (List.mem_cons_of_mem _ hy)) h3
    refine ⟨q :: qs, s', ?_, h6, by simp [h7], fun n y p e1 e2 => ?_⟩
    · show (g (f x) s).bind _ = _
      rw [h1]
      show (fb s1).bind _ = _
      rw [h2]
      show (lpF vs g fb (xs.map f) (wipeD s2 vs)).map _ = _
      rw [h5]
      rfl
    · cases n with
      | zero => simp at e1 e2; subst e1 e2; exact h4
      | succ n => exact h8 n y p (by simpa using e1) (by simpa using e2)
/-- each item kept or left -/
theorem lp_sub {α : Type} {f h : α → D} {vs : List Nat} {g : D → Ev → Option Ev} {fb : Ev → Option (List D × Ev)} {I : Ev → Prop} : ∀ {xs : List α} {s : Ev}, (∀ x ∈ xs, ∀ s, I s → ∃ s1, g (f x) s = some s1 ∧ OkL fb s1 fun q s2 => I (wipeD s2 vs) ∧ (q = [] ∨ q = [h x])) → I s →
    ∃ (ys : List α) (s' : Ev), lpF vs g fb (xs.map f) s = some (ys.map h, s') ∧ I s' ∧ ys.Sublist xs
  | [], s, st, hs => ⟨[], s, rfl, hs, List.Sublist.refl _⟩
  | x :: xs, s, st, hs => by
    obtain ⟨s1, h1, q, s2, h2, h3, h4⟩ := st x List.mem_cons_self s hs
    obtain ⟨ys, s', h5, h6, h7⟩ := lp_sub (xs := xs) (fun y hy => st y (List.mem_cons_of_mem _ hy)) h3
    have e : lpF vs g fb ((x :: xs).map f) s = some (q ++ ys.map h, s') := by
      show (g (f x) s).bind _ = _
      rw [h1]
      show (fb s1).bind _ = _
      rw [h2]
      show (lpF vs g fb (xs.map f) (wipeD s2 vs)).map _ = _
      rw [h5]
      rfl
    rcases h4 with rfl | rfl
    · exact ⟨ys, s', e, h6, h7.cons x⟩
    · exact ⟨x :: ys, s', e, h6, h7.cons₂ x⟩
/-- each item told, the slots as they were -/
theorem lp_fun {α : Type} {f : α → D} {vs : List Nat} {g : D → Ev → Option Ev} {fb : Ev → Option (List D × Ev)} {s0 : Ev} {h : α → List D} : ∀ {xs : List α}, (∀ x ∈ xs, ∃ s1, g (f x) s0 = some s1 ∧ OkL fb s1 fun q s2 => wipeD s2 vs = s0 ∧ q = h x) → lpF vs g fb (xs.map f) s0 = some (xs.flatMap h, s0)
  | [], st => rfl
  | x :: xs, st => by
    obtain ⟨s1, h1, q, s2, h2, h3, h4⟩ := st x List.mem_cons_self
    have ih := lp_fun (xs := xs) fun y hy => st y (List.mem_cons_of_mem _ hy)
    show (g (f x) s0).bind _ = _
    rw [h1]
    show (fb s1).bind _ = _
    rw [h2]
    show (lpF vs g fb (xs.map f) (wipeD s2 vs)).map _ = _
    rw [h3, ih, h4]
    rfl
theorem okE_lc {vs : List Nat} {fi : Ev → Option (List D × Ev)} {g : D → Ev → Option Ev} {fb : Ev → Option (List D × Ev)} (h : OkL fi sl fun ds s => ∃ out s2, lpF vs g fb ds (wipeD s vs) = some (out, s2) ∧ out.length ≤ sizeLine ∧ Q (.lst out) (putBack s s2 vs)) : OkE (mLc vs fi g fb) sl Q := by
  obtain ⟨ds, s, h1, out, s2, h2, h3, q⟩ := h
  refine ⟨_, _, ?_, q⟩
  unfold mLc
  rw [h1, Option.bind_some]
  show (lpF vs g fb ds (wipeD s vs)).bind _ = _
  rw [h2, Option.bind_some]
  exact if_pos h3
/-- a pure one -/
theorem pd_lc {α : Type} (f : α → D) (h : α → List D) {vs : List Nat} {it : Ev → Option (List D)} {g : D → Ev → Option Ev} {fb : Ev → Option (List D × Ev)} {xs : List α} (hi : it sl = some (xs.map f)) (st : ∀ x ∈ xs, ∃ s1, g (f x) (wipeD sl vs) = some s1 ∧ OkL fb s1 fun q s2 => wipeD s2 vs = wipeD sl vs ∧ q = h x)
    (hl : (xs.flatMap h).length ≤ sizeLine) : pdF (mLc vs (liftL it) g fb) sl = some (.lst (xs.flatMap h)) := by
  unfold pdF mLc liftL
  rw [hi]
  show ((lpF vs g fb (xs.map f) (wipeD sl vs)).bind _).map _ = _
  rw [lp_fun st, Option.bind_some]
  show (if _ then _ else _ : Option (D × Ev)).map _ = _
  rw [if_pos hl]
  rfl
theorem put1 {i : Nat} : putBack sl (wipeD sl [i]) [i] = sl := by
  show ((sl.set i none).set i (sl[i]?).join) = sl
  rw [List.set_set]
  refine List.ext_getElem? fun j => ?_
  by_cases e : i = j
  · subst e
    by_cases h : i < sl.length
    · rw [List.getElem?_set_self h, List.getElem?_eq_getElem h]; rfl
    · rw [List.getElem?_eq_none (by rw [List.length_set]; omega), List.getElem?_eq_none (by omega)]
  · rw [List.getElem?_set_ne e]
/-- one item, of a typed row -/
theorem lc1 {α : Type} (f : α → D) (h : α → D) {i : Nat} {it : Ev → Option (List D)} {e : Ev → Option D} {xs : List α} (hlt : i < sl.length) (hi : it sl = some (xs.map f)) (st : ∀ x ∈ xs, e (sl.set i (some (f x))) = some (h x)) (hl : xs.length ≤ sizeLine) :
    mLc [i] (liftL it) (gSet i) (bdF tYesF (lift e)) sl = some (.lst (xs.map h), sl) := by
  have e0 : ∀ l : List α, (l.flatMap fun x => [h x]) = l.map h := fun l => by
    induction l with
    | nil => rfl
    | cons x l ih => rw [List.flatMap_cons, ih]; rfl
  have key := lp_fun (f := f) (vs := [i]) (g := gSet i) (fb := bdF tYesF (lift e)) (s0 := wipeD sl [i]) (h := fun x => [h x]) (xs := xs) (fun x hx => ?_)
  · unfold mLc liftL
    rw [hi]
    show (lpF [i] (gSet i) _ (xs.map f) (wipeD sl [i])).bind _ = _
    rw [key, Option.bind_some, e0]
    show (if _ then _ else _) = _
    rw [if_pos (by rw [List.length_map]; exact hl), put1]
  · have e1 : (sl.set i none).set i (some (f x)) = sl.set i (some (f x)) := List.set_set ..
    refine ⟨sl.set i (some (f x)), ?_, [h x], sl.set i (some (f x)), ?_, ?_, rfl⟩
    · show gSet i (f x) (sl.set i none) = _
      unfold gSet
      rw [if_pos (by rw [List.length_set]; exact hlt), e1]
    · unfold bdF tYesF lift
      simp only [Option.bind_some, if_true]
      rw [st x hx]
      rfl
    · show (sl.set i (some (f x))).set i none = sl.set i none
      exact List.set_set ..
/-- the items that are let -/
theorem lcf {α : Type} (f : α → D) (h : α → D) (b : α → Bool) {i : Nat} {it : Ev → Option (List D)} {c : Ev → Option Bool} {e : Ev → Option D} {xs : List α} (hlt : i < sl.length) (hi : it sl = some (xs.map f)) (sc : ∀ x ∈ xs, c (sl.set i (some (f x))) = some (b x)) (st : ∀ x ∈ xs, b x = true → e (sl.set i (some (f x))) = some (h x)) (hl : xs.length ≤ sizeLine) :
    mLc [i] (liftL it) (gSet i) (bdF (liftB c) (lift e)) sl = some (.lst ((xs.filter b).map h), sl) := by
  have e0 : ∀ l : List α, (l.flatMap fun x => if b x = true then [h x] else []) = (l.filter b).map h := fun l => by
    induction l with
    | nil => rfl
    | cons x l ih => rw [List.flatMap_cons, ih]; cases hb : b x <;> simp [hb]
  have key := lp_fun (f := f) (vs := [i]) (g := gSet i) (fb := bdF (liftB c) (lift e)) (s0 := wipeD sl [i]) (h := fun x => if b x = true then [h x] else []) (xs := xs) (fun x hx => ?_)
  · unfold mLc
    unfold liftL
    rw [hi]
    show (lpF [i] (gSet i) _ (xs.map f) (wipeD sl [i])).bind _ = _
    rw [key, Option.bind_some, e0]
    show (if _ then _ else _) = _
    rw [if_pos (by rw [List.length_map]; exact Nat.le_trans (List.length_filter_le ..) hl), put1]
  · have e1 : (sl.set i none).set i (some (f x)) = sl.set i (some (f x)) := List.set_set ..
    refine ⟨sl.set i (some (f x)), ?_, if b x = true then [h x] else [], sl.set i (some (f x)), ?_, ?_, rfl⟩
    · show gSet i (f x) (sl.set i none) = _
      unfold gSet
      rw [if_pos (by rw [List.length_set]; exact hlt), e1]
    · unfold bdF liftB lift
      rw [sc x hx]
      cases hb : b x with
      | false => rfl
      | true =>
        simp only [Option.map_some, Option.bind_some, if_true]
        rw [st x hx hb]
        rfl
    · show (sl.set i (some (f x))).set i none = sl.set i none
      exact List.set_set ..
theorem pd_lc1 {α : Type} (f : α → D) (h : α → D) {i : Nat} {it : Ev → Option (List D)} {e : Ev → Option D} {xs : List α} (hlt : i < sl.length) (hi : it sl = some (xs.map f)) (st : ∀ x ∈ xs, e (sl.set i (some (f x))) = some (h x)) (hl : xs.length ≤ sizeLine) :
    pdF (mLc [i] (liftL it) (gSet i) (bdF tYesF (lift e))) sl = some (.lst (xs.map h)) := by
  unfold pdF; rw [lc1 f h hlt hi st hl]; rfl
theorem pd_lcf {α : Type} (f : α → D) (h : α → D) (b : α → Bool) {i : Nat} {it : Ev → Option (List D)} {c : Ev → Option Bool} {e : Ev → Option D} {xs : List α} (hlt : i < sl.length) (hi : it sl = some (xs.map f)) (sc : ∀ x ∈ xs, c (sl.set i (some (f x))) = some (b x)) (st : ∀ x ∈ xs, b x = true → e (sl.set i (some (f x))) = some (h x)) (hl : xs.length ≤ sizeLine) :
    pdF (mLc [i] (liftL it) (gSet i) (bdF (liftB c) (lift e))) sl = some (.lst ((xs.filter b).map h)) := by
  unfold pdF; rw [lcf f h b hlt hi sc st hl]; rfl
theorem okE_of {f : Ev → Option (D × Ev)} {d : D} {s : Ev} (h : f sl = some (d, s)) (q : Q d s) : OkE f sl Q := ⟨d, s, h, q⟩
theorem okL_rg {op : List D → Option (List D)} {fr : Ev → Option (List D × Ev)} (h : OkL fr sl fun ds s => ∃ xs, op ds = some xs ∧ QL xs s) : OkL (iRg op fr) sl QL := by
  obtain ⟨ds, s, h1, xs, h2, q⟩ := h
  exact ⟨xs, s, by unfold iRg; rw [h1, Option.bind_some, h2]; rfl, q⟩
theorem okL_sq {f : Ev → Option (D × Ev)} (h : OkE f sl fun d s => ∃ xs, seqD d = some xs ∧ QL xs s) : OkL (iSq f) sl QL := by
  obtain ⟨ds, s, h1, xs, h2, q⟩ := h
  exact ⟨xs, s, by unfold iSq; rw [h1, Option.bind_some, h2]; rfl, q⟩
theorem okL_bd {ft : Ev → Option (Bool × Ev)} {fe : Ev → Option (D × Ev)} (h : OkB ft sl fun b s => if b = true then OkE fe s fun d s2 => QL [d] s2 else QL [] s) : OkL (bdF ft fe) sl QL := by
  obtain ⟨b, s, h1, h2⟩ := h
  cases b with
  | true =>
    obtain ⟨d, s2, h3, q⟩ := h2
    exact ⟨[d], s2, by unfold bdF; rw [h1, Option.bind_some]; show (fe s).map _ = _; rw [h3]; rfl, q⟩
  | false => exact ⟨[], s, by unfold bdF; rw [h1, Option.bind_some]; rfl, h2⟩
theorem okB_yes (q : QB true sl) : OkB tYesF sl QB := ⟨true, sl, rfl, q⟩
theorem okL_bd2 {vs1 : List Nat} {ft : Ev → Option (Bool × Ev)} {f1 : Ev → Option (List D × Ev)} {g1 : D → Ev → Option Ev} {fb : Ev → Option (List D × Ev)} (h : OkB ft sl fun b s => if b = true then OkL f1 s fun ds s2 => ∃ out s3, lpF vs1 g1 fb ds (wipeD s2 vs1) = some (out, s3) ∧ QL out s3 else QL [] s) : OkL (bd2F vs1 ft f1 g1 fb) sl QL := by
  obtain ⟨b, s, h1, h2⟩ := h
  cases b with
  | true =>
    obtain ⟨d, s2, h3, out, s3, h4, q⟩ := h2
    exact ⟨out, s3, by unfold bd2F; rw [h1, Option.bind_some]; show (f1 s).bind _ = _; rw [h3]; exact h4, q⟩
  | false => exact ⟨[], s, by unfold bd2F; rw [h1, Option.bind_some]; rfl, h2⟩
/-! ### defs -/
theorem run_ok {ps : List PM} {n : Nat} {F0 : Ev → Option Fl} {ds : List D} {P : D → List D → Prop} (h : OkS F0 (startD n ds) fun fl => match fl with | .rt d s => P d (outP ps ds s) | .nx s => P .non (outP ps ds s) | _ => False) : ∃ z q, runD ps n F0 ds = some (z, q) ∧ P z q := by
  obtain ⟨fl, h1, h2⟩ := h
  unfold runD
  rw [h1, Option.bind_some]
  cases fl with
  | nx s => exact ⟨_, _, rfl, h2⟩
  | rt d s => exact ⟨_, _, rfl, h2⟩
  | bk s => exact h2.elim
  | ct s => exact h2.elim
theorem run_rt {ps : List PM} {n : Nat} {F0 : Ev → Option Fl} {ds q : List D} {z : D} (h : OkS F0 (startD n ds) fun fl => ∃ s, fl = .rt z s ∧ outP ps ds s = q) : runD ps n F0 ds = some (z, q) := by
  obtain ⟨fl, h1, s, rfl, rfl⟩ := h
  unfold runD
  rw [h1]
  rfl
theorem rtEx {d z : D} {s : Ev} (h : d = z) : ∃ s', Fl.rt d s = Fl.rt z s' := ⟨s, by rw [h]⟩
def allFz : List PM → Bool
  | [] => true
  | .fz _ :: ps => allFz ps
  | .io _ :: _ => false
theorem outP_allFz : ∀ {ps : List PM} (h : allFz ps = true) (ds : List D) (s : Ev), outP ps ds s = ds
  | [], _, ds, s => by cases ds <;> rfl
  | .fz _ :: ps, h, [], s => by cases s <;> rfl
  | .fz _ :: ps, h, d :: ds, [] => rfl
  | .fz _ :: ps, h, d :: ds, _ :: s => by
    show d :: outP ps ds s = d :: ds
    rw [outP_allFz (ps := ps) h ds s]
/-- a def that writes no parameter -/
theorem run_fz {ps : List PM} {n : Nat} {F0 : Ev → Option Fl} {ds : List D} {z : D} (h : OkS F0 (startD n ds) fun fl => ∃ s, fl = .rt z s) (hp : allFz ps = true := by rfl) : runD ps n F0 ds = some (z, ds) :=
  run_rt (h.imp fun fl ⟨s, e⟩ => ⟨s, e, outP_allFz hp ds s⟩)
/-- what a call of a def without written parameters gives -/
theorem eCall_of {F : List D → Option (D × List D)} {gr : Ev → Option (List D)} {as q : List D} {z : D} (h1 : gr sl = some as) (h2 : F as = some (z, q)) : eCall F gr sl = some z := by
  unfold eCall eN
  rw [h1, Option.bind_some, h2]
  rfl
theorem eBin_of {op : D → D → Option D} {a b : Ev → Option D} {x y z : D} (h1 : a sl = some x) (h2 : b sl = some y) (h3 : op x y = some z) : eBin op a b sl = some z := by
  unfold eBin
  rw [h1, Option.bind_some, h2, Option.bind_some, h3]
theorem eN_of {op : List D → Option D} {gr : Ev → Option (List D)} {as : List D} {z : D} (h1 : gr sl = some as) (h2 : op as = some z) : eN op gr sl = some z := by
  unfold eN
  rw [h1, Option.bind_some, h2]
theorem eCons_of {a : Ev → Option D} {gr : Ev → Option (List D)} {x : D} {xs : List D} (h1 : a sl = some x) (h2 : gr sl = some xs) : eCons a gr sl = some (x :: xs) := by
  unfold eCons
  rw [h1, Option.bind_some, h2]
  rfl
theorem eNil_of : eNil sl = some [] := rfl
theorem eUn_of {op : D → Option D} {a : Ev → Option D} {x z : D} (h1 : a sl = some x) (h3 : op x = some z) : eUn op a sl = some z := by
  unfold eUn
  rw [h1, Option.bind_some, h3]
theorem eTup_of {gr : Ev → Option (List D)} {xs : List D} (h : gr sl = some xs) (hl : xs.length ≤ sizeLine) : eTup gr sl = some (.tup xs) := by
  unfold eTup
  rw [h]
  exact if_pos hl
theorem eLst_of {gr : Ev → Option (List D)} {xs : List D} (h : gr sl = some xs) (hl : xs.length ≤ sizeLine) : eLst gr sl = some (.lst xs) := by
  unfold eLst
  rw [h]
  exact if_pos hl
theorem eSq_of {a : Ev → Option D} {x : D} {xs : List D} (h1 : a sl = some x) (h2 : seqD x = some xs) : eSq a sl = some xs := by
  unfold eSq
  rw [h1, Option.bind_some, h2]
theorem eT_of {a : Ev → Option D} {x : D} {b : Bool} (h1 : a sl = some x) (h2 : truD x = some b) : eT a sl = some b := by
  unfold eT
  rw [h1, Option.bind_some, h2]
theorem eCh_of {g : Ev → Option D} {f : D → Ev → Option Bool} {d : D} {b : Bool} (h1 : g sl = some d) (h2 : f d sl = some b) : eCh g f sl = some (.bl b) := by
  unfold eCh
  rw [h1, Option.bind_some, h2]; rfl
theorem eChT_of {g : Ev → Option D} {f : D → Ev → Option Bool} {d : D} {b : Bool} (h1 : g sl = some d) (h2 : f d sl = some b) : eChT g f sl = some b := by
  unfold eChT
  rw [h1, Option.bind_some, h2]
theorem cLast_of {op : D → D → Option D} {g : Ev → Option D} {d e z : D} {b : Bool} (h1 : g sl = some e) (h2 : op d e = some z) (h3 : truD z = some b) : cLast op g d sl = some b := by
  unfold cLast
  rw [h1, Option.bind_some, h2, Option.bind_some, h3]
theorem cLink_of {op : D → D → Option D} {g : Ev → Option D} {f : D → Ev → Option Bool} {d e z : D} {k b : Bool} (h1 : g sl = some e) (h2 : op d e = some z) (h3 : truD z = some k) (h4 : k = true → f e sl = some b) : cLink op g f d sl = some (k && b) := by
  unfold cLink
  rw [h1, Option.bind_some, h2, Option.bind_some, h3, Option.bind_some]
  cases k with
  | true => exact h4 rfl
  | false => rfl
theorem eAndV_of {a c : Ev → Option D} {x z : D} {k : Bool} (h1 : a sl = some x) (h2 : truD x = some k) (h3 : k = true → c sl = some z) (h4 : k = false → x = z) : eAndV a c sl = some z := by
  unfold eAndV
  rw [h1, Option.bind_some, h2, Option.bind_some]
  cases k with
  | true => exact h3 rfl
  | false => rw [h4 rfl]; rfl
theorem eOrV_of {a c : Ev → Option D} {x z : D} {k : Bool} (h1 : a sl = some x) (h2 : truD x = some k) (h3 : k = false → c sl = some z) (h4 : k = true → x = z) : eOrV a c sl = some z := by
  unfold eOrV
  rw [h1, Option.bind_some, h2, Option.bind_some]
  cases k with
  | false => exact h3 rfl
  | true => rw [h4 rfl]; rfl
theorem eRg_of {op : List D → Option (List D)} {gr : Ev → Option (List D)} {xs ys : List D} (h1 : gr sl = some xs) (h2 : op xs = some ys) : eRg op gr sl = some ys := by
  unfold eRg
  rw [h1, Option.bind_some, h2]
theorem eNot_of {a : Ev → Option Bool} {b : Bool} (h1 : a sl = some b) : eNot a sl = some (!b) := by
  unfold eNot
  rw [h1]; rfl
theorem eAnd_of {a c : Ev → Option Bool} {b b' : Bool} (h1 : a sl = some b) (h2 : b = true → c sl = some b') : eAnd a c sl = some (b && b') := by
  unfold eAnd
  rw [h1, Option.bind_some]
  cases b with
  | true => exact h2 rfl
  | false => rfl
theorem eOr_of {a c : Ev → Option Bool} {b b' : Bool} (h1 : a sl = some b) (h2 : b = false → c sl = some b') : eOr a c sl = some (b || b') := by
  unfold eOr
  rw [h1, Option.bind_some]
  cases b with
  | true => rfl
  | false => exact h2 rfl
theorem eIf_of {c : Ev → Option Bool} {a b : Ev → Option D} {k : Bool} {x : D} (h1 : c sl = some k) (h2 : k = true → a sl = some x) (h3 : k = false → b sl = some x) : eIf c a b sl = some x := by
  unfold eIf
  rw [h1, Option.bind_some]
  cases k with
  | true => exact h2 rfl
  | false => exact h3 rfl
theorem eSl_of {a : Ev → Option D} {gl gh : Ev → Option (Option Int)} {x z : D} {lo hi : Option Int} (h1 : a sl = some x) (h2 : gl sl = some lo) (h3 : gh sl = some hi) (h4 : opSl lo hi x = some z) : eSl a gl gh sl = some z := by
  unfold eSl
  rw [h1, Option.bind_some, h2, Option.bind_some, h3, Option.bind_some, h4]
end
/-! ### places -/
theorem atI_nat {α : Type} {xs : List α} {n : Nat} {x : α} (h : xs[n]? = some x) : atI xs (n : Int) = some x := by
  have hn := (List.getElem?_eq_some_iff.mp h).1
  unfold atI ixN
  rw [if_pos (by omega), if_pos (by omega)]
  simpa using h
theorem atI_m1 {α : Type} {xs : List α} {x : α} (h : xs.getLast? = some x) : atI xs (-1) = some x := by
  have hn : xs ≠ [] := fun e => by subst e; simp at h
  have hp : 0 < xs.length := List.length_pos_iff.mpr hn
  unfold atI ixN
  rw [if_neg (by omega), if_pos (by omega)]
  rw [List.getLast?_eq_getElem?] at h
  rw [show (-1 + (xs.length : Int)).toNat = xs.length - 1 from by omega]
  exact h
theorem ixN_nat {n k : Nat} (h : k < n) : ixN n (k : Int) = some k := by
  unfold ixN
  rw [if_pos (by omega), if_pos (by omega)]
  rfl
/-- typed data out of shapes -/
theorem map_of {α : Type} {f : α → D} {P : α → Prop} : ∀ {ds : List D}, (∀ x ∈ ds, ∃ a, x = f a ∧ P a) → ∃ as : List α, ds = as.map f ∧ ∀ a ∈ as, P a
  | [], _ => ⟨[], rfl, fun _ h => nomatch h⟩
  | d :: ds, h => by
    obtain ⟨a, e, p⟩ := h d List.mem_cons_self
    obtain ⟨as, e2, p2⟩ := map_of (ds := ds) fun x hx => h x (List.mem_cons_of_mem _ hx)
    exact ⟨a :: as, by rw [e, e2]; rfl, fun b hb => (List.mem_cons.mp hb).elim (fun z => z ▸ p) (p2 b)⟩
def IsI (d : D) : Prop := ∃ i : Int, d = .int i
def TupOf (P : D → Prop) (n : Nat) (d : D) : Prop := ∃ ds, d = .tup ds ∧ ds.length ≤ n ∧ ∀ x ∈ ds, P x
def LstOf (P : D → Prop) (n : Nat) (d : D) : Prop := ∃ ds, d = .lst ds ∧ ds.length ≤ n ∧ ∀ x ∈ ds, P x
theorem IsI.mk (i : Int) : IsI (.int i) := ⟨i, rfl⟩
section
variable {P : D → Prop} {n m : Nat} {d e : D}
theorem TupOf.mono (h : TupOf P n d) (hl : n ≤ m) : TupOf P m d := let ⟨ds, e, l, p⟩ := h; ⟨ds, e, Nat.le_trans l hl, p⟩
theorem LstOf.mono (h : LstOf P n d) (hl : n ≤ m) : LstOf P m d := let ⟨ds, e, l, p⟩ := h; ⟨ds, e, Nat.le_trans l hl, p⟩
theorem cutD_len (xs : List D) (lo hi : Option Int) : (cutD xs lo hi).length ≤ xs.length := by
  unfold cutD
  rw [List.length_take, List.length_drop]; omega
theorem TupOf.sl (h : TupOf P n d) (lo hi : Option Int) : ∃ z, opSl lo hi d = some z ∧ TupOf P n z := by
  obtain ⟨ds, rfl, l, p⟩ := h
  exact ⟨_, rfl, _, rfl, Nat.le_trans (cutD_len _ _ _) l, fun x hx => p x (cutD_mem hx)⟩
theorem LstOf.sl (h : LstOf P n d) (lo hi : Option Int) : ∃ z, opSl lo hi d = some z ∧ LstOf P n z := by
  obtain ⟨ds, rfl, l, p⟩ := h
  exact ⟨_, rfl, _, rfl, Nat.le_trans (cutD_len _ _ _) l, fun x hx => p x (cutD_mem hx)⟩
theorem TupOf.add (h : TupOf P n d) (k : TupOf P m e) (hl : n + m ≤ 16777216) : ∃ z, opAdd d e = some z ∧ TupOf P (n + m) z := by
  obtain ⟨ds, rfl, l, p⟩ := h
  obtain ⟨es, rfl, l2, p2⟩ := k
  refine ⟨_, if_pos (by rw [sizeLine_eq]; omega), _, rfl, by rw [List.length_append]; omega, fun x hx => (List.mem_append.mp hx).elim (p x) (p2 x)⟩
theorem LstOf.add (h : LstOf P n d) (k : LstOf P m e) (hl : n + m ≤ 16777216) : ∃ z, opAdd d e = some z ∧ LstOf P (n + m) z := by
  obtain ⟨ds, rfl, l, p⟩ := h
  obtain ⟨es, rfl, l2, p2⟩ := k
  refine ⟨_, if_pos (by rw [sizeLine_eq]; omega), _, rfl, by rw [List.length_append]; omega, fun x hx => (List.mem_append.mp hx).elim (p x) (p2 x)⟩
theorem TupOf.back (h : TupOf P n d) : ∃ z, opBack d = some z ∧ TupOf P n z := by
  obtain ⟨ds, rfl, l, p⟩ := h
  exact ⟨_, rfl, _, rfl, by rw [List.length_reverse]; exact l, fun x hx => p x (List.mem_reverse.mp hx)⟩
theorem LstOf.back (h : LstOf P n d) : ∃ z, opBack d = some z ∧ LstOf P n z := by
  obtain ⟨ds, rfl, l, p⟩ := h
  exact ⟨_, rfl, _, rfl, by rw [List.length_reverse]; exact l, fun x hx => p x (List.mem_reverse.mp hx)⟩
theorem TupOf.one {x : D} (h : P x) : TupOf P 1 (.tup [x]) := ⟨_, rfl, Nat.le_refl _, fun y hy => by simp at hy; subst hy; exact h⟩
theorem LstOf.one {x : D} (h : P x) : LstOf P 1 (.lst [x]) := ⟨_, rfl, Nat.le_refl _, fun y hy => by simp at hy; subst hy; exact h⟩
theorem TupOf.nil : TupOf P n (.tup []) := ⟨_, rfl, Nat.zero_le _, fun y hy => nomatch hy⟩
theorem LstOf.nil : LstOf P n (.lst []) := ⟨_, rfl, Nat.zero_le _, fun y hy => nomatch hy⟩
end
end Dw
/-! Dw, part Mc: typed data: equal, in, sorted; a thing picked; answers compared. -/
namespace Dw
open PySem PySem.Spec PyProof.Rows L2 PySem.W

/-! ### data of a type -/
/-- f's data are told apart by == , at most k deep -/
structure Eqs {α : Type} [DecidableEq α] (f : α → D) (k : Nat) : Prop where
  plain : ∀ a, (toPy (f a)).plain = true
  depth : ∀ a, (toPy (f a)).depth ≤ k
  eq : ∀ a b, deq (f a) (f b) = decide (a = b)
section
variable {α β : Type} [DecidableEq α] [DecidableEq β] {f : α → D} {g : β → D} {k l : Nat}
theorem Eqs.cmp (h : Eqs f k) (hk : k ≤ 60) (a : α) : cmpOk (f a) = true := by
  unfold cmpOk
  rw [h.plain, Bool.true_and, decide_eq_true_eq]
  exact Nat.le_trans (h.depth a) hk
theorem eqs_int : Eqs D.int 0 := ⟨fun _ => rfl, fun _ => Nat.le_refl _, fun a b => by show (a == b) = _; rw [Bool.eq_iff_iff]; simp⟩
theorem eqs_nat : Eqs (fun i : Nat => D.int i) 0 := ⟨fun _ => rfl, fun _ => Nat.le_refl _, fun a b => by show ((a : Int) == b) = _; rw [Bool.eq_iff_iff]; simp; exact Int.ofNat_inj⟩
theorem eqs_bl : Eqs D.bl 0 := ⟨fun _ => rfl, fun _ => Nat.le_refl _, fun a b => by show (a == b) = _; rw [Bool.eq_iff_iff]; simp⟩
theorem toPys_map (xs : List α) : toPys (xs.map f) = xs.map fun a => toPy (f a) := by rw [toPys_eq, List.map_map]; rfl
theorem eqs_all (h : Eqs f k) : ∀ xs ys : List α, PyData.eqvAll (toPys (xs.map f)) (toPys (ys.map f)) = decide (xs = ys)
  | [], [] => by simp [toPys, PyData.eqvAll]
  | [], _ :: _ => by simp [toPys, PyData.eqvAll]
  | _ :: _, [] => by simp [toPys, PyData.eqvAll]
  | x :: xs, y :: ys => by
    show (PyData.eqv (toPy (f x)) (toPy (f y)) && PyData.eqvAll (toPys (xs.map f)) (toPys (ys.map f))) = _
    rw [eqs_all h xs ys, show PyData.eqv (toPy (f x)) (toPy (f y)) = decide (x = y) from h.eq x y, Bool.eq_iff_iff]
    simp
theorem eqs_plain (h : Eqs f k) : ∀ xs : List α, PyData.plainAll (toPys (xs.map f)) = true
  | [] => by simp [toPys, PyData.plainAll]
  | x :: xs => by
    show ((toPy (f x)).plain && PyData.plainAll (toPys (xs.map f))) = true
    rw [h.plain, eqs_plain h xs]; rfl
theorem eqs_depth (h : Eqs f k) : ∀ xs : List α, PyData.depthAll (toPys (xs.map f)) ≤ k
  | [] => by simp [toPys, PyData.depthAll]
  | x :: xs => by
    show max (toPy (f x)).depth (PyData.depthAll (toPys (xs.map f))) ≤ k
    exact Nat.max_le.mpr ⟨h.depth x, eqs_depth h xs⟩
theorem eqs_lst (h : Eqs f k) : Eqs (fun xs : List α => D.lst (xs.map f)) (k + 1) :=
  ⟨fun xs => by show PyData.plain (.list _) = true; unfold PyData.plain; exact eqs_plain h xs, fun xs => by show PyData.depth (.list _) ≤ _; unfold PyData.depth; exact Nat.succ_le_succ (eqs_depth h xs), fun xs ys => by show PyData.eqv (.list _) (.list _) = _; unfold PyData.eqv; exact eqs_all h xs ys⟩
theorem eqs_tup (h : Eqs f k) : Eqs (fun xs : List α => D.tup (xs.map f)) (k + 1) :=
  ⟨fun xs => by show PyData.plain (.tuple _) = true; unfold PyData.plain; exact eqs_plain h xs, fun xs => by show PyData.depth (.tuple _) ≤ _; unfold PyData.depth; exact Nat.succ_le_succ (eqs_depth h xs), fun xs ys => by show PyData.eqv (.tuple _) (.tuple _) = _; unfold PyData.eqv; exact eqs_all h xs ys⟩
theorem eqs_pair (h : Eqs f k) (h2 : Eqs g k) : Eqs (fun p : α × β => D.tup [f p.1, g p.2]) (k + 1) :=
  ⟨fun p => by show PyData.plain (.tuple [_, _]) = true; simp [PyData.plain, PyData.plainAll, h.plain, h2.plain],
   fun p => by
    show PyData.depth (.tuple [_, _]) ≤ _
    simp only [PyData.depth, PyData.depthAll]
    have a := h.depth p.1
    have b := h2.depth p.2
    omega, fun p q => by
    show PyData.eqv (.tuple [_, _]) (.tuple [_, _]) = _
    simp only [PyData.eqv, PyData.eqvAll]
    rw [show PyData.eqv (toPy (f p.1)) (toPy (f q.1)) = _ from h.eq _ _, show PyData.eqv (toPy (g p.2)) (toPy (g q.2)) = _ from h2.eq _ _, Bool.eq_iff_iff]
    simp [Prod.ext_iff]⟩
theorem opEq_gen {d e : D} (h1 : cmpOk d = true) (h2 : cmpOk e = true) : opEq d e = some (.bl (deq d e)) := by
  unfold opEq
  split
  · rfl
  · rw [h1, h2]; rfl
theorem opNe_gen {d e : D} (h1 : cmpOk d = true) (h2 : cmpOk e = true) : opNe d e = some (.bl (!deq d e)) := by
  unfold opNe
  split
  · rfl
  · rw [h1, h2]; rfl
theorem opEq_enc (h : Eqs f k) (hk : k ≤ 60) (a b : α) : opEq (f a) (f b) = some (.bl (decide (a = b))) := by rw [opEq_gen (h.cmp hk a) (h.cmp hk b), h.eq]
theorem opNe_enc (h : Eqs f k) (hk : k ≤ 60) (a b : α) : opNe (f a) (f b) = some (.bl (!decide (a = b))) := by rw [opNe_gen (h.cmp hk a) (h.cmp hk b), h.eq]
theorem any_enc (h : Eqs f k) (x : α) (xs : List α) : ((xs.map f).any fun y => deq y (f x)) = decide (x ∈ xs) := by
  induction xs with
  | nil => simp
  | cons y ys ih =>
    rw [List.map_cons, List.any_cons, ih, h.eq, Bool.eq_iff_iff]
    simp only [Bool.or_eq_true, decide_eq_true_eq, List.mem_cons]
    exact ⟨fun z => z.imp Eq.symm id, fun z => z.imp Eq.symm id⟩
theorem plain_all (h : Eqs f k) (xs : List α) : (toPys (xs.map f)).all PyData.plain = true := by
  rw [toPys_map, List.all_map]
  exact List.all_eq_true.mpr fun a _ => h.plain a
theorem opIn_lst (h : Eqs f k) (hk : k ≤ 60) (x : α) (xs : List α) : opIn (f x) (.lst (xs.map f)) = some (.bl (decide (x ∈ xs))) := by
  show Option.map D.bl (if (cmpOk (f x) && (toPys (xs.map f)).all PyData.plain) = true then some ((xs.map f).any fun y => deq y (f x)) else none) = _
  rw [h.cmp hk, plain_all h, any_enc h]
  rfl
theorem opIn_tup (h : Eqs f k) (hk : k ≤ 60) (x : α) (xs : List α) : opIn (f x) (.tup (xs.map f)) = some (.bl (decide (x ∈ xs))) := by
  show Option.map D.bl (if (cmpOk (f x) && (toPys (xs.map f)).all PyData.plain) = true then some ((xs.map f).any fun y => deq y (f x)) else none) = _
  rw [h.cmp hk, plain_all h, any_enc h]
  rfl
theorem opNi_lst (h : Eqs f k) (hk : k ≤ 60) (x : α) (xs : List α) : opNi (f x) (.lst (xs.map f)) = some (.bl (!decide (x ∈ xs))) := by
  have := opIn_lst h hk x xs
  unfold opIn at this
  unfold opNi
  obtain ⟨b, h1, h2⟩ := Option.map_eq_some_iff.mp this
  rw [h1, Option.map_some]
  cases h2; rfl
theorem opNi_tup (h : Eqs f k) (hk : k ≤ 60) (x : α) (xs : List α) : opNi (f x) (.tup (xs.map f)) = some (.bl (!decide (x ∈ xs))) := by
  have := opIn_tup h hk x xs
  unfold opIn at this
  unfold opNi
  obtain ⟨b, h1, h2⟩ := Option.map_eq_some_iff.mp this
  rw [h1, Option.map_some]
  cases h2; rfl
end

/-! ### sorted -/
section
variable {α : Type} {f : α → D} {le : α → α → Bool}
theorem opSorted_map {xs : List α} (ok : sortOk (xs.map f) = true) (h : ∀ a ∈ xs, ∀ b ∈ xs, leD (f a) (f b) = le a b) : opSorted [.lst (xs.map f)] = some (.lst ((xs.mergeSort le).map f)) := by
  have e : srtD (xs.map f) = (xs.mergeSort le).map f := by
    have al := (sortOk_alike ok).1
    rw [srtD_eq al]
    rw [List.map_mergeSort]
    intro a ha b hb
    rw [← h a ha b hb]
    show (!ltD (f b) (f a)) = (!dataLt (toPy (f b)) (toPy (f a)))
    rw [ltD_eq (al _ (List.mem_map.mpr ⟨_, List.mem_map.mpr ⟨b, hb, rfl⟩, rfl⟩) _ (List.mem_map.mpr ⟨_, List.mem_map.mpr ⟨a, ha, rfl⟩, rfl⟩))]
  show (if sortOk (xs.map f) then some (D.lst (srtD (xs.map f))) else none) = _
  rw [if_pos ok, e]
theorem opSorted_tup {xs : List D} : opSorted [D.tup xs] = opSorted [D.lst xs] := rfl
end
/-- ints, in order -/
def leI (a b : Int) : Bool := decide (a ≤ b)
theorem leD_int (a b : Int) : leD (.int a) (.int b) = leI a b := by
  show (!decide (b < a)) = decide (a ≤ b)
  rw [Bool.eq_iff_iff]; simp
/-- rows of ints, in order -/
def ltR : List Int → List Int → Bool
  | [], [] => false
  | [], _ :: _ => true
  | _ :: _, [] => false
  | x :: xs, y :: ys => if x = y then ltR xs ys else decide (x < y)
def leR' (a b : List Int) : Bool := !ltR b a
theorem ltDs_int : ∀ a b : List Int, ltDs (a.map .int) (b.map .int) = ltR a b
  | [], [] => by simp [ltDs, ltR]
  | [], _ :: _ => by simp [ltDs, ltR]
  | _ :: _, [] => by simp [ltDs, ltR]
  | x :: xs, y :: ys => by
    show ltDs (.int x :: xs.map .int) (.int y :: ys.map .int) = _
    unfold ltDs ltR
    rw [ltDs_int xs ys, show deq (.int x) (.int y) = decide (x = y) from eqs_int.eq x y]
    show (if decide (x = y) = true then _ else decide (x < y)) = _
    by_cases e : x = y
    · simp [e]
    · simp [e]
theorem leD_row (a b : List Int) : leD (.tup (a.map .int)) (.tup (b.map .int)) = leR' a b := by
  show (!ltD (.tup (b.map .int)) (.tup (a.map .int))) = _
  unfold ltD
  rw [ltDs_int]; rfl
theorem leD_rowL (a b : List Int) : leD (.lst (a.map .int)) (.lst (b.map .int)) = leR' a b := by
  show (!ltD (.lst (b.map .int)) (.lst (a.map .int))) = _
  unfold ltD
  rw [ltDs_int]; rfl
theorem ltR_irr : ∀ a : List Int, ltR a a = false
  | [] => rfl
  | x :: xs => by unfold ltR; rw [if_pos rfl]; exact ltR_irr xs
theorem ltR_tr : ∀ {a b c : List Int}, ltR a b = true → ltR b c = true → ltR a c = true
  | [], [], c, h, _ => by cases h
  | [], _ :: _, [], _, h => by cases h
  | [], _ :: _, _ :: _, _, _ => rfl
  | _ :: _, [], _, h, _ => by cases h
  | _ :: _, _ :: _, [], _, h => by cases h
  | x :: xs, y :: ys, z :: zs, h, h2 => by
    unfold ltR at h h2 ⊢
    by_cases e1 : x = y
    · subst e1
      rw [if_pos rfl] at h
      by_cases e2 : x = z
      · subst e2
        rw [if_pos rfl] at h2 ⊢
        exact ltR_tr h h2
      · rw [if_neg e2] at h2 ⊢; exact h2
    · rw [if_neg e1] at h
      by_cases e2 : y = z
      · subst e2
        rw [if_neg e1]; exact h
      · rw [if_neg e2] at h2
        simp at h h2
        rw [if_neg (by omega)]
        simp; omega
theorem ltR_tt : ∀ a b : List Int, ltR a b = true ∨ a = b ∨ ltR b a = true
  | [], [] => .inr (.inl rfl)
  | [], _ :: _ => .inl rfl
  | _ :: _, [] => .inr (.inr rfl)
  | x :: xs, y :: ys => by
    by_cases e : x = y
    · subst e
      rcases ltR_tt xs ys with h | h | h
      · exact .inl (by unfold ltR; rw [if_pos rfl]; exact h)
      · exact .inr (.inl (by rw [h]))
      · exact .inr (.inr (by unfold ltR; rw [if_pos rfl]; exact h))
    · rcases Int.lt_or_gt_of_ne e with h | h
      · exact .inl (by unfold ltR; rw [if_neg e]; simpa using h)
      · exact .inr (.inr (by unfold ltR; rw [if_neg (Ne.symm e)]; simpa using h))
theorem leR'_iff {a b : List Int} : leR' a b = true ↔ ltR a b = true ∨ a = b := by
  unfold leR'
  constructor
  · intro h
    rcases ltR_tt a b with q | q | q
    · exact .inl q
    · exact .inr q
    · rw [q] at h; cases h
  · rintro (h | h)
    · cases q : ltR b a with
      | false => rfl
      | true => have := ltR_tr h q; rw [ltR_irr] at this; cases this
    · subst h; rw [ltR_irr]; rfl
theorem leR'_tr (a b c : List Int) (h : leR' a b = true) (h2 : leR' b c = true) : leR' a c = true := by
  rw [leR'_iff] at h h2 ⊢
  rcases h with h | h
  · rcases h2 with q | q
    · exact .inl (ltR_tr h q)
    · subst q; exact .inl h
  · subst h; exact h2
theorem leR'_tt (a b : List Int) : (leR' a b || leR' b a) = true := by
  rcases ltR_tt a b with h | h | h
  · rw [leR'_iff.mpr (.inl h)]; rfl
  · rw [leR'_iff.mpr (.inr h)]; rfl
  · rw [(leR'_iff (a := b) (b := a)).mpr (.inl h)]; simp
theorem leR'_anti {a b : List Int} (h : leR' a b = true) (h2 : leR' b a = true) : a = b := by
  rcases leR'_iff.mp h with q | q
  · rcases leR'_iff.mp h2 with p | p
    · have := ltR_tr q p; rw [ltR_irr] at this; cases this
    · exact p.symm
  · exact q
theorem leI_tr (a b c : Int) (h : leI a b = true) (h2 : leI b c = true) : leI a c = true := by simp [leI] at *; omega
theorem leI_tt (a b : Int) : (leI a b || leI b a) = true := by simp [leI]; omega
theorem leI_anti {a b : Int} (h : leI a b = true) (h2 : leI b a = true) : a = b := by simp [leI] at *; omega
/-- what is in order already -/
theorem perm_sorted {α : Type} {le : α → α → Bool} (anti : ∀ {a b}, le a b = true → le b a = true → a = b) : ∀ {xs ys : List α}, xs.Perm ys → xs.Pairwise (fun a b => le a b = true) → ys.Pairwise (fun a b => le a b = true) → xs = ys
  | [], ys, p, _, _ => by rw [List.Perm.nil_eq p]
  | x :: xs, [], p, _, _ => by have := p.length_eq; simp at this
  | x :: xs, y :: ys, p, h, h2 => by
    rw [List.pairwise_cons] at h h2
    have e : x = y := by
      have hx : x ∈ y :: ys := p.mem_iff.mp List.mem_cons_self
      have hy : y ∈ x :: xs := p.mem_iff.mpr List.mem_cons_self
      rcases List.mem_cons.mp hx with q | q
      · exact q
      · rcases List.mem_cons.mp hy with r | r
        · exact r.symm
        · exact anti (h.1 y r) (h2.1 x q)
    subst e
    rw [perm_sorted anti (List.Perm.cons_inv p) h.2 h2.2]
theorem mergeSort_eq {α : Type} {le : α → α → Bool} (tr : ∀ a b c, le a b = true → le b c = true → le a c = true) (tt : ∀ a b, (le a b || le b a) = true) (anti : ∀ {a b}, le a b = true → le b a = true → a = b) {xs ys : List α} (p : xs.Perm ys) (h : ys.Pairwise (fun a b => le a b = true)) : xs.mergeSort le = ys :=
  perm_sorted anti ((List.mergeSort_perm xs le).trans p) (List.pairwise_mergeSort tr tt xs) h
theorem sortOk_cons (d : D) (ds : List D) : sortOk (d :: ds) = (((d :: ds).all (shp d) || (d :: ds).all (homI 0) || (d :: ds).all (homI 1) || (d :: ds).all (homI 2) || (d :: ds).all (homI 3)) && ((d :: ds).all isTupNE || (d :: ds).all notNT) && (d :: ds).all cmpOk) := rfl
theorem sortOk_of {α : Type} {f : α → D} {xs : List α} (hk : ∀ x ∈ xs, homI 0 (f x) = true ∨ False) (hc : ∀ x ∈ xs, cmpOk (f x) = true) : sortOk (xs.map f) = true := by
  cases xs with
  | nil => rfl
  | cons x xs =>
    have h0 : (f x :: xs.map f).all (homI 0) = true := by
      show ((x :: xs).map f).all (homI 0) = true
      rw [List.all_map]; exact List.all_eq_true.mpr fun a ha => (hk a ha).resolve_right id
    have h1 : (f x :: xs.map f).all notNT = true := by
      show ((x :: xs).map f).all notNT = true
      rw [List.all_map]
      refine List.all_eq_true.mpr fun a ha => ?_
      have := (hk a ha).resolve_right id
      show notNT (f a) = true
      cases e : f a <;> rw [e] at this <;> first | rfl | cases this
    have h2 : (f x :: xs.map f).all cmpOk = true := by
      show ((x :: xs).map f).all cmpOk = true
      rw [List.all_map]; exact List.all_eq_true.mpr fun a ha => hc a ha
    rw [List.map_cons]
    refine (sortOk_cons _ _).trans ?_
    rw [h0, h1, h2]
    simp
theorem sortOk_ints (xs : List Int) : sortOk (xs.map .int) = true := sortOk_of (fun _ _ => .inl rfl) fun _ _ => rfl
theorem homIs0 : ∀ xs : List Int, homIs 0 (xs.map .int) = true
  | [] => by unfold homIs; rfl
  | x :: xs => by show (homI 0 (.int x) && homIs 0 (xs.map .int)) = true; rw [homIs0 xs]; rfl
theorem sortOk_rows (xs : List (List Int)) (h : ∀ x ∈ xs, x ≠ []) : sortOk (xs.map fun w => .tup (w.map .int)) = true := by
  cases xs with
  | nil => rfl
  | cons x xs =>
    let f : List Int → D := fun w => .tup (w.map .int)
    have h0 : (f x :: xs.map f).all (homI 1) = true := by
      show ((x :: xs).map f).all (homI 1) = true
      rw [List.all_map]
      refine List.all_eq_true.mpr fun a ha => ?_
      show homI 1 (.tup (a.map .int)) = true
      unfold homI; exact homIs0 a
    have h1 : (f x :: xs.map f).all isTupNE = true := by
      show ((x :: xs).map f).all isTupNE = true
      rw [List.all_map]
      refine List.all_eq_true.mpr fun a ha => ?_
      cases a with
      | nil => exact absurd rfl (h _ ha)
      | cons b a => rfl
    have h2 : (f x :: xs.map f).all cmpOk = true := by
      show ((x :: xs).map f).all cmpOk = true
      rw [List.all_map]; exact List.all_eq_true.mpr fun a ha => (eqs_tup eqs_int).cmp (by decide) a
    rw [List.map_cons]
    refine (sortOk_cons _ _).trans ?_
    rw [h0, h1, h2]
    simp
theorem opSorted_ints (xs : List Int) : opSorted [.lst (xs.map .int)] = some (.lst ((xs.mergeSort leI).map .int)) := opSorted_map (sortOk_ints xs) fun a _ b _ => leD_int a b
theorem opSorted_rows (xs : List (List Int)) (h : ∀ x ∈ xs, x ≠ []) : opSorted [.lst (xs.map fun w => .tup (w.map .int))] = some (.lst ((xs.mergeSort leR').map fun w => .tup (w.map .int))) := opSorted_map (sortOk_rows xs h) fun a _ b _ => leD_row a b

/-! ### a thing picked -/
def pickB : Ev → Option Fl := sRet (bin2 opIx (lift (eVar 1)) (mCall drawF [some 0, none] (mCons (lift (eN opLen (eCons (eVar 1) eNil))) mNil)))
theorem pick_ok {a b : Nat} {d row : D} {xs : List D} (hr : row = .lst xs ∨ row = .tup xs) (hi : IsSt d) (h0 : xs ≠ []) (h1 : xs.length < 1073741824) : ∃ (k : Nat) (x d' : D), runD [.io a, .fz b] 2 pickB [d, row] = some (x, [d', row]) ∧ xs[k]? = some x ∧ IsSt d' := by
  have hp : 0 < xs.length := List.length_pos_iff.mpr h0
  have hL : opLen [row] = some (.int (xs.length : Nat)) := by rcases hr with rfl | rfl <;> rfl
  have hx : ∀ k : Nat, opIx row (.int k) = atI xs (k : Int) := fun k => by rcases hr with rfl | rfl <;> rfl
  have := run_ok (ps := [.io a, .fz b]) (n := 2) (F0 := pickB) (ds := [d, row]) (P := fun z q => ∃ (k : Nat) (d' : D), q = [d', row] ∧ xs[k]? = some z ∧ IsSt d') (by
    show OkS pickB [some d, some row] _
    refine okS_ret (okE_bin (okE_lift (d := row) rfl (okE_draw (d := d) (m := xs.length) rfl hi ?_ (by omega) (by omega) fun r d' hr' hi' => ?_)))
    · show (opLen [row]) = _
      exact hL
    · have hk : r < xs.length := by omega
      have hg := List.getElem?_eq_getElem hk
      exact ⟨xs[r], (hx r).trans (atI_nat hg), r, d', rfl, hg, hi'⟩)
  obtain ⟨z, q, e, k, d', rfl, hk, hi'⟩ := this
  exact ⟨k, z, d', e, hk, hi'⟩
theorem okE_pick {a b j : Nat} {sl : Ev} {Q : D → Ev → Prop} {fr : Ev → Option (List D × Ev)} (h : OkL fr sl fun ds s => ∃ row xs d, ds = [row] ∧ (row = .lst xs ∨ row = .tup xs) ∧ eVar j s = some d ∧ IsSt d ∧ xs ≠ [] ∧ xs.length < 1073741824 ∧ ∀ (k : Nat) x d', xs[k]? = some x → IsSt d' → Q x (s.set j (some d'))) :
    OkE (mCall (runD [.io a, .fz b] 2 pickB) [some j, none] fr) sl Q := by
  refine okE_call (h.imp ?_)
  rintro ds s ⟨row, xs, d, rfl, hr, hd, hi, h0, h1, q⟩
  obtain ⟨k, x, d', e, hk, hi'⟩ := pick_ok (a := a) (b := b) hr hi h0 h1
  refine ⟨[d, row], ?_, x, [d', row], e, q k x d' hk hi'⟩
  show (eVar j s).bind _ = _
  rw [hd]
  rfl

/-! ### answers compared -/
def eqB (rc : List D → Option (D × List D)) : Ev → Option Fl := (sSeq (sIf (liftB (eOr (eT (eUn (opIsi .list) (eVar 1))) (eT (eUn (opIsi .tuple) (eVar 1))))) (sSeq (sIf (liftB (eOr (eT (eBin opNe (eUn (opIsi .list) (eVar 0)) (eUn (opIsi .list) (eVar 1)))) (eT (eBin opNe (eUn (opIsi .tuple) (eVar 0)) (eUn (opIsi .tuple) (eVar 1)))))) (sRet (lift (eC (.bl false)))) sSkip) (sSeq (sIf (liftB (eT (eBin opNe (eN opLen (eCons (eVar 0) eNil)) (eN opLen (eCons (eVar 1) eNil))))) (sRet (lift (eC (.bl false)))) sSkip) (sRet (lift (eBin opEq (pdF (mLc [2] (liftL (eRg opR1 (eCons (eN opLen (eCons (eVar 1) eNil)) eNil))) (gSet 2) (bdF (liftB (eNot (eT (eCall rc (eCons (eBin opIx (eVar 0) (eVar 2)) (eCons (eBin opIx (eVar 1) (eVar 2)) eNil)))))) (lift (eVar 2))))) (eLst eNil)))))) sSkip) (sSeq (sIf (liftB (eT (eBin opIs (eVar 1) (eC .non)))) (sRet (lift (eBin opIs (eVar 0) (eC .non)))) sSkip) (sSeq (sIf (liftB (eT (eUn (opIsi .str) (eVar 1)))) (sRet (lift (eAndV (eUn (opIsi .str) (eVar 0)) (eBin opEq (eVar 0) (eVar 1))))) sSkip) (sSeq (sIf (liftB (eT (eUn (opIsi .bool) (eVar 1)))) (sRet (lift (eAndV (eUn (opIsi .bool) (eVar 0)) (eBin opEq (eVar 0) (eVar 1))))) sSkip) (sRet (lift (eAndV (eUn (opIsi .int) (eVar 0)) (eAndV (eUn opNot (eUn (opIsi .bool) (eVar 0))) (eBin opEq (eVar 0) (eVar 1))))))))))
def eqF (a b : Nat) : Nat → List D → Option (D × List D)
  | 0 => fun _ => none
  | i + 1 => runD [.fz a, .fz b] 3 (eqB (eqF a b i))
theorem eqF_bl {u v n : Nat} (a b : Bool) : eqF u v (n + 1) [.bl a, .bl b] = some (.bl (a == b), [.bl a, .bl b]) := by cases a <;> cases b <;> rfl
theorem eqF_non {u v n : Nat} : eqF u v (n + 1) [.non, .non] = some (.bl true, [.non, .non]) := rfl
theorem eqF_int {u v n : Nat} (a b : Int) : eqF u v (n + 1) [.int a, .int b] = some (.bl (a == b), [.int a, .int b]) := rfl

/-! ### lists of a type, changed -/
theorem cut1 {xs : List D} : cutD xs (some 1) none = xs.drop 1 := by
  unfold cutD HT.sIx
  simp
  cases xs <;> simp
theorem pop_nat {α : Type} {f : α → D} {xs : List α} {k : Nat} (h : k < xs.length) : opPopA (.lst (xs.map f)) [.int k] = some (f xs[k], .lst ((xs.eraseIdx k).map f)) := by
  show ((ixN (xs.map f).length (k : Int)).bind fun k => ((xs.map f)[k]?).map fun y => (y, D.lst ((xs.map f).eraseIdx k))) = _
  rw [List.length_map, ixN_nat h, Option.bind_some, List.getElem?_map, List.getElem?_eq_getElem h]
  show some (f xs[k], D.lst ((xs.map f).eraseIdx k)) = _
  have e : ∀ (l : List α) (k : Nat), (l.map f).eraseIdx k = (l.eraseIdx k).map f := fun l => by
    induction l with
    | nil => intro k; rfl
    | cons x l ih => intro k; cases k with
      | zero => rfl
      | succ k => show f x :: (l.map f).eraseIdx k = _; rw [ih k]; rfl
  rw [e]
theorem app_map {α : Type} {f : α → D} {xs : List α} {x : α} (h : xs.length < 16777216) : opApp (.lst (xs.map f)) [f x] = some (.lst ((xs ++ [x]).map f)) := by
  show (if _ then _ else _) = _
  rw [List.map_append, if_pos (by rw [List.length_map, sizeLine_eq]; exact h)]
  rfl

def cutT {α : Type} (xs : List α) (lo hi : Option Int) : List α := (xs.drop (HT.sIx xs.length 0 lo)).take (HT.sIx xs.length xs.length hi - HT.sIx xs.length 0 lo)
theorem cutT_len {α : Type} (xs : List α) (lo hi : Option Int) : (cutT xs lo hi).length ≤ xs.length := by unfold cutT; rw [List.length_take, List.length_drop]; omega
theorem cutT_mem {α : Type} {xs : List α} {lo hi : Option Int} {x : α} (h : x ∈ cutT xs lo hi) : x ∈ xs := List.mem_of_mem_drop (List.mem_of_mem_take h)
section
variable {α : Type} {f : α → D}
theorem cutD_map (xs : List α) (lo hi : Option Int) : cutD (xs.map f) lo hi = (cutT xs lo hi).map f := by unfold cutD cutT; rw [List.length_map, List.map_take, List.map_drop]
theorem sl_tup (xs : List α) (lo hi : Option Int) : opSl lo hi (.tup (xs.map f)) = some (.tup ((cutT xs lo hi).map f)) := by show some (D.tup (cutD _ lo hi)) = _; rw [cutD_map]
theorem sl_lst (xs : List α) (lo hi : Option Int) : opSl lo hi (.lst (xs.map f)) = some (.lst ((cutT xs lo hi).map f)) := by show some (D.lst (cutD _ lo hi)) = _; rw [cutD_map]
theorem add_tup {xs ys : List α} (h : xs.length + ys.length ≤ 16777216) : opAdd (.tup (xs.map f)) (.tup (ys.map f)) = some (.tup ((xs ++ ys).map f)) := by
  show (if _ then _ else _) = _
  rw [if_pos (by rw [List.length_map, List.length_map, sizeLine_eq]; exact h), List.map_append]
theorem add_lst {xs ys : List α} (h : xs.length + ys.length ≤ 16777216) : opAdd (.lst (xs.map f)) (.lst (ys.map f)) = some (.lst ((xs ++ ys).map f)) := by
  show (if _ then _ else _) = _
  rw [if_pos (by rw [List.length_map, List.length_map, sizeLine_eq]; exact h), List.map_append]
theorem back_tup (xs : List α) : opBack (.tup (xs.map f)) = some (.tup (xs.reverse.map f)) := by show some (D.tup _) = _; rw [← List.map_reverse]
theorem back_lst (xs : List α) : opBack (.lst (xs.map f)) = some (.lst (xs.reverse.map f)) := by show some (D.lst _) = _; rw [← List.map_reverse]
theorem ix_tup_nat {xs : List α} {k : Nat} {x : α} (h : xs[k]? = some x) : opIx (.tup (xs.map f)) (.int k) = some (f x) := atI_nat (by rw [List.getElem?_map, h]; rfl)
theorem ix_lst_nat {xs : List α} {k : Nat} {x : α} (h : xs[k]? = some x) : opIx (.lst (xs.map f)) (.int k) = some (f x) := atI_nat (by rw [List.getElem?_map, h]; rfl)
theorem len_tup (xs : List α) : opLen [.tup (xs.map f)] = some (.int xs.length) := by show some (D.int (xs.map f).length) = _; rw [List.length_map]
theorem len_lst (xs : List α) : opLen [.lst (xs.map f)] = some (.int xs.length) := by show some (D.int (xs.map f).length) = _; rw [List.length_map]
end
/-- bounds that stand at small lengths -/
theorem szL {n : Nat} (h : n ≤ 16777216) : n ≤ sizeLine := by rw [sizeLine_eq]; exact h
end Dw
set_option maxHeartbeats 1000000
/-! Dx, part J: order of numbers and of tuples of numbers. -/
namespace Dw
open PySem PySem.Spec PyProof.Rows L2 RZ RT
theorem lex_shift {e r : Nat → Bool} {z : Bool} : ∀ {i k : Nat}, Ob.lexAt e r z (i + 1) k = Ob.lexAt (fun j => e (j + 1)) (fun j => r (j + 1)) z i k
  | _, 0 => rfl
  | i, k + 1 => by rw [Ob.lexAt_succ, Ob.lexAt_succ, lex_shift]
def lexV (rel : Int → Int → Bool) (zr : Nat → Nat → Bool) (ns ms : List Int) : Bool := Ob.lexAt (fun j => decide (ns.getD j 0 = ms.getD j 0)) (fun j => rel (ns.getD j 0) (ms.getD j 0)) (zr ns.length ms.length) 0 (min ns.length ms.length)
theorem lexV_cons {rel : Int → Int → Bool} {zr : Nat → Nat → Bool} (hz : ∀ a b, zr (a + 1) (b + 1) = zr a b) (x y : Int) (ns ms : List Int) : lexV rel zr (x :: ns) (y :: ms) = if x = y then lexV rel zr ns ms else rel x y := by
  unfold lexV
  rw [List.length_cons, List.length_cons, Nat.add_min_add_right, Ob.lexAt_succ, lex_shift, hz]
  show (if decide (x = y) = true then _ else rel x y) = _
  by_cases h : x = y
  · rw [if_pos h, if_pos (decide_eq_true h)]; rfl
  · rw [if_neg h, if_neg (by simpa using h)]
theorem lexV_lt : ∀ ns ms : List Int, lexV (fun a b => decide (a < b)) (fun a b => decide (a < b)) ns ms = ltR ns ms
  | [], [] => rfl
  | [], _ :: _ => by unfold lexV; simp [Ob.lexAt_zero, ltR]
  | _ :: _, [] => by unfold lexV; simp [Ob.lexAt_zero, ltR]
  | x :: ns, y :: ms => by
    rw [lexV_cons (by simp), lexV_lt ns ms]; rfl
theorem lexV_gt : ∀ ns ms : List Int, lexV (fun a b => decide (b < a)) (fun a b => decide (b < a)) ns ms = ltR ms ns
  | [], [] => rfl
  | [], _ :: _ => by unfold lexV; simp [Ob.lexAt_zero, ltR]
  | _ :: _, [] => by unfold lexV; simp [Ob.lexAt_zero, ltR]
  | x :: ns, y :: ms => by
    rw [lexV_cons (by simp), lexV_gt ns ms]
    show _ = if y = x then ltR ms ns else decide (y < x)
    by_cases h : x = y
    · rw [if_pos h, if_pos h.symm]
    · rw [if_neg h, if_neg (Ne.symm h)]
theorem lexV_le : ∀ ns ms : List Int, lexV (fun a b => decide (a ≤ b)) (fun a b => decide (a ≤ b)) ns ms = !ltR ms ns
  | [], [] => rfl
  | [], _ :: _ => by unfold lexV; simp [Ob.lexAt_zero, ltR]
  | _ :: _, [] => by unfold lexV; simp [Ob.lexAt_zero, ltR]
  | x :: ns, y :: ms => by
    rw [lexV_cons (by simp), lexV_le ns ms]
    show _ = !(if y = x then ltR ms ns else decide (y < x))
    by_cases h : x = y
    · rw [if_pos h, if_pos h.symm]
    · rw [if_neg h, if_neg (Ne.symm h)]
      rw [Bool.eq_iff_iff]; simp
theorem lexV_ge : ∀ ns ms : List Int, lexV (fun a b => decide (b ≤ a)) (fun a b => decide (b ≤ a)) ns ms = !ltR ns ms
  | [], [] => rfl
  | [], _ :: _ => by unfold lexV; simp [Ob.lexAt_zero, ltR]
  | _ :: _, [] => by unfold lexV; simp [Ob.lexAt_zero, ltR]
  | x :: ns, y :: ms => by
    rw [lexV_cons (by simp), lexV_ge ns ms]
    show _ = !(if x = y then ltR ns ms else decide (x < y))
    by_cases h : x = y
    · rw [if_pos h, if_pos h]
    · rw [if_neg h, if_neg h]
      rw [Bool.eq_iff_iff]; simp
def rOrd (K : PySem.W.Frag) (rel : Int → Int → Bool) (zr : Nat → Nat → Bool) : R2 := fun x y H Q => rI0 (fun i j => .bl (rel i j)) x y H Q ∨
  ∃ (a b : Addr) (ns ms : List Int), x = .ref a ∧ y = .ref b ∧ SqT K H a (ns.map V.int) ∧ SqT K H b (ms.map V.int) ∧ Q (.bl (lexV rel zr ns ms)) H
theorem op_ord {X : Cx} {cop : CmpOp} {rel : Int → Int → Bool} {zr : Nat → Nat → Bool} (hc : compareOp cop = richCompare cop) (h0 : OpR X (compareOp cop) (rI0 fun i j => .bl (rel i j))) (hi : ∀ {A : Around} {s : Shared} (a b : Int) (t u : Tok), Ob.RcOp cop A s (.int a t) (.int b u) (rel a b))
    (ht : ∀ {A : Around} {s : Shared} {l b : Addr} {p q : Array Value} {e r : Nat → Bool}, s.heap.IsTuple l p → s.heap.IsTuple b q → A.units < cLine → (∀ j (h1 : j < p.size) (h2 : j < q.size), SeqAt.EqAt A.in1 s p[j] q[j] (e j)) →
      (∀ j (h1 : j < p.size) (h2 : j < q.size), e j = false → Ob.RcOp cop A.in1 s p[j] q[j] (r j)) → Ob.RcOp cop A s (.ref l) (.ref b) (Ob.lexAt e r (zr p.size q.size) 0 (min p.size q.size)))
    (hu : X.A.units + 64 < cLine) : OpR X (compareOp cop) (rOrd X.K rel zr) := by
  intro pins s σ H x y v u Q I rx ry h
  rcases h with h | ⟨a, b, ns, ms, rfl, rfl, ha, hb, q⟩
  · exact h0 pins s σ H x y v u Q I rx ry h
  · cases rx
    cases ry
    obtain ⟨p1, v1, t1, _⟩ := I.tuple ha
    obtain ⟨p2, v2, t2, _⟩ := I.tuple hb
    have n1 : IntsAre p1 ns := Vals.ints v1
    have n2 : IntsAre p2 ms := Vals.ints v2
    have got := ht (A := X.A) (s := s) (e := fun j => decide (ns.getD j 0 = ms.getD j 0)) (r := fun j => rel (ns.getD j 0) (ms.getD j 0)) t1 t2 (by omega) (fun j h1 h2 => ?_) (fun j h1 h2 _ => ?_)
    · rw [show p1.toArray.size = ns.length from n1.length, show p2.toArray.size = ms.length from n2.length] at got
      rw [hc]
      exact got X.prog X.w X.xe (EP X pins σ Q) ⟨.bl _, H, I, rfl, q⟩
    · obtain ⟨t, e1⟩ := PyProof.Rows.IntsAre.int_at n1 j _ (by simp at h1; simp [h1] : p1[j]? = some p1.toArray[j])
      obtain ⟨t', e2⟩ := PyProof.Rows.IntsAre.int_at n2 j _ (by simp at h2; simp [h2] : p2[j]? = some p2.toArray[j])
      rw [e1, e2, show decide (ns.getD j 0 = ms.getD j 0) = (ns.getD j 0 == ms.getD j 0) by rw [Bool.eq_iff_iff]; simp]
      exact SeqAt.EqAt.int_int _ _ _ _
    · obtain ⟨t, e1⟩ := PyProof.Rows.IntsAre.int_at n1 j _ (by simp at h1; simp [h1] : p1[j]? = some p1.toArray[j])
      obtain ⟨t', e2⟩ := PyProof.Rows.IntsAre.int_at n2 j _ (by simp at h2; simp [h2] : p2[j]? = some p2.toArray[j])
      rw [e1, e2]
      exact hi _ _ _ _
def opOrd (rel : Int → Int → Bool) (lx : List Int → List Int → Bool) (d e : D) : Option D := match d, e with
  | .int i, .int j => some (.bl (rel i j))
  | .tup xs, .tup ys => (intsD xs).bind fun ns => (intsD ys).map fun ms => .bl (lx ns ms)
  | _, _ => none
theorem vr_ord {K : PySem.W.Frag} {rel : Int → Int → Bool} {zr : Nat → Nat → Bool} {lx : List Int → List Int → Bool} (h : ∀ ns ms, lexV rel zr ns ms = lx ns ms) : VR2 K (rOrd K rel zr) (opOrd rel lx) false := fun H x y d e fp gp z Q sz ra rb ho q => by
  unfold opOrd at ho
  split at ho
  · cases ho
    obtain ⟨rfl, rfl⟩ := ra.int_inv
    obtain ⟨rfl, rfl⟩ := rb.int_inv
    exact .inl ⟨_, _, rfl, rfl, q _ H [] (Ext.refl H) (.bl _) (fun _ z => nomatch z) fun z => nomatch z⟩
  · rename_i xs ys
    obtain ⟨ns, h1, h2⟩ := Option.bind_eq_some_iff.mp ho
    obtain ⟨ms, h3, rfl⟩ := Option.map_eq_some_iff.mp h2
    have e1 := intsD_eq h1
    have e2 := intsD_eq h3
    subst e1 e2
    cases ra with
    | tup p1 r1 =>
      cases rb with
      | tup p2 r2 =>
        obtain ⟨rfl, _⟩ := r1.ints
        obtain ⟨rfl, _⟩ := r2.ints
        refine .inr ⟨_, _, ns, ms, rfl, rfl, SqT.of p1, SqT.of p2, ?_⟩
        rw [h]
        exact q _ H [] (Ext.refl H) (.bl _) (fun _ z => nomatch z) fun z => nomatch z
  · cases ho
theorem bl_ord {rel : Int → Int → Bool} {lx : List Int → List Int → Bool} : Bl2 (opOrd rel lx) := fun d e z h => by
  unfold opOrd at h
  split at h
  · cases h; exact ⟨_, rfl⟩
  · obtain ⟨ns, h1, h2⟩ := Option.bind_eq_some_iff.mp h
    obtain ⟨ms, h3, rfl⟩ := Option.map_eq_some_iff.mp h2
    exact ⟨_, rfl⟩
  · cases h
def opLtA : D → D → Option D := opOrd (fun a b => decide (a < b)) ltR
def opLeA : D → D → Option D := opOrd (fun a b => decide (a ≤ b)) fun a b => !ltR b a
def opGtA : D → D → Option D := opOrd (fun a b => decide (b < a)) fun a b => ltR b a
def opGeA : D → D → Option D := opOrd (fun a b => decide (b ≤ a)) fun a b => !ltR a b
section
variable {X : Cx} {G : List Mode} {a b c : Expr} {ma mb mc : RM} {ga gb gc : Ev → Option D} {M N : List Nat} {fa fb : Ev → Option (D × Ev)} {pos : Pos} {op2 : CmpOp} {ops : List CmpOp} {es : List Expr} {f : D → Ev → Option Bool}
theorem op_ltA (hu : X.A.units + 64 < cLine) : OpR X (compareOp .Lt) (rOrd X.K (fun a b => decide (a < b)) fun a b => decide (a < b)) := op_ord rfl op_lt Ob.RcOp.lt_int Ob.RcOp.tuples_lt hu
theorem op_leA (hu : X.A.units + 64 < cLine) : OpR X (compareOp .LtE) (rOrd X.K (fun a b => decide (a ≤ b)) fun a b => decide (a ≤ b)) := op_ord rfl op_le Ob.RcOp.le_int Ob.RcOp.tuples_le hu
theorem op_gtA (hu : X.A.units + 64 < cLine) : OpR X (compareOp .Gt) (rOrd X.K (fun a b => decide (b < a)) fun a b => decide (b < a)) := op_ord rfl op_gt Ob.RcOp.gt_int Ob.RcOp.tuples_gt hu
theorem op_geA (hu : X.A.units + 64 < cLine) : OpR X (compareOp .GtE) (rOrd X.K (fun a b => decide (b ≤ a)) fun a b => decide (b ≤ a)) := op_ord rfl op_ge Ob.RcOp.ge_int Ob.RcOp.tuples_ge hu
theorem de_ltA (hu : X.A.units + 64 < cLine) (A : DE X G a ma M fa) (B : DE X (kill M G) b mb N fb) (ap : apart ma N = true := by rfl) (hm : behindInMarks .Lt b = false := by rfl) : DE X G (.Compare a [.Lt] [b] pos) (.vw 0 []) (M ++ N) (bin2 opLtA fa fb) := de_cmp (op_ltA hu) (vr_ord lexV_lt) (sc_of bl_ord) A B ap hm
theorem dt_ltA (hu : X.A.units + 64 < cLine) (A : DE X G a ma M fa) (B : DE X (kill M G) b mb N fb) (ap : apart ma N = true := by rfl) (hm : behindInMarks .Lt b = false := by rfl) : DT X G (.Compare a [.Lt] [b] pos) (M ++ N) (tT (bin2 opLtA fa fb)) := dt_cmp (op_ltA hu) (vr_ord lexV_lt) bl_ord A B ap hm
theorem pd_ltA (hu : X.A.units + 64 < cLine) (A : PD X G a ma ga) (B : PD X G b mb gb) (hm : behindInMarks .Lt b = false := by rfl) : PD X G (.Compare a [.Lt] [b] pos) (.vw 0 []) (eBin opLtA ga gb) := (de_ltA hu A B (apart_nil ma) hm).congr bin2_lift
theorem td_ltA (hu : X.A.units + 64 < cLine) (A : PD X G a ma ga) (B : PD X G b mb gb) (hm : behindInMarks .Lt b = false := by rfl) : TD X G (.Compare a [.Lt] [b] pos) (eT (eBin opLtA ga gb)) := (dt_ltA hu A B (apart_nil ma) hm).congr tT_bin
theorem cl_ltA (hu : X.A.units + 64 < cLine) (B : PD X G b mb gb) : CH X G [.Lt] [b] (cLast opLtA gb) := ch_last (op_ltA hu) (vr_ord lexV_lt) bl_ord B
theorem ck_ltA (hu : X.A.units + 64 < cLine) (B : PD X G b mb gb) (C : CH X G (op2 :: ops) (c :: es) f) : CH X G (.Lt :: op2 :: ops) (b :: c :: es) (cLink opLtA gb f) := ch_link (op_ltA hu) (vr_ord lexV_lt) bl_ord B C
theorem de_leA (hu : X.A.units + 64 < cLine) (A : DE X G a ma M fa) (B : DE X (kill M G) b mb N fb) (ap : apart ma N = true := by rfl) (hm : behindInMarks .LtE b = false := by rfl) : DE X G (.Compare a [.LtE] [b] pos) (.vw 0 []) (M ++ N) (bin2 opLeA fa fb) := de_cmp (op_leA hu) (vr_ord lexV_le) (sc_of bl_ord) A B ap hm
theorem dt_leA (hu : X.A.units + 64 < cLine) (A : DE X G a ma M fa) (B : DE X (kill M G) b mb N fb) (ap : apart ma N = true := by rfl) (hm : behindInMarks .LtE b = false := by rfl) : DT X G (.Compare a [.LtE] [b] pos) (M ++ N) (tT (bin2 opLeA fa fb)) := dt_cmp (op_leA hu) (vr_ord lexV_le) bl_ord A B ap hm
theorem pd_leA (hu : X.A.units + 64 < cLine) (A : PD X G a ma ga) (B : PD X G b mb gb) (hm : behindInMarks .LtE b = false := by rfl) : PD X G (.Compare a [.LtE] [b] pos) (.vw 0 []) (eBin opLeA ga gb) := (de_leA hu A B (apart_nil ma) hm).congr bin2_lift
theorem td_leA (hu : X.A.units + 64 < cLine) (A : PD X G a ma ga) (B : PD X G b mb gb) (hm : behindInMarks .LtE b = false := by rfl) : TD X G (.Compare a [.LtE] [b] pos) (eT (eBin opLeA ga gb)) := (dt_leA hu A B (apart_nil ma) hm).congr tT_bin
theorem cl_leA (hu : X.A.units + 64 < cLine) (B : PD X G b mb gb) : CH X G [.LtE] [b] (cLast opLeA gb) := ch_last (op_leA hu) (vr_ord lexV_le) bl_ord B
theorem ck_leA (hu : X.A.units + 64 < cLine) (B : PD X G b mb gb) (C : CH X G (op2 :: ops) (c :: es) f) : CH X G (.LtE :: op2 :: ops) (b :: c :: es) (cLink opLeA gb f) := ch_link (op_leA hu) (vr_ord lexV_le) bl_ord B C
theorem de_gtA (hu : X.A.units + 64 < cLine) (A : DE X G a ma M fa) (B : DE X (kill M G) b mb N fb) (ap : apart ma N = true := by rfl) (hm : behindInMarks .Gt b = false := by rfl) : DE X G (.Compare a [.Gt] [b] pos) (.vw 0 []) (M ++ N) (bin2 opGtA fa fb) := de_cmp (op_gtA hu) (vr_ord lexV_gt) (sc_of bl_ord) A B ap hm
theorem dt_gtA (hu : X.A.units + 64 < cLine) (A : DE X G a ma M fa) (B : DE X (kill M G) b mb N fb) (ap : apart ma N = true := by rfl) (hm : behindInMarks .Gt b = false := by rfl) : DT X G (.Compare a [.Gt] [b] pos) (M ++ N) (tT (bin2 opGtA fa fb)) := dt_cmp (op_gtA hu) (vr_ord lexV_gt) bl_ord A B ap hm
theorem pd_gtA (hu : X.A.units + 64 < cLine) (A : PD X G a ma ga) (B : PD X G b mb gb) (hm : behindInMarks .Gt b = false := by rfl) : PD X G (.Compare a [.Gt] [b] pos) (.vw 0 []) (eBin opGtA ga gb) := (de_gtA hu A B (apart_nil ma) hm).congr bin2_lift
theorem td_gtA (hu : X.A.units + 64 < cLine) (A : PD X G a ma ga) (B : PD X G b mb gb) (hm : behindInMarks .Gt b = false := by rfl) : TD X G (.Compare a [.Gt] [b] pos) (eT (eBin opGtA ga gb)) := (dt_gtA hu A B (apart_nil ma) hm).congr tT_bin
theorem cl_gtA (hu : X.A.units + 64 < cLine) (B : PD X G b mb gb) : CH X G [.Gt] [b] (cLast opGtA gb) := ch_last (op_gtA hu) (vr_ord lexV_gt) bl_ord B
theorem ck_gtA (hu : X.A.units + 64 < cLine) (B : PD X G b mb gb) (C : CH X G (op2 :: ops) (c :: es) f) : CH X G (.Gt :: op2 :: ops) (b :: c :: es) (cLink opGtA gb f) := ch_link (op_gtA hu) (vr_ord lexV_gt) bl_ord B C
theorem de_geA (hu : X.A.units + 64 < cLine) (A : DE X G a ma M fa) (B : DE X (kill M G) b mb N fb) (ap : apart ma N = true := by rfl) (hm : behindInMarks .GtE b = false := by rfl) : DE X G (.Compare a [.GtE] [b] pos) (.vw 0 []) (M ++ N) (bin2 opGeA fa fb) := de_cmp (op_geA hu) (vr_ord lexV_ge) (sc_of bl_ord) A B ap hm
theorem dt_geA (hu : X.A.units + 64 < cLine) (A : DE X G a ma M fa) (B : DE X (kill M G) b mb N fb) (ap : apart ma N = true := by rfl) (hm : behindInMarks .GtE b = false := by rfl) : DT X G (.Compare a [.GtE] [b] pos) (M ++ N) (tT (bin2 opGeA fa fb)) := dt_cmp (op_geA hu) (vr_ord lexV_ge) bl_ord A B ap hm
theorem pd_geA (hu : X.A.units + 64 < cLine) (A : PD X G a ma ga) (B : PD X G b mb gb) (hm : behindInMarks .GtE b = false := by rfl) : PD X G (.Compare a [.GtE] [b] pos) (.vw 0 []) (eBin opGeA ga gb) := (de_geA hu A B (apart_nil ma) hm).congr bin2_lift
theorem td_geA (hu : X.A.units + 64 < cLine) (A : PD X G a ma ga) (B : PD X G b mb gb) (hm : behindInMarks .GtE b = false := by rfl) : TD X G (.Compare a [.GtE] [b] pos) (eT (eBin opGeA ga gb)) := (dt_geA hu A B (apart_nil ma) hm).congr tT_bin
theorem cl_geA (hu : X.A.units + 64 < cLine) (B : PD X G b mb gb) : CH X G [.GtE] [b] (cLast opGeA gb) := ch_last (op_geA hu) (vr_ord lexV_ge) bl_ord B
theorem ck_geA (hu : X.A.units + 64 < cLine) (B : PD X G b mb gb) (C : CH X G (op2 :: ops) (c :: es) f) : CH X G (.GtE :: op2 :: ops) (b :: c :: es) (cLink opGeA gb f) := ch_link (op_geA hu) (vr_ord lexV_ge) bl_ord B C
end
end Dw
set_option maxHeartbeats 1000000
/-! Dx, part K: the least of a row of data that never changes. -/
namespace Dw
open PySem PySem.Spec PyProof.Rows L2 RZ RT
def bestD (x : D) (xs : List D) : D := xs.foldl (fun a y => if ltD y a then y else a) x
def isNon : D → Bool
  | .non => true
  | _ => false
theorem isNon_py {d : D} (h : isNon d = false) : toPy d ≠ .none := by
  cases d <;> first | (cases h; done) | (unfold toPy; exact fun z => nomatch z)
def minOk (ds : List D) : Bool := sortOk ds && ds.all fun d => decide (mdep d = 0) && !isNon d
def opMinR : List D → Option D
  | [.lst (x :: xs)] => if minOk (x :: xs) then some (bestD x xs) else none
  | [.tup (x :: xs)] => if minOk (x :: xs) then some (bestD x xs) else none
  | _ => none
def rMinR (K : PySem.W.Frag) : List V → Hp → VK → Prop := fun vs H Q => ∃ (a : Addr) (x : D) (xs : List D) (zs : List V) (fp : List Addr), vs = [.ref a] ∧ (SqL K H a zs ∨ SqT K H a zs) ∧ Reps K H (x :: xs) zs fp ∧ minOk (x :: xs) = true ∧
  ∀ (v : V) (gp : List Addr), Rep K H (bestD x xs) v gp → (∀ b ∈ gp, b ∈ fp) → Q v H
theorem minOk_ok {ds : List D} (h : minOk ds = true) : sortOk ds = true ∧ (∀ d ∈ ds, mdep d = 0) ∧ ∀ d ∈ ds, toPy d ≠ .none := by
  unfold minOk at h
  rw [Bool.and_eq_true, List.all_eq_true] at h
  refine ⟨h.1, fun d hd => ?_, fun d hd => ?_⟩
  · have := h.2 d hd
    rw [Bool.and_eq_true, decide_eq_true_eq] at this
    exact this.1
  · have := h.2 d hd
    rw [Bool.and_eq_true, Bool.not_eq_true'] at this
    exact isNon_py this.2
theorem best_at {x : D} {xs : List D} : ∃ i, i ≤ xs.length ∧ argBest (fun i j => ltD ((x :: xs).getD i .non) ((x :: xs).getD j .non)) xs.length = i ∧ (x :: xs)[i]? = some (bestD x xs) := by
  obtain ⟨h1, h2⟩ := PySem.W.argBest_fold ltD D.non x xs xs.length (Nat.le_refl _)
  refine ⟨_, h1, rfl, ?_⟩
  rw [List.take_length] at h2
  have hlt : argBest (fun i j => ltD ((x :: xs).getD i .non) ((x :: xs).getD j .non)) xs.length < (x :: xs).length := Nat.lt_succ_of_le h1
  rw [List.getD_eq_getElem?_getD, List.getElem?_eq_getElem hlt, Option.getD_some] at h2
  rw [List.getElem?_eq_getElem hlt, h2]
  rfl
theorem cr_minR {X : Cx} (hc : X.calm = true) (hu : X.A.units + 64 < cLine) : CallR X (.builtin "min") (rMinR X.K) := by
  intro pins s σ H vs us Q I r h
  obtain ⟨a, x, xs, zs, fp, rfl, hs, rp, ok, q⟩ := h
  rw [Vals.ref1 r]
  obtain ⟨sok, _, hn⟩ := minOk_ok ok
  obtain ⟨hal, hk, hcm⟩ := sortOk_alike sok
  obtain ⟨i, hi, ei, hb⟩ := best_at (x := x) (xs := xs)
  -- an item, read
  have rd : ∀ (its : List Value), Vals zs its → ∀ (j : Nat) (v : Value), its.toArray[j]? = some v → ∃ d f u as, (x :: xs)[j]? = some d ∧ RelV u v ∧ Rep X.K H d u f ∧ (∀ b ∈ f, b ∈ fp) ∧ Reads s.heap v (toPy d) as := fun its rv j v hv => by
    have hv' : its[j]? = some v := by simpa using hv
    have hj : j < (x :: xs).length := by
      have h1 := (List.getElem?_eq_some_iff.mp hv').1
      have h2 := rv.length
      have h3 := rp.length
      omega
    obtain ⟨u, f, e1, e2, e3⟩ := rp.get (List.getElem?_eq_getElem hj)
    obtain ⟨v', e4, e5⟩ := rv.get e1
    rw [hv'] at e4
    cases e4
    have pl : (toPy (x :: xs)[j]).plain = true := by
      have := hcm _ (List.getElem_mem hj)
      unfold cmpOk at this
      rw [Bool.and_eq_true] at this
      exact this.1
    obtain ⟨as, rds⟩ := Dp.reads I _ _ _ (e2.dp pl) e5
    exact ⟨_, f, u, as, List.getElem?_eq_getElem hj, e5, e2, e3, rds⟩
  have al : ∀ {d e : D}, d ∈ x :: xs → e ∈ x :: xs → PySem.W.alike (toPy d) (toPy e) = true := fun hd he => hal _ (List.mem_map.mpr ⟨_, hd, rfl⟩) _ (List.mem_map.mpr ⟨_, he, rfl⟩)
  have cmp : ∀ (its : List Value), Vals zs its → CmpIn X.prog X.w X.A.in1 .Lt s.heap (fun j v => its.toArray[j]? = some v) (fun i j => ltD ((x :: xs).getD i .non) ((x :: xs).getD j .non)) := fun its rv i j vi vj s' Q' E' keep h1 h2 hq => by
    obtain ⟨d, f, u, as, g1, _, _, _, g2⟩ := rd its rv i vi h1
    obtain ⟨e, f', u', as', g3, _, _, _, g4⟩ := rd its rv j vj h2
    have m1 := List.mem_of_getElem? g1
    have m2 := List.mem_of_getElem? g3
    replace hq : Q' (Value.bool (ltD ((x :: xs).getD i .non) ((x :: xs).getD j .non))) s' := hq
    rw [List.getD_eq_getElem?_getD, List.getD_eq_getElem?_getD, g1, g3, Option.getD_some, Option.getD_some, ltD_eq (al m1 m2)] at hq
    refine PySem.W.rcLt_alike _ _ X.A.in1 s' vi vj _ _ (PySem.W.reads_keeps keep g2) (PySem.W.reads_keeps keep g4) (al m1 m2) (hn d m1) ?_ X.prog X.w E' Q' hq
    have b1 : (toPy d).depth ≤ 60 := by
      have := hcm d m1
      unfold cmpOk at this
      rw [Bool.and_eq_true, decide_eq_true_eq] at this
      exact this.2
    have := Nat.min_le_left (toPy d).depth (toPy e).depth
    show X.A.units + 1 + _ < _
    omega
  have fin : ∀ (its : List Value), Vals zs its → its.toArray.size = xs.length + 1 ∧ ∀ v s2 s', (∃ o, s2 = { s with heap := s.heap.push o }) → its.toArray[argBest (fun i j => ltD ((x :: xs).getD i .non) ((x :: xs).getD j .non)) (its.toArray.size - 1)]? = some v → Moved [s.heap.objs.size] (fun a b => b = a) s2 s' → EP X pins σ Q v s' := fun its rv => by
    have hl : its.toArray.size = xs.length + 1 := by
      have h2 := rv.length
      have h3 := rp.length
      simp at h3 ⊢; omega
    refine ⟨hl, fun v s2 s' ⟨o, eo⟩ hv mv => ?_⟩
    obtain ⟨h', tk, rfl, keep⟩ := PySem.W.moved_old eo rfl mv
    rw [hl, Nat.add_sub_cancel, ei] at hv
    obtain ⟨d, f, u, as, g1, g2, g3, g4, _⟩ := rd its rv i v hv
    rw [hb] at g1
    cases g1
    exact ⟨u, H, I.kept keep, g2, q u f g3 g4⟩
  rcases hs with hs | hs
  · obtain ⟨its, rv, hl, hz⟩ := I.list hs
    obtain ⟨hlen, fin⟩ := fin its rv
    refine call_min_walkH (PySem.W.iter_listW (A := X.A.in1) (I.ok.hd hc) hl.isList fun s₂ e W st hfp hw hk => ?_)
    exact ⟨_, _, _, _, _, _, _, s.heap, _, rfl, W, st, hfp, by omega, hw, hk, cmp its rv, fun v s' hP m => fin v s₂ s' ⟨_, e⟩ hP m⟩
  · obtain ⟨its, rv, hl, hz⟩ := I.tuple hs
    obtain ⟨hlen, fin⟩ := fin its rv
    refine call_min_walkH (PySem.W.iter_tupleW (A := X.A.in1) (I.ok.hd hc) hl fun s₂ e W st hfp hw hk => ?_)
    exact ⟨_, _, _, _, _, _, _, s.heap, _, rfl, W, st, hfp, by omega, hw, hk, cmp its rv, fun v s' hP m => fin v s₂ s' ⟨_, e⟩ hP m⟩
theorem vr_minR {K : PySem.W.Frag} : VR K (rMinR K) opMinR false := fun H vs ds fp d Q sz r0 h q => by
  have go : ∀ {x : D} {xs : List D} {a : Addr} {zs : List V} {gp : List Addr}, (SqL K H a zs ∨ SqT K H a zs) → Reps K H (x :: xs) zs gp → (∀ b ∈ gp, b ∈ fp) → minOk (x :: xs) = true → bestD x xs = d → rMinR K [.ref a] H Q := fun hs rp sub ok e =>
    ⟨_, _, _, _, _, rfl, hs, rp, ok, fun v gp r g => by
      rw [e] at r
      exact q v H gp (Ext.refl H) r (fun b hb => .inl (sub b (g b hb))) fun z => nomatch z⟩
  unfold opMinR at h
  split at h
  · split at h
    · rename_i ok
      cases h
      cases r0 with
      | cons r t =>
        cases t
        cases r with
        | lst h2 r2 => exact go (.inl (SqL.of h2)) r2 (fun b hb => by simp [hb]) ok rfl
    · cases h
  · split at h
    · rename_i ok
      cases h
      cases r0 with
      | cons r t =>
        cases t
        cases r with
        | tup h2 r2 => exact go (.inr (SqT.of h2)) r2 (fun b hb => by simp [hb]) ok rfl
    · cases h
  · cases h
theorem best_mem {x : D} {xs : List D} : bestD x xs ∈ x :: xs := by
  obtain ⟨i, _, _, h⟩ := best_at (x := x) (xs := xs)
  exact List.mem_of_getElem? h
theorem k_minR {ds : List D} {z : D} (h : opMinR ds = some z) : mdep z ≤ 0 := by
  unfold opMinR at h
  split at h
  · split at h
    · rename_i ok
      cases h
      exact Nat.le_of_eq ((minOk_ok ok).2.1 _ best_mem)
    · cases h
  · split at h
    · rename_i ok
      cases h
      exact Nat.le_of_eq ((minOk_ok ok).2.1 _ best_mem)
    · cases h
  · cases h
section
variable {X : Cx} {G : List Mode} {e a : Expr} {m ma : RM} {M : List Nat} {f : Ev → Option (D × Ev)} {ga : Ev → Option D} {p pos : Pos}
theorem de_minR (hc : X.calm = true) (hu : X.A.units + 64 < cLine) (hg : Gl X "min") (hm : X.mg "min" = none) (A : DE X G e m M f) (he : starEach [e] X.env = (false, eval e X.env) :: starEach [] X.env := by rfl) : DE X G (.Call (.Name "min" p) [e] [] pos) (.vw 0 []) M (mN opMinR (mCons f mNil)) := by
  have := de_callB (p := p) (pos := pos) (cr_minR hc hu) vr_minR (.vw 0 []) (fun _ _ _ h => k_minR h) (.inl rfl) hg hm bt_min (da_cons A da_nil (apart_nil m) he) (he := he)
  rwa [List.append_nil] at this
theorem pd_minR (hc : X.calm = true) (hu : X.A.units + 64 < cLine) (hg : Gl X "min") (hm : X.mg "min" = none) (A : PD X G a ma ga) (he : starEach [a] X.env = (false, eval a X.env) :: starEach [] X.env := by rfl) : PD X G (.Call (.Name "min" p) [a] [] pos) (.vw 0 []) (eN opMinR (eCons ga eNil)) := (de_minR hc hu hg hm A he).congr mN1_lift
end
end Dw
set_option maxHeartbeats 2000000
/-! Dx, part L: list(zip(a, b)) of lists and tuples in any mix. -/
namespace Dw
open PySem PySem.Spec PyProof.Rows L2 RZ RT

section
variable {pr : Program} {w : World} {A : Around} {E : Value → Shared → Prop} {s : Shared} {zc ci co old d1 d2 : Addr} {f1 f2 : List Addr} {m1 m2 i : Nat} {U1 U2 : Nat → Value → Prop} {T1 T2 : Nat → Heap → Prop} {fl : Bool} {ob : Obj}
/-- the next pair, the last one still held -/
theorem hz_item {Q : Value → Shared → Prop} (S : ZipSep2 zc ci co d1 d2 f1 f2) (W1 : Draws pr w A d1 f1 m1 U1 T1) (W2 : Draws pr w A d2 f2 m2 U2 T2)
    (zh : IsZipHeld s.heap zc ci co old fl) (oh : s.heap.get? old = some ob) (ih : IsTupOf2 s.heap ci (.ref d1) (.ref d2)) (a1 : T1 i s.heap) (a2 : T2 i s.heap) (b1 : i < m1) (b2 : i < m2)
    (hq : ∀ x y g tk, U1 i x → U2 i y → IsZipHeld g zc ci co old true → T1 (i + 1) g → T2 (i + 1) g → IsTupOf2 g s.heap.objs.size x y → (∀ c o, c ≠ zc → c ≠ d1 → c ≠ d2 → s.heap.get? c = some o → g.get? c = some o) → Q (.ref s.heap.objs.size) { s with heap := g, toks := tk }) :
    wpAny (model pr w) A (Builtin.«zip.__next__» ⟨[.ref zc], []⟩) (fun fin t => ∃ v, fin = .done (.ret v) ∧ Q v t) E s := by
  obtain ⟨hp, gs, dr, tk0, os⟩ := s
  show wpAny _ _ (field (.ref zc) 2 >>= _) _ _ _
  refine wpAny_bind (wpAny_field zh rfl (x := .bool false) rfl ?_)
  show wpAny _ _ (field (.ref zc) 3 >>= _) _ _ _
  refine wpAny_bind (wpAny_field zh rfl (x := .ref ci) rfl ?_)
  refine wpAny_bind (wpAny_seqItems ih rfl ?_)
  show wpAny _ _ (Builtin.SmallTypes.ownedTupleIsFree (.ref zc) >>= _) _ _ _
  refine wpAny_bind (wpAny_tupleHeld_zip zh oh fun g0 z0 k0 => ?_)
  replace k0 : Heap.SameBut zc hp g0 := k0
  simp only [Bool.false_eq_true, if_false]
  refine wpAny_bind ?_
  rw [← Array.forIn_toList]
  simp only [List.forIn_cons, List.forIn_nil]
  refine wpAny_bind (wpAny_bind (wpAny_holding ?_))
  show wpAny _ _ (Builtin.SmallTypes.nextOf (.ref d1) >>= _) _ _ ⟨g0, gs, dr, tk0, os⟩
  refine wpAny_bind (W1.item i _ _ _ b1 (W1.over a1 k0 S.zf1) fun x g1 tk1 ux s1 k1 => wpAny_pure ?_)
  replace k1 : Heap.SameBut d1 g0 g1 := k1
  refine wpAny_pure ?_
  refine wpAny_bind (wpAny_bind (wpAny_holding ?_))
  show wpAny _ _ (Builtin.SmallTypes.nextOf (.ref d2) >>= _) _ _ ⟨g1, gs, dr, tk1, os⟩
  refine wpAny_bind (W2.item i _ _ _ b2 (W2.over (W2.over a2 k0 S.zf2) k1 S.sep1_2) fun y g2 tk2 uy s2 k2 => wpAny_pure ?_)
  replace k2 : Heap.SameBut d2 g1 g2 := k2
  refine wpAny_pure (wpAny_pure ?_)
  show wpAny _ _ (newTuple [x, y] >>= _) _ _ ⟨g2, gs, dr, tk2, os⟩
  refine wpAny_bind (wpAny_newTuple ?_)
  have size : g2.objs.size = hp.objs.size := by rw [k2.1, k1.1, k0.1]
  have z2 : IsZipHeld g2 zc ci co old true := k2.extBut _ _ S.zi2 (k1.extBut _ _ S.zi1 z0)
  have keep : ∀ c o, c ≠ zc → c ≠ d1 → c ≠ d2 → hp.get? c = some o → g2.get? c = some o := fun c o e1 e2 e3 e => k2.extBut _ _ e3 (k1.extBut _ _ e2 (k0.extBut _ _ e1 e))
  have r1 : T1 (i + 1) g2 := W1.over s1 k2 S.sep2_1
  refine wpAny_pure ⟨_, rfl, ?_⟩
  show Q (.ref g2.objs.size) ⟨_, gs, dr, tk2, os⟩
  have np : IsTupOf2 (g2.push { cls := .type "tuple", data := .seq #[x, y] }) g2.objs.size x y := Heap.get?_push_size _ rfl
  rw [size] at np ⊢
  exact hq x y _ tk2 ux uy (Heap.get?_push_of_some _ z2) (W1.frame _ _ _ r1 fun b _ o e => Heap.get?_push_of_some _ e) (W2.frame _ _ _ s2 fun b _ o e => Heap.get?_push_of_some _ e) np fun c o e1 e2 e3 e => Heap.get?_push_of_some _ (keep c o e1 e2 e3 e)
theorem hz_end {Q : Fin → Shared → Prop} (S : ZipSep2 zc ci co d1 d2 f1 f2) (W1 : Draws pr w A d1 f1 m1 U1 T1) (W2 : Draws pr w A d2 f2 m2 U2 T2)
    (zh : IsZipHeld s.heap zc ci co old fl) (oh : s.heap.get? old = some ob) (ih : IsTupOf2 s.heap ci (.ref d1) (.ref d2)) (a1 : T1 i s.heap) (a2 : T2 i s.heap) (b1 : i ≤ m1) (b2 : i ≤ m2) (en : i = m1 ∨ i = m2)
    (he : ∀ g tk e, (∀ c o, c ≠ zc → c ≠ d1 → c ≠ d2 → s.heap.get? c = some o → g.get? c = some o) → (∃ o, g.get? e = some o ∧ o.cls = .type "StopIteration") → E (.ref e) { s with heap := g, toks := tk }) :
    wpAny (model pr w) A (Builtin.«zip.__next__» ⟨[.ref zc], []⟩) Q E s := by
  obtain ⟨hp, gs, dr, tk0, os⟩ := s
  show wpAny _ _ (field (.ref zc) 2 >>= _) _ _ _
  refine wpAny_bind (wpAny_field zh rfl (x := .bool false) rfl ?_)
  show wpAny _ _ (field (.ref zc) 3 >>= _) _ _ _
  refine wpAny_bind (wpAny_field zh rfl (x := .ref ci) rfl ?_)
  refine wpAny_bind (wpAny_seqItems ih rfl ?_)
  show wpAny _ _ (Builtin.SmallTypes.ownedTupleIsFree (.ref zc) >>= _) _ _ _
  refine wpAny_bind (wpAny_tupleHeld_zip zh oh fun g0 z0 k0 => ?_)
  replace k0 : Heap.SameBut zc hp g0 := k0
  simp only [Bool.false_eq_true, if_false]
  refine wpAny_bind ?_
  rw [← Array.forIn_toList]
  simp only [List.forIn_cons, List.forIn_nil]
  refine wpAny_bind (wpAny_bind (wpAny_holding ?_))
  show wpAny _ _ (Builtin.SmallTypes.nextOf (.ref d1) >>= _) _ _ ⟨g0, gs, dr, tk0, os⟩
  have over := W1.over a1 k0 S.zf1
  by_cases q : i = m1
  · rw [q] at over
    refine wpAny_bind (W1.done _ _ _ over fun g e k1 st => ?_)
    exact he g tk0 e (fun c o e1 e2 _ x => k1 _ _ e2 (k0.extBut _ _ e1 x)) st
  · have q2 : i = m2 := en.resolve_left q
    refine wpAny_bind (W1.item i _ _ _ (by omega) over fun x g1 tk1 ux s1 k1 => wpAny_pure ?_)
    replace k1 : Heap.SameBut d1 g0 g1 := k1
    refine wpAny_pure ?_
    refine wpAny_bind (wpAny_bind (wpAny_holding ?_))
    show wpAny _ _ (Builtin.SmallTypes.nextOf (.ref d2) >>= _) _ _ ⟨g1, gs, dr, tk1, os⟩
    have over2 := W2.over (W2.over a2 k0 S.zf2) k1 S.sep1_2
    rw [q2] at over2
    refine wpAny_bind (W2.done _ _ _ over2 fun g e k2 st => ?_)
    exact he g tk1 e (fun c o e1 e2 e3 x => k2 _ _ e3 (k1.extBut _ _ e2 (k0.extBut _ _ e1 x))) st
end
theorem zip_len0 : typeLookup (.type "zip") "__len__" = pure none := by rw [typeLookup_type, builtinLookup_eq_fast]; kernel_rfl
theorem zip_hint0 : typeLookup (.type "zip") "__length_hint__" = pure none := by rw [typeLookup_type, builtinLookup_eq_fast]; kernel_rfl
/-- a zip at its turn j, seen from the list at L -/
structure ZAt (U : Heap → Prop) (zc ci co d1 d2 L : Addr) (j : Nat) (h : Heap) : Prop where
  st : (j = 0 ∧ IsZip h zc ci co .none ∧ ∃ a b, IsTupOf2 h co a b) ∨ ∃ old fl ob, IsZipHeld h zc ci co old fl ∧ h.get? old = some ob ∧ L < old
  ins : IsTupOf2 h ci (.ref d1) (.ref d2)
  us : U h
section
variable {pr : Program} {w : World} {A : Around} {E : Value → Shared → Prop} {s : Shared} {zc ci co d1 d2 L : Addr} {f1 f2 : List Addr} {m1 m2 j : Nat} {U1 U2 : Nat → Value → Prop} {T1 T2 : Nat → Heap → Prop}
theorem z_type {U : Heap → Prop} (Z : ZAt U zc ci co d1 d2 L j s.heap) : s.TypeIs (.ref zc) "zip" := by
  rcases Z.st with ⟨_, h, _⟩ | ⟨_, _, _, h, _⟩ <;> exact ⟨_, h, rfl⟩
theorem lz_item {Q : Option Value → Shared → Prop} (S : ZipSep2 zc ci co d1 d2 f1 f2) (W1 : Draws pr w A.in1 d1 f1 m1 U1 T1) (W2 : Draws pr w A.in1 d2 f2 m2 U2 T2) (hL : L < s.heap.objs.size) (B : ∀ c ∈ [zc, ci, co, d1, d2], c < L) (Z : ZAt (fun h => T1 j h ∧ T2 j h) zc ci co d1 d2 L j s.heap) (b1 : j < m1) (b2 : j < m2)
    (hq : ∀ x y g tk, U1 j x → U2 j y → ZAt (fun h => T1 (j + 1) h ∧ T2 (j + 1) h) zc ci co d1 d2 L (j + 1) g → IsTupOf2 g s.heap.objs.size x y → (∀ c o, c ≠ zc → c ≠ co → c ≠ d1 → c ≠ d2 → s.heap.get? c = some o → g.get? c = some o) → Q (some (.ref s.heap.objs.size)) { s with heap := g, toks := tk }) :
    wpAny (model pr w) A (pyNext (.ref zc)) Q E s := by
  have ty := z_type Z
  unfold pyNext
  refine wpAny_bind (wpAny_attempt (wpAny_callSpecial?_slot (name := Str.ofString "__next__") ty F.slot_zip_next (wpAny_call_entry F.slot_zip_next ty F.entry_zip_next ?_ (F.args_zip_next_1 _))))
  rcases Z.st with ⟨e0, zh, a, b, oh⟩ | ⟨old, fl, ob, zh, oh, lo⟩
  · refine zipD2_next_item S W1 W2 zh Z.ins oh Z.us.1 Z.us.2 b1 b2 fun x y g tk ux uy z' o' t1 t2 np _ keep => wpAny_pure (hq x y g tk ux uy ⟨.inr ⟨_, false, _, z', np, hL⟩, keep _ _ S.TIz S.TITO S.TIi1 S.TIi2 Z.ins, t1, t2⟩ np keep)
  · refine hz_item S W1 W2 zh oh Z.ins Z.us.1 Z.us.2 b1 b2 fun x y g tk ux uy z' t1 t2 np keep => wpAny_pure (hq x y g tk ux uy ⟨.inr ⟨old, true, ob, z', keep _ _ ?_ ?_ ?_ oh, lo⟩, keep _ _ S.TIz S.TIi1 S.TIi2 Z.ins, t1, t2⟩ np fun c o e1 _ e3 e4 e => keep c o e1 e3 e4 e)
    · exact Nat.ne_of_gt (Nat.lt_trans (B zc (by simp)) lo)
    · exact Nat.ne_of_gt (Nat.lt_trans (B d1 (by simp)) lo)
    · exact Nat.ne_of_gt (Nat.lt_trans (B d2 (by simp)) lo)
theorem lz_done {Q : Option Value → Shared → Prop} (S : ZipSep2 zc ci co d1 d2 f1 f2) (W1 : Draws pr w A.in1 d1 f1 m1 U1 T1) (W2 : Draws pr w A.in1 d2 f2 m2 U2 T2) (Z : ZAt (fun h => T1 j h ∧ T2 j h) zc ci co d1 d2 L j s.heap) (b1 : j ≤ m1) (b2 : j ≤ m2) (en : j = m1 ∨ j = m2)
    (hq : ∀ g tk, (∀ c o, c ≠ zc → c ≠ co → c ≠ d1 → c ≠ d2 → s.heap.get? c = some o → g.get? c = some o) → Q none { s with heap := g, toks := tk }) : wpAny (model pr w) A (pyNext (.ref zc)) Q E s := by
  rcases Z.st with ⟨e0, zh, a, b, oh⟩ | ⟨old, fl, ob, zh, oh, lo⟩
  · exact wpAny_pyNext_zipD2_end S W1 W2 zh Z.ins oh Z.us.1 Z.us.2 b1 b2 en hq
  · have ty := z_type Z
    unfold pyNext
    refine wpAny_bind (wpAny_attempt (wpAny_callSpecial?_slot (name := Str.ofString "__next__") ty F.slot_zip_next (wpAny_call_entry F.slot_zip_next ty F.entry_zip_next (hz_end S W1 W2 zh oh Z.ins Z.us.1 Z.us.2 b1 b2 en fun g tk e keep st => ?_) (F.args_zip_next_1 _))))
    obtain ⟨o, e1, e2⟩ := st
    exact wpAny_bind (wpAny_isInstance (T := "StopIteration") (b := true) ⟨o, e1, e2⟩ isSubtype_stop (wpAny_pure (hq g tk fun c o x1 _ x3 x4 e => keep c o x1 x3 x4 e)))
/-- the new pairs, in order, above L -/
structure Prs (U1 U2 : Nat → Value → Prop) (L : Addr) (h : Heap) (as : List Addr) : Prop where
  rise : as.Pairwise (· < ·)
  above : ∀ a ∈ as, L < a
  is : ∀ (j : Nat) (a : Addr), as[j]? = some a → ∃ x y, U1 j x ∧ U2 j y ∧ IsTupOf2 h a x y
theorem Prs.there {h : Heap} {as : List Addr} (g : Prs U1 U2 L h as) {a : Addr} (ha : a ∈ as) : a < h.objs.size := by
  obtain ⟨j, hj⟩ := List.mem_iff_getElem?.mp ha
  obtain ⟨x, y, _, _, e⟩ := g.is j a hj
  exact Heap.lt_size e
theorem lz_loop {R : Result → Shared → Prop} {h0 : Heap} {res : Value} (hh : A.handled = none) (S : ZipSep2 zc ci co d1 d2 f1 f2) (W1 : ∀ A' : Around, A'.handled = none → Draws pr w A' d1 f1 m1 U1 T1) (W2 : ∀ A' : Around, A'.handled = none → Draws pr w A' d2 f2 m2 U2 T2) (B : ∀ c ∈ [zc, ci, co, d1, d2], c < L)
    (F1 : ∀ b ∈ f1, b < L) (F2 : ∀ b ∈ f2, b < L) (hn : min m1 m2 ≤ sizeLine)
    (hR : ∀ g tk acc c as, (∀ b o, b < L → b ≠ zc → b ≠ co → b ≠ d1 → b ≠ d2 → h0.get? b = some o → g.get? b = some o) → g.get? L = some { cls := .type "list", dict := none, data := .seq acc c, slots := #[] } → as.length = min m1 m2 → Prs U1 U2 L g as →
      acc.toList = as.map Value.ref → R (.ok (.ret res)) { s with heap := g, toks := tk }) :
    ∀ (k j : Nat) (h : Heap) (tk c : Nat) (acc : Array Value) (as : List Addr), min m1 m2 - j = k → j ≤ min m1 m2 → ZAt (fun h => T1 j h ∧ T2 j h) zc ci co d1 d2 L j h → (∀ b o, b < L → b ≠ zc → b ≠ co → b ≠ d1 → b ≠ d2 → h0.get? b = some o → h.get? b = some o) →
      h.get? L = some { cls := .type "list", dict := none, data := .seq acc c, slots := #[] } → acc.toList = as.map Value.ref → as.length = j → Prs U1 U2 L h as →
      codeAny (model pr w) A (.builtin "list.extend.loop" ⟨[.ref L, .ref zc, res], []⟩) R { s with heap := h, toks := tk } := by
  have Bz : L ≠ zc := Nat.ne_of_gt (B zc (by simp))
  have Bc : L ≠ co := Nat.ne_of_gt (B co (by simp))
  have B1 : L ≠ d1 := Nat.ne_of_gt (B d1 (by simp))
  have B2 : L ≠ d2 := Nat.ne_of_gt (B d2 (by simp))
  intro k
  induction k with
  | zero =>
    intro j h tk c acc as hk hj Z keep hL hacc hal P
    refine codeAny_builtin PySem.F.entry_extend_loop ?_
    rw [Around.under_plainId PySem.F.plain_extend_loop _]
    show wpAny _ A.in1 (pyNext (.ref zc) >>= _) _ _ _
    refine wpAny_bind (lz_done (A := A.in1) (s := { s with heap := h, toks := tk }) S (W1 _ hh) (W2 _ hh) Z (by omega) (by omega) (by omega) fun g tk' kp => ?_)
    have up : ∀ a, L < a → ∀ o, h.get? a = some o → g.get? a = some o := fun a ha o e => kp a o (Nat.ne_of_gt (Nat.lt_trans (B zc (by simp)) ha)) (Nat.ne_of_gt (Nat.lt_trans (B co (by simp)) ha)) (Nat.ne_of_gt (Nat.lt_trans (B d1 (by simp)) ha)) (Nat.ne_of_gt (Nat.lt_trans (B d2 (by simp)) ha)) e
    refine wpAny_pure (hR g tk' acc c as (fun b o l x1 x2 x3 x4 e => kp b o x1 x2 x3 x4 (keep b o l x1 x2 x3 x4 e)) (kp L _ Bz Bc B1 B2 hL) (by omega) ⟨P.rise, P.above, fun i a ha => ?_⟩ hacc)
    obtain ⟨x, y, u1, u2, e⟩ := P.is i a ha
    exact ⟨x, y, u1, u2, up a (P.above a (List.mem_of_getElem? ha)) _ e⟩
  | succ k ih =>
    intro j h tk c acc as hk hj Z keep hL hacc hal P
    have size : acc.size = j := by rw [← Array.length_toList, hacc, List.length_map, hal]
    have Ll : L < h.objs.size := Heap.lt_size hL
    refine codeAny_builtin PySem.F.entry_extend_loop ?_
    rw [Around.under_plainId PySem.F.plain_extend_loop _]
    show wpAny _ A.in1 (pyNext (.ref zc) >>= _) _ _ _
    refine wpAny_bind (lz_item (A := A.in1) (s := { s with heap := h, toks := tk }) S (W1 _ hh) (W2 _ hh) Ll B Z (by omega) (by omega) fun x y g tk' ux uy Z' np kp => ?_)
    replace np : IsTupOf2 g h.objs.size x y := np
    have hL' := kp L _ Bz Bc B1 B2 hL
    have up : ∀ a, L < a → ∀ o, h.get? a = some o → g.get? a = some o := fun a ha o e => kp a o (Nat.ne_of_gt (Nat.lt_trans (B zc (by simp)) ha)) (Nat.ne_of_gt (Nat.lt_trans (B co (by simp)) ha)) (Nat.ne_of_gt (Nat.lt_trans (B d1 (by simp)) ha)) (Nat.ne_of_gt (Nat.lt_trans (B d2 (by simp)) ha)) e
    have past : ∀ b o, b ≠ L → g.get? b = some o → (g.update L (Obj.mapSeq (·.push (Value.ref h.objs.size)))).get? b = some o := fun b o ne e => (Heap.get?_update_other _ _ (Ne.symm ne)).trans e
    show wpAny _ A.in1 (updateSeq L (·.push (Value.ref h.objs.size)) >>= _) _ _ _
    refine wpAny_bind (wpAny_updateSeq hL' rfl (wpAny_pure ⟨plainId_quiet PySem.F.plain_extend_loop _, ih (j + 1) _ tk' _ (acc.push (Value.ref h.objs.size)) (as ++ [h.objs.size]) (by omega) (by omega) ⟨?_, past _ _ (Nat.ne_of_lt (B ci (by simp))) Z'.ins, ?_, ?_⟩ (fun b o l x1 x2 x3 x4 e => past b o (Nat.ne_of_lt l) (kp b o x1 x2 x3 x4 (keep b o l x1 x2 x3 x4 e))) (Heap.get?_update_self _ hL' rfl) (by rw [Array.toList_push, hacc, List.map_append]; rfl) (by rw [List.length_append, hal]; rfl) ⟨?_, ?_, ?_⟩⟩) (by rw [size]; omega) (by show (acc.push (Value.ref h.objs.size)).size ≤ sizeLine + 1; rw [Array.size_push, size]; omega))
    · rcases Z'.st with ⟨e0, _⟩ | ⟨old, fl, ob, zh, oh, lo⟩
      · exact absurd e0 (Nat.succ_ne_zero _)
      · exact .inr ⟨old, fl, ob, past _ _ (Ne.symm Bz) zh, past _ _ (Nat.ne_of_gt lo) oh, lo⟩
    · exact (W1 A hh).frame _ _ _ Z'.us.1 fun b hb o e => past b o (Nat.ne_of_lt (F1 b hb)) e
    · exact (W2 A hh).frame _ _ _ Z'.us.2 fun b hb o e => past b o (Nat.ne_of_lt (F2 b hb)) e
    · refine List.pairwise_append.mpr ⟨P.rise, List.pairwise_singleton _ _, fun a ha b hb => ?_⟩
      rw [List.mem_singleton.mp hb]
      exact P.there ha
    · intro a ha
      rcases List.mem_append.mp ha with ha | ha
      · exact P.above a ha
      · rw [List.mem_singleton.mp ha]; exact Ll
    · intro i a ha
      rcases Nat.lt_trichotomy i as.length with l | l | l
      · rw [List.getElem?_append_left l] at ha
        obtain ⟨x', y', u1, u2, e⟩ := P.is i a ha
        have la := P.above a (List.mem_of_getElem? ha)
        exact ⟨x', y', u1, u2, past a _ (Nat.ne_of_gt la) (up a la _ e)⟩
      · subst l
        have ea : h.objs.size = a := by simpa using ha
        subst ea
        subst hal
        exact ⟨x, y, ux, uy, past _ _ (Nat.ne_of_gt Ll) np⟩
      · have none : (as ++ [h.objs.size])[i]? = none := List.getElem?_eq_none (by rw [List.length_append, List.length_singleton]; omega)
        rw [none] at ha; cases ha
theorem lz_extend {R : Result → Shared → Prop} {res : Value} {c0 : Nat} (hh : A.handled = none) (S : ZipSep2 zc ci co d1 d2 f1 f2) (W1 : ∀ A' : Around, A'.handled = none → Draws pr w A' d1 f1 m1 U1 T1) (W2 : ∀ A' : Around, A'.handled = none → Draws pr w A' d2 f2 m2 U2 T2) (B : ∀ c ∈ [zc, ci, co, d1, d2], c < L)
    (F1 : ∀ b ∈ f1, b < L) (F2 : ∀ b ∈ f2, b < L) (hn : min m1 m2 ≤ sizeLine) (Z : ZAt (fun h => T1 0 h ∧ T2 0 h) zc ci co d1 d2 L 0 s.heap) (iz : ∃ f0, IsZip s.heap zc ci co f0) (hL : s.heap.get? L = some { cls := .type "list", data := .seq #[] c0 })
    (hR : ∀ g tk acc c as, (∀ b o, b < L → b ≠ zc → b ≠ co → b ≠ d1 → b ≠ d2 → s.heap.get? b = some o → g.get? b = some o) → g.get? L = some { cls := .type "list", dict := none, data := .seq acc c, slots := #[] } → as.length = min m1 m2 → Prs U1 U2 L g as →
      acc.toList = as.map Value.ref → R (.ok (.ret res)) { s with heap := g, toks := tk }) :
    wpAny (model pr w) A.in1 (Builtin.List.listExtendWith (.ref L) (.ref zc) res) (fun fin t => match fin with | .done f => R (.ok f) t | .again c' => c'.quiet = true ∧ codeAny (model pr w) A c' R t) (fun e t => R (.error e) t) s := by
  have Bz : L ≠ zc := Nat.ne_of_gt (B zc (by simp))
  have go : ∀ (h : Heap) (c1 : Nat), (∀ b o, b ≠ L → s.heap.get? b = some o → h.get? b = some o) → h.get? L = some { cls := .type "list", data := .seq #[] c1 } → codeAny (model pr w) A (.builtin "list.extend.loop" ⟨[.ref L, .ref zc, res], []⟩) R { s with heap := h, toks := s.toks } := fun h c1 kp hl => by
    refine lz_loop (h0 := s.heap) hh S W1 W2 B F1 F2 hn hR (min m1 m2) 0 h s.toks c1 #[] [] (Nat.sub_zero _) (Nat.zero_le _) ⟨?_, kp _ _ (Nat.ne_of_lt (B ci (by simp))) Z.ins, (W1 A hh).frame _ _ _ Z.us.1 fun b hb o e => kp b o (Nat.ne_of_lt (F1 b hb)) e, (W2 A hh).frame _ _ _ Z.us.2 fun b hb o e => kp b o (Nat.ne_of_lt (F2 b hb)) e⟩
      (fun b o l _ _ _ _ e => kp b o (Nat.ne_of_lt l) e) hl rfl rfl ⟨.nil, (fun _ h => nomatch h), fun i a ha => by simp at ha⟩
    rcases Z.st with ⟨e0, zh, a, b, oh⟩ | ⟨old, fl, ob, zh, oh, lo⟩
    · exact .inl ⟨e0, kp _ _ (Ne.symm Bz) zh, a, b, kp _ _ (Nat.ne_of_lt (B co (by simp))) oh⟩
    · exact .inr ⟨old, fl, ob, kp _ _ (Ne.symm Bz) zh, kp _ _ (Nat.ne_of_gt lo) oh, lo⟩
  have ty := z_type Z
  unfold Builtin.List.listExtendWith
  refine wpAny_bind (wpAny_typeOf ty ?_)
  have n1 : Builtin.List.listSameRef (.ref L) (.ref zc) = false := by simp [Builtin.List.listSameRef, Bz]
  have n2 : (Value.type "zip" == Value.type "list") = false := by decide
  have n3 : (Value.type "zip" == Value.type "tuple") = false := by decide
  simp only [n1, n2, n3, Bool.or_false, Bool.false_eq_true, if_false]
  obtain ⟨f0, iz⟩ := iz
  refine wpAny_bind (wpAny_pyIter_zip iz ?_)
  refine wpAny_bind (wpAny_holding ?_)
  unfold Builtin.List.listLengthHint
  refine wpAny_bind (wpAny_specialOf ty zip_len0 ?_)
  show wpAny _ A.in1 (specialOf (Value.ref zc) (Str.ofString "__length_hint__") >>= _) _ _ _
  refine wpAny_bind (wpAny_specialOf ty zip_hint0 ?_)
  refine wpAny_pure ?_
  show wpAny _ A.in1 (rule "list.extend.makes-room" >>= fun _ => Builtin.List.listTouch (.ref L) >>= fun _ => again (.builtin "list.extend.loop" ⟨[.ref L, .ref zc, res], []⟩)) _ _ _
  refine wpAny_bind (wpAny_rule ?_)
  refine wpAny_bind ?_
  show wpAny _ A.in1 (updateSeq L (·.push .none) >>= fun _ => updateSeq L (·.pop)) _ _ _
  refine wpAny_bind (wpAny_updateSeq hL rfl ?_)
  have hL2 := Heap.get?_update_self (Obj.mapSeq (·.push Value.none)) hL rfl
  refine wpAny_updateSeq (hz := by seq_fits) hL2 rfl ?_
  have hL3 := Heap.get?_update_self (Obj.mapSeq (·.pop)) hL2 rfl
  exact wpAny_pure ⟨plainId_quiet PySem.F.plain_extend_loop _, go _ _ (fun b o ne e => (Heap.get?_update_other _ _ (Ne.symm ne)).trans ((Heap.get?_update_other _ _ (Ne.symm ne)).trans e)) hL3⟩
theorem lz_call {Q : Value → Shared → Prop} (hh : A.handled = none) (S : ZipSep2 zc ci co d1 d2 f1 f2) (W1 : ∀ A' : Around, A'.handled = none → Draws pr w A' d1 f1 m1 U1 T1) (W2 : ∀ A' : Around, A'.handled = none → Draws pr w A' d2 f2 m2 U2 T2) (hn : min m1 m2 ≤ sizeLine)
    (iz : IsZip s.heap zc ci co .none) (ins : IsTupOf2 s.heap ci (.ref d1) (.ref d2)) (outs : IsTupOf2 s.heap co .none .none) (t1 : T1 0 s.heap) (t2 : T2 0 s.heap) (F1 : ∀ b ∈ f1, b < s.heap.objs.size) (F2 : ∀ b ∈ f2, b < s.heap.objs.size)
    (hq : ∀ g tk acc c as, (∀ b o, b ≠ zc → b ≠ co → b ≠ d1 → b ≠ d2 → s.heap.get? b = some o → g.get? b = some o) → g.get? s.heap.objs.size = some { cls := .type "list", dict := none, data := .seq acc c, slots := #[] } → as.length = min m1 m2 → Prs U1 U2 s.heap.objs.size g as →
      acc.toList = as.map Value.ref → Q (.ref s.heap.objs.size) { s with heap := g, toks := tk }) :
    wpAny (model pr w) A (call (.type "list") [.ref zc]) Q E s := by
  have B : ∀ c ∈ [zc, ci, co, d1, d2], c < s.heap.objs.size := fun c hc => by
    simp only [List.mem_cons, List.not_mem_nil, or_false] at hc
    rcases hc with rfl | rfl | rfl | rfl | rfl
    · exact Heap.lt_size iz
    · exact Heap.lt_size ins
    · exact Heap.lt_size outs
    · exact F1 _ S.mem1
    · exact F2 _ S.mem2
  refine callType_codes (Q₁ := fun ob t => ob = .ref s.heap.objs.size ∧ t = { s with heap := s.heap.push { cls := .type "list", data := .seq #[] } }) PySem.F.called_list (PySem.F.typeCall_list_1 _) PySem.F.entry_list_init (code_list_new _ ⟨rfl, rfl⟩) fun ob t ht => ?_
  obtain ⟨rfl, rfl⟩ := ht
  have hL : (s.heap.push { cls := .type "list", data := .seq #[] }).get? s.heap.objs.size = some { cls := .type "list", data := .seq #[] } := Heap.get?_push_size _ rfl
  refine ⟨⟨_, hL, rfl⟩, PySem.F.args_list_init_2 _ _, ?_⟩
  show wpAny _ _ (do let old ← Builtin.List.listItems (.ref s.heap.objs.size); Builtin.List.listUpdate (.ref s.heap.objs.size) (fun _ => #[]); letGo old.toList.reverse; Builtin.List.listExtendWith (.ref s.heap.objs.size) (.ref zc) .none) _ _ _
  refine wpAny_bind ?_
  unfold Builtin.List.listItems
  refine wpAny_bind (wpAny_seqItems hL rfl (wpAny_pure ?_))
  show wpAny _ _ (updateSeq s.heap.objs.size (fun _ => #[]) >>= fun _ => letGo (#[] : Array Value).toList.reverse >>= fun _ => Builtin.List.listExtendWith (.ref s.heap.objs.size) (.ref zc) .none) _ _ _
  refine wpAny_bind (wpAny_updateSeq hL rfl ?_)
  have hL2 := Heap.get?_update_self (Obj.mapSeq (fun _ => (#[] : Array Value))) hL rfl
  refine wpAny_bind (wpAny_letGo ?_)
  have kp : ∀ b o, b < s.heap.objs.size → s.heap.get? b = some o → ((s.heap.push { cls := .type "list", data := .seq #[] }).update s.heap.objs.size (Obj.mapSeq (fun _ => (#[] : Array Value)))).get? b = some o := fun b o l e => (Heap.get?_update_other _ _ (Nat.ne_of_gt l)).trans (Heap.get?_push_of_some _ e)
  refine lz_extend (A := A.in1) hh S W1 W2 B F1 F2 hn ⟨.inl ⟨rfl, kp _ _ (B zc (by simp)) iz, _, _, kp _ _ (B co (by simp)) outs⟩, kp _ _ (B ci (by simp)) ins, (W1 A hh).frame _ _ _ t1 fun b hb o e => kp b o (F1 b hb) e, (W2 A hh).frame _ _ _ t2 fun b hb o e => kp b o (F2 b hb) e⟩ ⟨_, kp _ _ (B zc (by simp)) iz⟩ hL2 fun g tk acc c as keep hg hl P hacc => ⟨rfl, ?_⟩
  exact hq g tk acc c as (fun b o x1 x2 x3 x4 e => keep b o (Heap.lt_size e) x1 x2 x3 x4 (kp b o (Heap.lt_size e) e)) hg hl P hacc
end
end Dw
set_option maxHeartbeats 2000000
/-! Dx, part M: list(zip(a, b)) as an expression. -/
namespace Dw
open PySem PySem.Spec PyProof.Rows L2 RZ RT

section
variable {X : Cx} {pins : List (Addr × Obj)} {σ : L2.St} {H : Hp} {s : Shared} {a b : Addr} {xs ys : List V}
/-- a list or a tuple that is drawn from -/
theorem src_of (I : Inv X pins σ H s) (h : SqL X.K H a xs ∨ SqT X.K H a xs) : a < s.heap.objs.size ∧ xs.length ≤ sizeLine ∧ ∃ (its : List Value) (o : Obj) (HH : Heap → Prop), Vals xs its ∧ Begins (.ref a) o HH ∧ HH s.heap ∧
    ∀ it, it ≠ a → ∃ T : Nat → Heap → Prop, (∀ A' : Around, A'.handled = none → Draws X.prog X.w A' it [it, a] its.length (fun i v => its[i]? = some v) T) ∧ ∀ h, h.get? it = some o → HH h → T 0 h := by
  rcases h with h | h
  · obtain ⟨its, rv, pl, hz⟩ := I.list h
    refine ⟨pl.lt, hz, its, _, _, rv, begins_list a its.toArray, pl.isList, fun it ne => ⟨fun i h => h.IsListIter it a i ∧ h.IsList a its.toArray, fun A' hA => ?_, fun h e hh => ⟨⟨_, e, rfl, rfl⟩, hh⟩⟩⟩
    have D := Draws.list (prog := X.prog) (w := X.w) hA it a (Ne.symm ne) its.toArray
    simpa using D
  · obtain ⟨its, rv, tp, hz⟩ := I.tuple h
    have lt : a < s.heap.objs.size := by obtain ⟨_, q, _⟩ := tp; exact Heap.lt_size q
    refine ⟨lt, hz, its, _, _, rv, begins_tuple a its.toArray, tp, fun it ne => ⟨fun i h => h.IsTupleIter it a i ∧ h.IsTuple a its.toArray, fun A' hA => ?_, fun h e hh => ⟨⟨_, e, rfl, rfl⟩, hh⟩⟩⟩
    have D := Draws.tuple (prog := X.prog) (w := X.w) hA it a (Ne.symm ne) its.toArray
    simpa using D
/-- new pairs, tracked at their places -/
def putP : Hp → List Addr → List (V × V) → Hp
  | hp, t :: ts, q :: qs => putP (upd hp t (.tup [q.1, q.2])) ts qs
  | hp, _, _ => hp
theorem putP_off {c : Addr} : ∀ (ts : List Addr) (qs : List (V × V)) (hp : Hp), c ∉ ts → putP hp ts qs c = hp c
  | [], _, _, _ => rfl
  | _ :: _, [], _, _ => rfl
  | t :: ts, q :: qs, hp, h => by
    show putP (upd hp t _) ts qs c = hp c
    rw [putP_off ts qs _ (fun z => h (List.mem_cons_of_mem _ z)), upd_ne (fun z => h (by rw [z]; exact List.mem_cons_self))]
theorem putP_at : ∀ (ts : List Addr) (qs : List (V × V)) (hp : Hp), ts.length = qs.length → ts.Nodup → ∀ (j : Nat) (t : Addr), ts[j]? = some t → ∃ q, qs[j]? = some q ∧ putP hp ts qs t = some (.tup [q.1, q.2])
  | [], [], _, _, _, _, _, h => by simp at h
  | [], _ :: _, _, h, _, _, _, _ => by cases h
  | _ :: _, [], _, h, _, _, _, _ => by cases h
  | t0 :: ts, q0 :: qs, hp, hl, hn, 0, t, h => by
    have e : t0 = t := by simpa using h
    subst e
    refine ⟨q0, rfl, ?_⟩
    show putP (upd hp t0 _) ts qs t0 = _
    rw [putP_off ts qs _ (List.nodup_cons.mp hn).1, upd_same]
  | t0 :: ts, q0 :: qs, hp, hl, hn, j + 1, t, h => putP_at ts qs _ (Nat.succ.inj hl) (List.nodup_cons.mp hn).2 j t h
theorem refs_vals : ∀ ts : List Addr, Vals (ts.map V.ref) (ts.map Value.ref)
  | [] => .nil
  | _ :: ts => .cons rfl (refs_vals ts)
/-- what a list of new pairs gives -/
def LZ (H H' : Hp) (xs ys : List V) (p : Addr) (ts : List Addr) : Prop :=
  (∀ c o, H c = some o → H' c = some o) ∧ H p = none ∧ (∀ t ∈ ts, H t = none) ∧ p ∉ ts ∧ ts.Nodup ∧ ts.length = min xs.length ys.length ∧ H' p = some (.lst (ts.map V.ref)) ∧ (∀ c, c ≠ p → c ∉ ts → H' c = H c) ∧
    ∀ (j : Nat) (t : Addr), ts[j]? = some t → ∃ x y, xs[j]? = some x ∧ ys[j]? = some y ∧ H' t = some (.tup [x, y])
theorem lz_laid {g : Heap} {tk : Nat} {i1 i2 : List Value} {acc : Array Value} {c : Nat} {ts : List Addr} (I : Inv X pins σ H s) (hz : min xs.length ys.length ≤ sizeLine) (v1 : Vals xs i1) (v2 : Vals ys i2) (kp : ∀ b o, s.heap.get? b = some o → g.get? b = some o) {p : Addr} (hp : s.heap.objs.size ≤ p)
    (hL : g.get? p = some { cls := .type "list", dict := none, data := .seq acc c, slots := #[] }) (hl : ts.length = min i1.length i2.length) (P : Prs (fun i v => i1[i]? = some v) (fun i v => i2[i]? = some v) p g ts) (hacc : acc.toList = ts.map Value.ref) :
    ∃ H', LZ H H' xs ys p ts ∧ Inv X pins σ H' { s with heap := g, toks := tk } := by
  have l1 := v1.length
  have l2 := v2.length
  have pn : p ∉ ts := fun z => Nat.lt_irrefl _ (P.above _ z)
  have nd : ts.Nodup := P.rise.imp fun h => Nat.ne_of_lt h
  have new : ∀ t ∈ ts, H t = none := fun t ht => I.hok.fresh (Nat.le_trans hp (Nat.le_of_lt (P.above t ht)))
  have newP : H p = none := I.hok.fresh hp
  have ll : ts.length = (xs.zip ys).length := by rw [List.length_zip]; omega
  have eP : putP (upd H p (.lst (ts.map V.ref))) ts (xs.zip ys) p = some (.lst (ts.map V.ref)) := by rw [putP_off _ _ _ pn, upd_same]
  have off : ∀ c, c ≠ p → c ∉ ts → putP (upd H p (.lst (ts.map V.ref))) ts (xs.zip ys) c = H c := fun c h1 h2 => by rw [putP_off _ _ _ h2, upd_ne h1]
  have low : ∀ c o, s.heap.get? c = some o → c ≠ p ∧ c ∉ ts := fun c o e => ⟨fun z => Nat.lt_irrefl _ (Nat.lt_of_lt_of_le (Heap.lt_size e) (by rw [z]; exact hp)), fun z => Nat.lt_irrefl _ (Nat.lt_trans (Nat.lt_of_lt_of_le (Heap.lt_size e) hp) (P.above c z))⟩
  have old : ∀ c u, H c = some u → putP (upd H p (.lst (ts.map V.ref))) ts (xs.zip ys) c = some u := fun c u e => by
    rw [off c (fun z => by rw [z, newP] at e; cases e) fun z => by rw [new c z] at e; cases e]
    exact e
  have atT : ∀ (j : Nat) (t : Addr), ts[j]? = some t → ∃ x y, xs[j]? = some x ∧ ys[j]? = some y ∧ putP (upd H p (.lst (ts.map V.ref))) ts (xs.zip ys) t = some (.tup [x, y]) := fun j t h => by
    obtain ⟨q, e1, e2⟩ := putP_at ts (xs.zip ys) (upd H p (.lst (ts.map V.ref))) ll nd j t h
    obtain ⟨q1, q2⟩ := q
    rw [List.getElem?_zip_eq_some] at e1
    exact ⟨q1, q2, e1.1, e1.2, e2⟩
  refine ⟨_, ⟨old, newP, new, pn, nd, by omega, eP, off, atT⟩, ?_⟩
  refine I.call' (ch := []) rfl ⟨fun b o e _ _ _ => kp b o e, fun b o e _ _ _ => ⟨o.slots, kp b o e⟩, fun b o e n _ => ?_, fun b o e _ => ⟨o, kp b o e⟩, fun b xs e => old b _ e, fun b o u e => old b _ e, fun b ps e => ⟨#[], by rw [old b _ e]; simp⟩⟩ (fun b u e => ?_) I.bare fun b z => by simp at z
  · obtain ⟨z1, z2⟩ := low b o e
    rw [off b z1 z2]
    exact n
  · by_cases hb : b ∈ ts
    · obtain ⟨j, hj⟩ := List.mem_iff_getElem?.mp hb
      obtain ⟨x, y, e1, e2, e3⟩ := atT j b hj
      rw [e3] at e
      cases e
      obtain ⟨u1, u2, e4, e5, e6⟩ := P.is j b hj
      obtain ⟨w1, g1, g2⟩ := v1.get e1
      obtain ⟨w2, g3, g4⟩ := v2.get e2
      rw [g1] at e4; cases e4
      rw [g3] at e5; cases e5
      exact ⟨(by decide : 2 ≤ sizeLine), [u1, u2], .cons g2 (.cons g4 .nil), _, e6, rfl, _, rfl⟩
    · by_cases hb2 : b = p
      · subst hb2
        rw [eP] at e
        cases e
        refine ⟨by rw [List.length_map]; omega, acc.toList, c, by rw [hacc]; exact refs_vals ts, ?_⟩
        rw [Array.toArray_toList]
        exact hL
      · rw [off b hb2 hb] at e
        exact (I.hok b u e).stay (fun d v _ y => kp d v y) (fun d y => old d _ y) fun d xs y => old d _ y
end
theorem sep_new (N a b : Nat) (la : a < N) (lb : b < N) : ZipSep2 (N + 4) (N + 2) (N + 3) N (N + 1) [N, a] [N + 1, b] where
  TIz := (by omega : (N + 2 : Nat) ≠ N + 4)
  TOz := (by omega : (N + 3 : Nat) ≠ N + 4)
  TITO := (by omega : (N + 2 : Nat) ≠ N + 3)
  TIi1 := (by omega : (N + 2 : Nat) ≠ N)
  mem1 := List.mem_cons_self
  zf1 := fun h => by
    rcases List.mem_cons.mp h with h | h
    · exact (by omega : (N + 4 : Nat) ≠ N) h
    · exact (by omega : (N + 4 : Nat) ≠ a) (List.mem_singleton.mp h)
  Tf1 := fun h => by
    rcases List.mem_cons.mp h with h | h
    · exact (by omega : (N + 3 : Nat) ≠ N) h
    · exact (by omega : (N + 3 : Nat) ≠ a) (List.mem_singleton.mp h)
  TIi2 := (by omega : (N + 2 : Nat) ≠ N + 1)
  mem2 := List.mem_cons_self
  zf2 := fun h => by
    rcases List.mem_cons.mp h with h | h
    · exact (by omega : (N + 4 : Nat) ≠ N + 1) h
    · exact (by omega : (N + 4 : Nat) ≠ b) (List.mem_singleton.mp h)
  Tf2 := fun h => by
    rcases List.mem_cons.mp h with h | h
    · exact (by omega : (N + 3 : Nat) ≠ N + 1) h
    · exact (by omega : (N + 3 : Nat) ≠ b) (List.mem_singleton.mp h)
  sep1_2 := fun h => by
    rcases List.mem_cons.mp h with h | h
    · exact (by omega : (N : Nat) ≠ N + 1) h
    · exact (by omega : (N : Nat) ≠ b) (List.mem_singleton.mp h)
  sep2_1 := fun h => by
    rcases List.mem_cons.mp h with h | h
    · exact (by omega : (N + 1 : Nat) ≠ N) h
    · exact (by omega : (N + 1 : Nat) ≠ a) (List.mem_singleton.mp h)
/-- list(zip(e, e2)) -/
def tLZ (K : PySem.W.Frag) (ta : TA) : TE := fun σ H Q => ta σ H fun vs H1 => ∃ (a b : Addr) (xs ys : List V), vs = [.ref a, .ref b] ∧ (SqL K H1 a xs ∨ SqT K H1 a xs) ∧ (SqL K H1 b ys ∨ SqT K H1 b ys) ∧ ∀ H' p ts, LZ H1 H' xs ys p ts → Q (.ref p) H'
theorem pe_lz {X : Cx} {e e2 : Expr} {ta : TA} {p p2 pos pos2 : Pos} (hc : X.calm = true) (hgL : Gl X "list") (hmL : X.mg "list" = none) (hg : Gl X "zip") (hm : X.mg "zip" = none) (ha : PA X [e, e2] ta) (hv : bootBuiltins "list" = some (.type "list"))
    (hs : starEach [e, e2] X.env = (false, eval e X.env) :: starEach [e2] X.env := by rfl) (hpl : (backTo pos2 (starEach [e2] X.env)).any (·.1) = false := by rfl)
    (hs2 : starEach [.Call (.Name "zip" p2) [e, e2] [] pos2] X.env = (false, eval (.Call (.Name "zip" p2) [e, e2] [] pos2) X.env) :: starEach [] X.env := by rfl) :
    PE X (.Call (.Name "list" p) [.Call (.Name "zip" p2) [e, e2] [] pos2] [] pos) (tLZ X.K ta) := by
  refine ⟨fun pins s σ H Q I h => ?_⟩
  refine wpAny_Call_Name_kw (ld_blt I hgL hmL hv ?_)
  refine PyProof.Rows.callWith_type1 ?_ hs2 rfl
  rw [hs2]
  show wpAny _ _ (spliced ((false, eval (.Call (.Name "zip" p2) [e, e2] [] pos2) X.env) :: backTo pos (starEach [] X.env))) _ _ s
  refine Calls.spliced_cons ?_
  refine Call_ (ld_blt I hg hm PyProof.Rows.boot_zip (PyProof.Rows.callWith_type1 (thn (ha.run pos2 pins s σ H _ I h) fun us t ⟨vs, H1, I1, r1, q1⟩ => ?_) hs hpl))
  obtain ⟨a, b, xs, ys, ex, h1, h2, q⟩ := q1
  subst ex
  cases r1 with
  | cons r rr =>
    cases rr with
    | cons r' rr =>
      cases rr
      cases r
      cases r'
      obtain ⟨la, z1, i1, o1, G1, v1, b1, g1, D1⟩ := src_of I1 h1
      obtain ⟨lb, z2, i2, o2, G2, v2, b2, g2, D2⟩ := src_of I1 h2
      obtain ⟨T1, W1, s1⟩ := D1 t.heap.objs.size (Nat.ne_of_gt la)
      obtain ⟨T2, W2, s2⟩ := D2 (t.heap.objs.size + 1) (by exact Nat.ne_of_gt (Nat.lt_succ_of_lt lb))
      refine zip_begins2 b1 b2 g1 g2 fun g iz ins outs e1 e2 size kp => ?_
      refine Calls.spliced_nil ?_
      have I2 : Inv X pins σ H1 { t with heap := g } := I1.kept (t' := t.toks) kp
      have l1 := v1.length
      have l2 := v2.length
      have S := sep_new t.heap.objs.size a b la lb
      refine lz_call (s := { t with heap := g }) (I1.ok.hd hc) S W1 W2 (by omega) iz ins outs (s1 _ e1 (b1.keeps _ _ g1 kp)) (s2 _ e2 (b2.keeps _ _ g2 kp)) ?_ ?_ fun g' tk acc c ts kp' hL hl P hacc => ?_
      · intro c hc'
        simp only [List.mem_cons, List.not_mem_nil, or_false] at hc'
        show c < g.objs.size
        rw [size]
        rcases hc' with rfl | rfl
        · exact Nat.lt_add_of_pos_right (by decide)
        · exact Nat.lt_add_right _ la
      · intro c hc'
        simp only [List.mem_cons, List.not_mem_nil, or_false] at hc'
        show c < g.objs.size
        rw [size]
        rcases hc' with rfl | rfl
        · exact Nat.add_lt_add_left (by decide) _
        · exact Nat.lt_add_right _ lb
      · have keep : ∀ c o, t.heap.get? c = some o → g'.get? c = some o := fun c o e => kp' c o (Nat.ne_of_lt (Nat.lt_add_right _ (Heap.lt_size e))) (Nat.ne_of_lt (Nat.lt_add_right _ (Heap.lt_size e))) (Nat.ne_of_lt (Heap.lt_size e)) (Nat.ne_of_lt (Nat.lt_add_right _ (Heap.lt_size e))) (kp c o e)
        obtain ⟨H', lz, J⟩ := lz_laid (g := g') (tk := tk) (p := g.objs.size) I1 (by omega) v1 v2 keep (by rw [size]; exact Nat.le_add_right _ _) hL hl P hacc
        exact ⟨.ref _, H', J, rfl, q H' _ ts lz⟩
end Dw
set_option maxHeartbeats 2000000
/-! Dx, part N: list(zip(a, b)) by its data. -/
namespace Dw
open PySem PySem.Spec PyProof.Rows L2 RZ RT
def rLZ (K : PySem.W.Frag) : List V → Hp → VK → Prop := fun vs H Q => ∃ (a b : Addr) (xs ys : List V), vs = [.ref a, .ref b] ∧ (SqL K H a xs ∨ SqT K H a xs) ∧ (SqL K H b ys ∨ SqT K H b ys) ∧ ∀ H' p ts, LZ H H' xs ys p ts → Q (.ref p) H'
def sqD : D → Option (List D)
  | .lst xs => some xs
  | .tup xs => some xs
  | _ => none
def opLZ : List D → Option D
  | [x, y] => (sqD x).bind fun xs => (sqD y).map fun ys => .lst (zipT xs ys)
  | _ => none
theorem sq_rep {K : PySem.W.Frag} {H : Hp} {d : D} {ds : List D} {v : V} {fp : List Addr} (r : Rep K H d v fp) (h : sqD d = some ds) : ∃ a vs gp, v = .ref a ∧ (SqL K H a vs ∨ SqT K H a vs) ∧ Reps K H ds vs gp ∧ (∀ c ∈ gp, c ∈ fp) ∧ (Sz H → vs.length ≤ sizeLine) := by
  cases r with
  | lst h1 r1 =>
    cases h
    exact ⟨_, _, _, rfl, .inl (SqL.of h1), r1, (fun c hc => List.mem_cons_of_mem _ hc), fun sz => of_decide_eq_true (sz _ _ h1)⟩
  | tup h1 r1 =>
    cases h
    exact ⟨_, _, _, rfl, .inr (SqT.of h1), r1, (fun c hc => hc), fun sz => of_decide_eq_true (sz _ _ h1)⟩
  | _ => cases h
theorem reps_zip {K : PySem.W.Frag} {H : Hp} : ∀ {xs ys : List D} {vx vy : List V} {f g : List Addr} {ts : List Addr}, Reps K H xs vx f → Reps K H ys vy g → ts.length = min vx.length vy.length →
    (∀ (j : Nat) (t : Addr), ts[j]? = some t → ∃ x y, vx[j]? = some x ∧ vy[j]? = some y ∧ H t = some (.tup [x, y])) → ∃ gp, Reps K H (zipT xs ys) (ts.map V.ref) gp ∧ ∀ c ∈ gp, c ∈ f ∨ c ∈ g
  | [], ys, _, vy, _, g, ts, .nil, r2, hl, _ => by
    have : ts = [] := List.length_eq_zero_iff.mp (by rw [hl]; simp)
    subst this
    exact ⟨[], .nil, fun _ h => nomatch h⟩
  | x :: xs, [], _, _, f, _, ts, r1, .nil, hl, _ => by
    have : ts = [] := List.length_eq_zero_iff.mp (by rw [hl]; simp)
    subst this
    exact ⟨[], .nil, fun _ h => nomatch h⟩
  | x :: xs, y :: ys, _, _, _, _, [], .cons (f := f1) (g := f2) a1 r1, .cons (f := g1) (g := g2) a2 r2, hl, at_ => by
    simp at hl
  | x :: xs, y :: ys, _, _, _, _, t :: ts, .cons (f := f1) (g := f2) a1 r1, .cons (f := g1) (g := g2) a2 r2, hl, at_ => by
    obtain ⟨gp, r3, sub⟩ := reps_zip (ts := ts) r1 r2 (by simp only [List.length_cons] at hl; omega) fun j t' h => at_ (j + 1) t' h
    obtain ⟨u, v, e1, e2, e3⟩ := at_ 0 t rfl
    cases e1
    cases e2
    refine ⟨f1 ++ (g1 ++ []) ++ gp, .cons (.tup e3 (.cons a1 (.cons a2 .nil))) r3, fun c hc => ?_⟩
    simp only [List.mem_append, List.not_mem_nil, or_false] at hc ⊢
    rcases hc with (hc | hc) | hc
    · exact .inl (.inl hc)
    · exact .inr (.inl hc)
    · exact (sub c hc).elim (fun h => .inl (.inr h)) fun h => .inr (.inr h)
theorem lz_ext {H H' : Hp} {xs ys : List V} {p : Addr} {ts : List Addr} (z : LZ H H' xs ys p ts) (hx : xs.length ≤ sizeLine) : Ext H H' := by
  obtain ⟨old, newP, new, pn, nd, hl, eP, off, at_⟩ := z
  refine ⟨fun c o e => old c o e, fun sz c o e => ?_⟩
  by_cases h : c = p
  · subst h
    rw [eP] at e
    cases e
    exact szO_lst (by rw [List.length_map, hl]; omega)
  · by_cases h2 : c ∈ ts
    · obtain ⟨j, hj⟩ := List.mem_iff_getElem?.mp h2
      obtain ⟨x, y, _, _, e3⟩ := at_ j c hj
      rw [e3] at e
      cases e
      exact szO_tup (show 2 ≤ _ by rw [sizeLine_eq]; decide)
    · rw [off c h h2] at e
      exact sz c o e
theorem vr_lz {K : PySem.W.Frag} : VR K (rLZ K) opLZ true := fun H vs ds fp d Q sz r0 h q => by
  unfold opLZ at h
  split at h
  · obtain ⟨xs, h1, h2⟩ := Option.bind_eq_some_iff.mp h
    obtain ⟨ys, h3, rfl⟩ := Option.map_eq_some_iff.mp h2
    cases r0 with
    | cons ra t =>
      cases t with
      | cons rb t =>
        cases t
        obtain ⟨a, v1, g1, rfl, s1, r1, c1, z1⟩ := sq_rep ra h1
        obtain ⟨b, v2, g2, rfl, s2, r2, c2, z2⟩ := sq_rep rb h3
        refine ⟨a, b, v1, v2, rfl, s1, s2, fun H' p ts z => ?_⟩
        have E := lz_ext z (z1 sz)
        obtain ⟨old, newP, new, pn, nd, hl, eP, off, at_⟩ := z
        obtain ⟨gp, r3, sub⟩ := reps_zip (r1.same E.same) (r2.same E.same) hl at_
        refine q (.ref p) H' (p :: gp) E (.lst eP r3) (fun c hc => ?_) fun _ _ c _ e => ?_
        · rcases List.mem_cons.mp hc with rfl | hc
          · exact .inr newP
          · left
            rcases sub c hc with h | h
            · exact List.mem_append_left _ (c1 c h)
            · exact List.mem_append_right _ (List.mem_append_left _ (c2 c h))
        · have e' := V.ref.inj e
          rw [← e']; exact newP
  · cases h
theorem sq_dep {d : D} {ds : List D} {k : Nat} (h : sqD d = some ds) (hd : mdep d ≤ k) : ∀ x ∈ ds, mdep x ≤ k - 1 := by
  unfold sqD at h
  split at h
  · cases h; exact mdep_lst_le hd
  · cases h; exact mdep_tup_le hd
  · cases h
theorem k_lz {ds : List D} {z : D} (h0 : ∀ d ∈ ds, mdep d ≤ 1) (h : opLZ ds = some z) : mdep z ≤ 1 := by
  unfold opLZ at h
  split at h
  · obtain ⟨xs, h1, h2⟩ := Option.bind_eq_some_iff.mp h
    obtain ⟨ys, h3, rfl⟩ := Option.map_eq_some_iff.mp h2
    refine le_mdep_lst (k := 0) fun d hd => ?_
    obtain ⟨i, hi⟩ := List.getElem?_of_mem hd
    obtain ⟨x, y, e1, e2, rfl⟩ := zipT_get hi
    have q1 := sq_dep h1 (h0 _ (by simp)) x (List.mem_of_getElem? e1)
    have q2 := sq_dep h3 (h0 _ (by simp)) y (List.mem_of_getElem? e2)
    exact le_mdep_tup (k := 0) fun w hw => by
      simp at hw
      rcases hw with rfl | rfl
      · exact q1
      · exact q2
  · cases h
section
variable {X : Cx} {G : List Mode} {a b : Expr} {ma mb : RM} {M : List Nat} {fr : Ev → Option (List D × Ev)} {ga gb : Ev → Option D} {p p2 pos pos2 : Pos}
theorem de_lz (hc : X.calm = true) (hgL : Gl X "list") (hmL : X.mg "list" = none) (hg : Gl X "zip") (hm : X.mg "zip" = none) (R : DA X G [a, b] [ma, mb] M fr) (hk : kMax [ma, mb] ≤ 1) (hv : bootBuiltins "list" = some (.type "list") := by rfl)
    (hs : starEach [a, b] X.env = (false, eval a X.env) :: starEach [b] X.env := by rfl) (hpl : (backTo pos2 (starEach [b] X.env)).any (·.1) = false := by rfl)
    (hs2 : starEach [.Call (.Name "zip" p2) [a, b] [] pos2] X.env = (false, eval (.Call (.Name "zip" p2) [a, b] [] pos2) X.env) :: starEach [] X.env := by rfl) :
    DE X G (.Call (.Name "list" p) [.Call (.Name "zip" p2) [a, b] [] pos2] [] pos) (.ow 1) M (mN opLZ fr) := by
  obtain ⟨tr, pr, rr⟩ := R.run
  exact ⟨R.hM, _, pe_lz hc hgL hmL hg hm pr hv hs hpl hs2, call_run R.hM vr_lz rr (.ow 1) (fun ds z h0 h => k_lz (fun d hd => Nat.le_trans (h0 d hd) hk) h) (.inr (.inr ⟨rfl, rfl⟩))⟩
theorem pd_lz (hc : X.calm = true) (hgL : Gl X "list") (hmL : X.mg "list" = none) (hg : Gl X "zip") (hm : X.mg "zip" = none) (A : PD X G a ma ga) (B : PD X G b mb gb) (hk : kMax [ma, mb] ≤ 1) (hv : bootBuiltins "list" = some (.type "list") := by rfl)
    (hs : starEach [a, b] X.env = (false, eval a X.env) :: starEach [b] X.env := by rfl) (he2 : starEach [b] X.env = (false, eval b X.env) :: starEach [] X.env := by rfl) (hpl : (backTo pos2 (starEach [b] X.env)).any (·.1) = false := by rfl)
    (hs2 : starEach [.Call (.Name "zip" p2) [a, b] [] pos2] X.env = (false, eval (.Call (.Name "zip" p2) [a, b] [] pos2) X.env) :: starEach [] X.env := by rfl) :
    PD X G (.Call (.Name "list" p) [.Call (.Name "zip" p2) [a, b] [] pos2] [] pos) (.ow 1) (eN opLZ (eCons ga (eCons gb eNil))) :=
  (de_lz hc hgL hmL hg hm (pl_cons A (pl_cons B pl_nil he2) hs) hk hv hs hpl hs2).congr mN_lift
end
end Dw
set_option maxHeartbeats 2000000
/-! Dx, part O: {1: 2, ..} of numbers. -/
namespace Dw
open PySem PySem.Spec PyProof.Rows L2 RZ RT
def cPs (ps : List (Int × Int)) : List (TE × TE) := ps.map fun p => (tC (.int p.1), tC (.int p.2))
def kvI (ps : List (Int × Int)) : List (Key × V) := ps.map fun p => (.inl p.1, .int p.2)
theorem pairs_c {σ : L2.St} {H : Hp} : ∀ (ps : List (Int × Int)) (Q : List (V × V) → Hp → Prop), Q (ps.map fun p => (.int p.1, .int p.2)) H → tPairs (cPs ps) σ H Q
  | [], Q, h => h
  | p :: ps, Q, h => pairs_c ps (fun qs H3 => Q ((.int p.1, .int p.2) :: qs) H3) h
theorem reps_I {K : PySem.W.Frag} {H : Hp} : ∀ ps : List (Int × Int), Reps K H (ps.map fun p => D.int p.2) ((kvI ps).map (·.2)) []
  | [] => .nil
  | p :: ps => by
    have := Reps.cons (K := K) (H := H) (.int p.2) (reps_I ps)
    exact this
section
variable {X : Cx} {G : List Mode} {pos : Pos} {keys : List (Option Expr)} {values : List Expr}
theorem pd_dispI {ps : List (Int × Int)} (h : PPs X pos keys values (cPs ps)) (h0 : keys ≠ [] := by simp) (hall : keys.all (·.isSome) = true := by rfl) (hl : keys.length = values.length := by rfl) (h15 : keys.length ≤ 15 := by decide) (hp : ps.length ≤ 15 := by decide) (hm : mergeK [] (kvI ps) = kvI ps := by rfl) :
    PD X G (.Dict keys values pos) (.ow 1) (eC (.dct false (ps.map fun p => .int p.1) (ps.map fun p => .int p.2))) := by
  refine PD.mk ⟨_, pe_disp h hall hl h0 h15, fun sl σ H fs d Q S hg hq => ?_⟩
  cases hg
  intro p hn
  refine pairs_c ps _ ⟨upd_same, kvI ps, ?_, by unfold kvI; rw [List.length_map]; exact hp, ?_⟩
  · unfold kvI
    rw [List.map_map]
    refine List.map_congr_left fun q _ => rfl
  · rw [hm]
    have e : upd (upd H p (.dK [])) p (.dK (kvI ps)) = upd H p (.dK (kvI ps)) := by
      funext c
      by_cases z : c = p
      · subst z; rw [upd_same, upd_same]
      · rw [upd_ne z, upd_ne z, upd_ne z]
    rw [e]
    have rp : Rep X.K (upd H p (.dK (kvI ps))) (.dct false (ps.map fun p => .int p.1) (ps.map fun p => .int p.2)) (.ref p) (p :: []) := .dK upd_same (by unfold kvI; rw [List.map_map]; exact List.map_congr_left fun q _ => rfl) (reps_I ps)
    refine hq (.ref p) _ [p] ⟨Ext.upd hn (by show decide ((kvI ps).length ≤ sizeLine) = true; unfold kvI; rw [List.length_map, sizeLine_eq]; exact decide_eq_true (by omega)), rp, le_mdep_dct (fun x hx => by
      obtain ⟨q, _, rfl⟩ := List.mem_map.mp hx
      exact Nat.le_refl _), by simp, fun a ha => ?_, fun a ha j hj haj => ?_⟩
    · simp at ha; subst ha; exact .inl hn
    · simp at ha; subst ha; exact S.alive (own_ne_no hj) haj hn
end
end Dw
set_option maxHeartbeats 1000000
/-! Dw, part Md: full graphs, drawn graphs. -/
namespace Dw
open PySem PySem.Spec PyProof.Rows L2 PySem.W
def dW (w : List Int) : D := .tup (w.map .int)
def dL (w : List Int) : D := .lst (w.map .int)
def dG (many : Int) (es : List (List Int)) : D := .tup [.int many, .tup (es.map dW)]
theorem eqs_dW : Eqs dW 1 := eqs_tup eqs_int
theorem eqs_dL1 : Eqs dL 1 := eqs_lst eqs_int
theorem eqs_lW : Eqs (fun es : List (List Int) => D.lst (es.map dW)) 2 := eqs_lst eqs_dW
theorem eqs_tW : Eqs (fun es : List (List Int) => D.tup (es.map dW)) 2 := eqs_tup eqs_dW
theorem rngD0 (n : Nat) : rngD 0 n = (List.range n).map fun i : Nat => D.int i := by
  unfold rngD
  refine List.map_congr_left fun i _ => ?_
  rw [Int.zero_add]
theorem opR1_nat {n : Nat} (h : n ≤ 16777216) : opR1 [.int n] = some ((List.range n).map fun i : Nat => D.int i) := by
  show (if okR _ then some (rngD 0 _) else none) = _
  rw [if_pos (by unfold okR; simp; omega), rngD0]
  rfl
theorem opR2_nat {a n : Nat} (h : n ≤ 16777216) (ha : a ≤ 16777216) : opR2 [.int a, .int n] = some ((List.range (n - a)).map fun i : Nat => D.int ((a + i : Nat) : Int)) := by
  show (if (okR _ && okR _ && _) then some (rngD _ _) else none) = _
  rw [if_pos (by unfold okR; simp; omega), show ((n : Int) - a).toNat = n - a by omega]
  rfl
theorem getD_get {w : List Int} {i : Nat} (h : i < w.length) : (w.map D.int)[i]? = some (.int (w.getD i 0)) := by
  rw [List.getElem?_map, List.getElem?_eq_getElem h, List.getD_eq_getElem?_getD, List.getElem?_eq_getElem h]; rfl
/-- a range that is walked: what is done, and the next -/
theorem range_next {n x : Nat} {done rest : List Nat} (h : List.range n = done ++ x :: rest) : done = List.range x ∧ x < n ∧ done.length = x := by
  have hl : done.length < n := by have := congrArg List.length h; simp at this; omega
  have hx : x = done.length := by
    have h1 : (List.range n)[done.length]? = some x := by rw [h]; simp
    rw [List.getElem?_range hl] at h1
    exact (Option.some.inj h1).symm
  refine ⟨?_, by omega, hx.symm⟩
  have h2 : (List.range n).take done.length = done := by rw [h]; simp
  rw [← h2, List.take_range, hx, Nat.min_eq_left (by omega)]
/-- the pairs of a full graph -/
def fullA (n a : Nat) : List (List Int) := (List.range (n - (a + 1))).map fun j => [(a : Int), ((a + 1 + j : Nat) : Int)]
def full (n : Nat) : List (List Int) := (List.range n).flatMap (fullA n)
theorem full_len (n : Nat) : ∀ l : List Nat, (l.flatMap (fullA n)).length ≤ l.length * n
  | [] => by simp
  | a :: l => by
    have := full_len n l
    rw [List.flatMap_cons, List.length_append, List.length_cons, Nat.succ_mul]
    unfold fullA
    rw [List.length_map, List.length_range]
    unfold fullA at this
    omega
theorem full_pw (n : Nat) : (full n).Pairwise fun a b => ltR a b = true := by
  unfold full
  rw [List.pairwise_flatMap]
  refine ⟨fun a _ => ?_, ?_⟩
  · unfold fullA
    rw [List.pairwise_map]
    refine List.Pairwise.imp ?_ List.pairwise_lt_range
    intro i j h
    simp [ltR]; omega
  · refine List.Pairwise.imp ?_ List.pairwise_lt_range
    intro a b h x hx y hy
    unfold fullA at hx hy
    obtain ⟨i, _, rfl⟩ := List.mem_map.mp hx
    obtain ⟨j, _, rfl⟩ := List.mem_map.mp hy
    unfold ltR
    rw [if_neg (by omega)]
    simp; omega
theorem full_mem {n : Nat} {e : List Int} (h : e ∈ full n) : ∃ a b : Nat, e = [(a : Int), (b : Int)] ∧ a < b ∧ b < n := by
  unfold full at h
  obtain ⟨a, ha, h⟩ := List.mem_flatMap.mp h
  unfold fullA at h
  obtain ⟨j, hj, rfl⟩ := List.mem_map.mp h
  have := List.mem_range.mp ha
  have := List.mem_range.mp hj
  exact ⟨a, a + 1 + j, rfl, by omega, by omega⟩
def fullB : Ev → Option Fl := (sSeq (sAsg (lift (eTup eNil)) (gSet 1)) (sSeq (sFor (liftL (eRg opR1 (eCons (eVar 0) eNil))) (gSet 2) (sAsg (lift (eBin opAdd (eVar 1) (eN opTuple (eCons (pdF (mLc [3] (liftL (eRg opR2 (eCons (eBin opAdd (eVar 2) (eC (.int 1))) (eCons (eVar 0) eNil)))) (gSet 3) (bdF tYesF (lift (eTup (eCons (eVar 2) (eCons (eVar 3) eNil))))))) eNil)))) (gSet 1))) (sRet (lift (eVar 1)))))
theorem full_ok {k n : Nat} (hn : n ≤ 1000) : runD [.fz k] 4 fullB [.int n] = some (.tup ((full n).map dW), [.int n]) := by
  refine run_fz ?_
  show OkS fullB [some (.int n), none, none, none] _
  refine okS_seq (okS_asg (okE_lift rfl ⟨by simp, _, rfl, okS_seq (okS_for (fun i : Nat => D.int i) (List.range n) (fun done s => ∃ x y, s = [some (.int n), some (.tup ((done.flatMap (fullA n)).map dW)), x, y]) ?_ ?_ ?_)⟩))
  · exact okL_lift (eRg_of rfl (opR1_nat (by omega))) ⟨rfl, none, none, rfl⟩
  · rintro done a rest s e ⟨x, y, rfl⟩
    obtain ⟨hd, ha, hdl⟩ := range_next e
    have hb := full_len n (done ++ [a])
    have hb := Nat.le_trans hb (Nat.mul_le_mul (show (done ++ [a]).length ≤ 1000 by simp; omega) hn)
    refine ⟨_, rfl, okS_asg (okE_lift (eBin_of rfl (eN_of (eCons_of (pd_lc1 (fun j : Nat => D.int ((a + 1 + j : Nat) : Int)) (fun j : Nat => dW [(a : Int), ((a + 1 + j : Nat) : Int)]) (xs := List.range (n - (a + 1))) (by simp) ?_ (fun j hj => ?_) ?_) rfl) rfl) (z := .tup (((done ++ [a]).flatMap (fullA n)).map dW)) ?_) ⟨by simp, _, _, rfl⟩)⟩
    · exact eRg_of (xs := [.int ((a + 1 : Nat) : Int), .int n]) rfl (opR2_nat (by omega) (by omega))
    · exact eTup_of rfl (by simp [sizeLine_eq])
    · rw [List.length_range, sizeLine_eq]; omega
    · show (if _ then _ else _) = _
      rw [List.flatMap_append, List.map_append, List.flatMap_singleton] at *
      rw [if_pos]
      · unfold fullA; rw [List.map_map]; rfl
      · unfold fullA at hb ⊢
        simp only [List.length_map, List.length_append, List.length_range, sizeLine_eq] at hb ⊢
        omega
  · rintro s ⟨x, y, rfl⟩
    exact ⟨_, rfl, okS_ret (okE_lift rfl (rtEx rfl))⟩
/-- a graph: its edges are some of the full one's -/
def graphB (pick : List D → Option (D × List D)) (fullF : List D → Option (D × List D)) : Ev → Option Fl := (sSeq (sAsg (mCall pick [some 0, none] (mCons (lift (eLst (eCons (eC (.int 1)) (eCons (eC (.int 2)) (eCons (eC (.int 2)) (eCons (eC (.int 3)) (eCons (eC (.int 5)) eNil))))))) mNil)) (gSet 2)) (sRet (mTup (mCons (lift (eVar 1)) (mCons (mN opTuple (mCons (mLc [3] (liftL (eSq (eCall fullF (eCons (eVar 1) eNil)))) (gSet 3) (bdF (tT (bin2 opEq (mCall drawF [some 0, none] (mCons (lift (eVar 2)) mNil)) (lift (eC (.int 0))))) (lift (eVar 3)))) mNil)) mNil)))))
theorem graph_ok {a b c k l n : Nat} {d : D} (hi : IsSt d) (hn : n ≤ 1000) : ∃ es d', runD [.io a, .fz b] 4 (graphB (runD [.io c, .fz k] 2 pickB) (runD [.fz l] 4 fullB)) [d, .int n] = some (dG n es, [d', .int n]) ∧ IsSt d' ∧ es.Sublist (full n) := by
  have := run_ok (ps := [.io a, .fz b]) (n := 4) (F0 := graphB (runD [.io c, .fz k] 2 pickB) (runD [.fz l] 4 fullB)) (ds := [d, .int n]) (P := fun z q => ∃ es d', z = dG n es ∧ q = [d', .int n] ∧ IsSt d' ∧ es.Sublist (full n)) (by
    show OkS (graphB _ _) [some d, some (.int n), none, none] _
    refine okS_seq (okS_asg (okE_pick (okL_cons (okE_lift (eLst_of rfl (by simp [sizeLine_eq])) (okL_nil ⟨_, _, d, rfl, .inl rfl, rfl, hi, by simp, by simp, fun m x d1 hx hi1 => ⟨by simp, _, rfl, ?_⟩⟩)))))
    have ht : ∃ t : Int, x = .int t ∧ 0 < t ∧ t < 1073741824 := by
      have hm := List.mem_of_getElem? hx
      simp at hm
      rcases hm with rfl | rfl | rfl | rfl <;> exact ⟨_, rfl, by decide, by decide⟩
    obtain ⟨t, rfl, t0, t1⟩ := ht
    refine okS_ret (okE_tup (okL_cons (okE_lift rfl (okL_cons (okE_N (okL_cons (okE_lc (okL_lift (eSq_of (eCall_of rfl (full_ok hn)) rfl) ?_))))))))
    have hl := full_len n (List.range n)
    rw [List.length_range] at hl
    have hl2 : n * n ≤ 1000 * 1000 := Nat.mul_le_mul hn hn
    obtain ⟨es, s', h1, ⟨d2, h2, hi2⟩, h3⟩ := lp_sub (f := dW) (h := dW) (vs := [3]) (g := gSet 3) (fb := bdF (tT (bin2 opEq (mCall drawF [some 0, none] (mCons (lift (eVar 2)) mNil)) (lift (eC (.int 0))))) (lift (eVar 3))) (I := fun s => ∃ d2, s = [some d2, some (.int n), some (.int t), none] ∧ IsSt d2) (xs := full n) (s := [some d1, some (.int n), some (.int t), none]) (fun x _ s ⟨d2, hs, hi2⟩ => by
      subst hs
      refine ⟨_, rfl, okL_bd (okB_T (okE_bin (okE_draw rfl hi2 rfl t0 t1 fun r d3 hr hi3 => okE_lift rfl ⟨_, rfl, _, rfl, ?_⟩)))⟩
      split
      · exact okE_lift rfl ⟨⟨d3, rfl, hi3⟩, .inr rfl⟩
      · exact ⟨⟨d3, rfl, hi3⟩, .inl rfl⟩) ⟨d1, rfl, hi1⟩
    have hle := h3.length_le
    unfold full at hle
    refine ⟨_, s', h1, by rw [List.length_map, sizeLine_eq]; omega, okL_nil ⟨_, rfl, okL_nil ⟨by simp [sizeLine_eq], es, d2, rfl, ?_, hi2, h3⟩⟩⟩
    subst h2
    rfl)
  obtain ⟨z, q, e, es, d', rfl, rfl, hi', hs⟩ := this
  exact ⟨es, d', e, hi', hs⟩
end Dw
set_option maxHeartbeats 1000000
/-! Dw, part Me: alike answers; dicts by rows of ints. -/
namespace Dw
open PySem PySem.Spec PyProof.Rows L2 PySem.W
/-- data that answers are made of, less than n deep -/
inductive WfE : Nat → D → Prop
  | non {n : Nat} : WfE (n + 1) .non
  | bl {n : Nat} (b : Bool) : WfE (n + 1) (.bl b)
  | int {n : Nat} (i : Int) : WfE (n + 1) (.int i)
  | str {n : Nat} (x : Str) : WfE (n + 1) (.str x)
  | tup {n : Nat} {ds : List D} : ds.length ≤ 16777216 → (∀ d ∈ ds, WfE n d) → WfE (n + 1) (.tup ds)
  | lst {n : Nat} {ds : List D} : ds.length ≤ 16777216 → (∀ d ∈ ds, WfE n d) → WfE (n + 1) (.lst ds)
theorem filter_no {α : Type} : ∀ l : List α, (l.filter fun _ => false) = []
  | [] => rfl
  | _ :: l => filter_no l
/-- a thing against itself -/
theorem eqF_refl {u v : Nat} : ∀ {n : Nat} {d : D}, WfE n d → eqF u v n [d, d] = some (.bl true, [d, d])
  | n + 1, _, .non => rfl
  | n + 1, _, .bl b => by cases b <;> rfl
  | n + 1, _, .int i => (eqF_int i i).trans (by simp)
  | n + 1, _, .str x => by
    have e : opEq (.str x) (.str x) = some (.bl true) := by
      rw [opEq_gen rfl rfl]
      show some (D.bl (x == x)) = _
      simp
    refine run_fz ?_
    show OkS (eqB _) [some (.str x), some (.str x), none] _
    refine okS_seq (okS_if (okB_lift (b := false) rfl ?_))
    refine okS_skip ⟨_, rfl, ?_⟩
    refine okS_guard (b := false) rfl (fun h => nomatch h) fun _ => ?_
    refine okS_guard (b := true) rfl (fun _ => ⟨.bl true, ?_, rtEx rfl⟩) fun h => nomatch h
    exact eAndV_of (k := true) rfl rfl (fun _ => eBin_of rfl rfl e) fun h => nomatch h
  | n + 1, _, .tup (ds := ds) hl h => by
    refine run_fz ?_
    show OkS (eqB _) [some (.tup ds), some (.tup ds), none] _
    refine okS_seqR (okS_if (okB_lift (b := true) rfl ?_))
    refine okS_guard (b := false) rfl (fun h => nomatch h) fun _ => ?_
    refine okS_guard (b := false) ?_ (fun h => nomatch h) fun _ => ?_
    · refine eT_of (eBin_of (eN_of rfl rfl) (eN_of rfl rfl) rfl) ?_
      show some (!((ds.length : Int) == ds.length)) = _
      simp
    · refine okS_ret (okE_lift (eBin_of (x := .lst []) (z := .bl true) ?_ rfl rfl) (.inr ⟨_, _, rfl, rtEx rfl⟩))
      have := pd_lcf (sl := [some (.tup ds), some (.tup ds), none]) (fun i : Nat => D.int i) (fun i : Nat => D.int i) (fun _ => false) (i := 2) (xs := List.range ds.length) (it := eRg opR1 (eCons (eN opLen (eCons (eVar 1) eNil)) eNil)) (c := eNot (eT (eCall (eqF u v n) (eCons (eBin opIx (eVar 0) (eVar 2)) (eCons (eBin opIx (eVar 1) (eVar 2)) eNil))))) (e := eVar 2) (by simp) (eRg_of rfl (opR1_nat hl)) (fun i hi => ?_) (fun _ _ h => nomatch h) (by rw [List.length_range, sizeLine_eq]; exact hl)
      · rw [filter_no] at this; exact this
      · have hi := List.mem_range.mp hi
        have hx : ∀ j, j = 0 ∨ j = 1 → eBin opIx (eVar j) (eVar 2) [some (.tup ds), some (.tup ds), some (.int (i : Nat))] = some ds[i] := fun j hj => by
          rcases hj with rfl | rfl <;> exact eBin_of rfl rfl (Dw.atI_nat (List.getElem?_eq_getElem hi))
        exact eNot_of (b := true) (eT_of (eCall_of (eCons_of (hx 0 (.inl rfl)) (eCons_of (hx 1 (.inr rfl)) rfl)) (eqF_refl (h _ (List.getElem_mem hi)))) rfl)
  | n + 1, _, .lst (ds := ds) hl h => by
    refine run_fz ?_
    show OkS (eqB _) [some (.lst ds), some (.lst ds), none] _
    refine okS_seqR (okS_if (okB_lift (b := true) rfl ?_))
    refine okS_guard (b := false) rfl (fun h => nomatch h) fun _ => ?_
    refine okS_guard (b := false) ?_ (fun h => nomatch h) fun _ => ?_
    · refine eT_of (eBin_of (eN_of rfl rfl) (eN_of rfl rfl) rfl) ?_
      show some (!((ds.length : Int) == ds.length)) = _
      simp
    · refine okS_ret (okE_lift (eBin_of (x := .lst []) (z := .bl true) ?_ rfl rfl) (.inr ⟨_, _, rfl, rtEx rfl⟩))
      have := pd_lcf (sl := [some (.lst ds), some (.lst ds), none]) (fun i : Nat => D.int i) (fun i : Nat => D.int i) (fun _ => false) (i := 2) (xs := List.range ds.length) (it := eRg opR1 (eCons (eN opLen (eCons (eVar 1) eNil)) eNil)) (c := eNot (eT (eCall (eqF u v n) (eCons (eBin opIx (eVar 0) (eVar 2)) (eCons (eBin opIx (eVar 1) (eVar 2)) eNil))))) (e := eVar 2) (by simp) (eRg_of rfl (opR1_nat hl)) (fun i hi => ?_) (fun _ _ h => nomatch h) (by rw [List.length_range, sizeLine_eq]; exact hl)
      · rw [filter_no] at this; exact this
      · have hi := List.mem_range.mp hi
        have hx : ∀ j, j = 0 ∨ j = 1 → eBin opIx (eVar j) (eVar 2) [some (.lst ds), some (.lst ds), some (.int (i : Nat))] = some ds[i] := fun j hj => by
          rcases hj with rfl | rfl <;> exact eBin_of rfl rfl (Dw.atI_nat (List.getElem?_eq_getElem hi))
        exact eNot_of (b := true) (eT_of (eCall_of (eCons_of (hx 0 (.inl rfl)) (eCons_of (hx 1 (.inr rfl)) rfl)) (eqF_refl (h _ (List.getElem_mem hi)))) rfl)
/-! ### dicts by rows -/
theorem kfit_row (w : List Int) : kfit true (dW w) = true := by
  show (keysK (w.map .int)).isSome = true
  have : ∀ w : List Int, keysK (w.map D.int) = some (w.map Sum.inl) := fun w => by
    induction w with
    | nil => rfl
    | cons x w ih => show ((keyK (D.int x)).bind fun k => (keysK (w.map D.int)).map fun ks => k :: ks) = _; rw [ih]; rfl
  rw [this]; rfl
theorem keq_row (a b : List Int) : keqT (dW a) (dW b) = decide (a = b) := by
  have : ∀ a b : List Int, keqs (a.map D.int) (b.map D.int) = decide (a = b) := fun a => by
    induction a with
    | nil => intro b; cases b <;> simp [keqs]
    | cons x a ih =>
      intro b
      cases b with
      | nil => simp [keqs]
      | cons y b =>
        show ((x == y) && keqs (a.map D.int) (b.map D.int)) = _
        rw [ih, Bool.eq_iff_iff]; simp
  exact this a b
theorem dfind_row : ∀ {ks : List (List Int)} {vs : List D} {k : List Int}, vs.length = ks.length → (dfind (ks.map dW) vs (dW k)).isSome = decide (k ∈ ks)
  | [], _, k, _ => by simp [dfind]
  | x :: ks, [], k, h => by simp at h
  | x :: ks, v :: vs, k, h => by
    show (if keqT (dW x) (dW k) = true then some v else dfind (ks.map dW) vs (dW k)).isSome = _
    rw [keq_row]
    by_cases e : x = k
    · subst e; simp
    · rw [if_neg (by simpa using e), dfind_row (by simpa using h)]
      simp [Ne.symm e]
theorem cnt_row : ∀ {ks : List (List Int)} {k : List Int}, k ∉ ks → cntK (ks.map dW) (dW k) = 0
  | [], k, _ => rfl
  | x :: ks, k, h => by
    have e : x ≠ k := fun e => h (by rw [e]; exact List.mem_cons_self)
    have ih := cnt_row (ks := ks) (k := k) fun z => h (List.mem_cons_of_mem _ z)
    unfold cntK at ih ⊢
    first
      | (rw [List.map_cons, List.countP_cons, ih, keq_row]; simp [e])
      | (rw [List.map_cons, List.filter_cons, keq_row]; simp [e]; simpa using ih)
      | (show (if keqT (dW x) (dW k) then _ else _) = 0; rw [keq_row, if_neg (by simpa using e)]; exact ih)
theorem in_row {ks : List (List Int)} {vs : List D} {k : List Int} (h : vs.length = ks.length) : opIn (dW k) (.dct true (ks.map dW) vs) = some (.bl (decide (k ∈ ks))) := by
  show Option.map D.bl (if kfit true (dW k) = true then some (dfind (ks.map dW) vs (dW k)).isSome else none) = _
  rw [kfit_row, dfind_row h]; rfl
theorem put_row {ks : List (List Int)} {vs : List D} {k : List Int} {x : D} (h : k ∉ ks) (hl : ks.length < 16777216) : opPut (.dct true (ks.map dW) vs) (dW k) x = some (.dct true ((ks ++ [k]).map dW) (vs ++ [x])) := by
  show (if kfit true (dW k) = true then putD true (ks.map dW) vs (dW k) x else none) = _
  rw [kfit_row, if_pos rfl]
  unfold putD
  rw [if_pos (by rw [List.length_map, sizeLine_eq]; exact hl), cnt_row h]
  rw [List.map_append]; rfl

/-! ### counting -/
theorem sub_len {α : Type} [DecidableEq α] : ∀ {P Q : List α}, P.Nodup → (∀ x ∈ P, x ∈ Q) → P.length ≤ Q.length
  | [], Q, _, _ => Nat.zero_le _
  | x :: P, Q, nd, h => by
    rw [List.nodup_cons] at nd
    have hx := h x List.mem_cons_self
    have p := List.perm_cons_erase hx
    have ih := sub_len (P := P) (Q := Q.erase x) nd.2 fun y hy => by
      have hq := p.mem_iff.mp (h y (List.mem_cons_of_mem _ hy))
      rcases List.mem_cons.mp hq with e | hq
      · subst e; exact absurd hy nd.1
      · exact hq
    have := p.length_eq
    simp at this ⊢
    omega
theorem sub_perm {α : Type} [DecidableEq α] {P Q : List α} (n1 : P.Nodup) (n2 : Q.Nodup) (h : ∀ x ∈ P, x ∈ Q) (hl : Q.length ≤ P.length) : P.Perm Q := by
  rw [List.perm_ext_iff_of_nodup n1 n2]
  refine fun x => ⟨h x, fun hx => ?_⟩
  by_cases hp : x ∈ P
  · exact hp
  · have := sub_len (P := x :: P) (Q := Q) (List.nodup_cons.mpr ⟨hp, n1⟩) fun y hy => by
      rcases List.mem_cons.mp hy with e | hy
      · subst e; exact hx
      · exact h y hy
    simp at this; omega
/-- what sorted gives, against a row in order -/
theorem sorted_is {P Q : List (List Int)} (hq : Q.Pairwise fun a b => ltR a b = true) : decide (P.mergeSort leR' = Q) = (decide (∀ p ∈ P, p ∈ Q) && decide P.Nodup && decide (P.length = Q.length)) := by
  have nq : Q.Nodup := hq.imp fun h e => by subst e; rw [ltR_irr] at h; cases h
  rw [Bool.eq_iff_iff]
  simp only [Bool.and_eq_true, decide_eq_true_eq]
  constructor
  · intro e
    have p : P.Perm Q := by rw [← e]; exact (List.mergeSort_perm P leR').symm
    exact ⟨⟨fun x hx => p.mem_iff.mp hx, p.nodup_iff.mpr nq⟩, p.length_eq⟩
  · rintro ⟨⟨h1, h2⟩, h3⟩
    exact mergeSort_eq leR'_tr leR'_tt leR'_anti (sub_perm h2 nq h1 (by omega)) (hq.imp fun h => leR'_iff.mpr (.inl h))
theorem len_dct (t : Bool) (ks vs : List D) : opLen [.dct t ks vs] = some (.int ks.length) := rfl
theorem mul_nat {a b : Nat} (h : a < 18446744073709551616) : opMul (.int a) (.int b) = some (.int ((a * b : Nat) : Int)) := by
  show (if (smallI a || smallI b) = true then some (D.int ((a : Int) * b)) else none) = _
  rw [if_pos (by unfold smallI; simp; omega)]
  simp
/-- a row of rows, bent at k by v -/
theorem bent4 {sl : Ev} {i j l : Nat} {ws : List (List Int)} {k : Nat} {v : List Int} (h1 : eVar i sl = some (.lst (ws.map dW))) (h2 : eVar j sl = some (.int k)) (h3 : eVar l sl = some (dW v)) (hl : ws.length ≤ 1000000) :
    ∃ L : List (List (List Int)), eLst (eCons (eBin opAdd (eBin opAdd (eSl (eVar i) oNone (oSome (eVar j))) (eLst (eCons (eVar l) eNil))) (eSl (eVar i) (oSome (eBin opAdd (eVar j) (eC (.int 1)))) oNone)) (eCons (eBin opAdd (eSl (eVar i) oNone (oSome (eVar j))) (eSl (eVar i) (oSome (eBin opAdd (eVar j) (eC (.int 1)))) oNone)) (eCons (eBin opAdd (eVar i) (eLst (eCons (eVar l) eNil))) (eCons (eUn opBack (eVar i)) eNil)))) sl = some (.lst (L.map fun vs => .lst (vs.map dW))) ∧ L ≠ [] ∧ L.length ≤ 4 ∧ ∀ vs ∈ L, vs.length ≤ 2 * ws.length + 1 ∧ ∀ y ∈ vs, y ∈ ws ∨ y = v := by
  have c1 := cutT_len ws none (some (k : Int))
  have c2 := cutT_len ws (some ((k + 1 : Nat) : Int)) none
  have k1 : eBin opAdd (eVar j) (eC (.int 1)) sl = some (.int ((k + 1 : Nat) : Int)) := eBin_of h2 rfl rfl
  have o1 : oSome (eVar j) sl = some (some (k : Int)) := by unfold oSome; rw [h2]; rfl
  have o2 : oSome (eBin opAdd (eVar j) (eC (.int 1))) sl = some (some ((k + 1 : Nat) : Int)) := by unfold oSome; rw [k1]; rfl
  have s1 := eSl_of (gl := oNone) (lo := none) h1 rfl o1 (sl_lst (f := dW) ws none (some (k : Int)))
  have s2 := eSl_of (gh := oNone) (hi := none) h1 o2 rfl (sl_lst (f := dW) ws (some ((k + 1 : Nat) : Int)) none)
  have lv : eLst (eCons (eVar l) eNil) sl = some (.lst ([v].map dW)) := eLst_of (eCons_of h3 rfl) (szL (by simp))
  refine ⟨[cutT ws none (some (k : Int)) ++ [v] ++ cutT ws (some ((k + 1 : Nat) : Int)) none, cutT ws none (some (k : Int)) ++ cutT ws (some ((k + 1 : Nat) : Int)) none, ws ++ [v], ws.reverse], ?_, by simp, by simp, ?_⟩
  · exact eLst_of (eCons_of (eBin_of (eBin_of s1 lv (add_lst (by simp only [List.length_append, List.length_singleton]; omega))) s2 (add_lst (by simp only [List.length_append, List.length_singleton]; omega))) (eCons_of (eBin_of s1 s2 (add_lst (by omega))) (eCons_of (eBin_of h1 lv (add_lst (by simp only [List.length_append, List.length_singleton]; omega))) (eCons_of (eUn_of h1 (back_lst ws)) rfl)))) (szL (by simp))
  · intro vs hvs
    simp only [List.mem_cons, List.not_mem_nil, or_false] at hvs
    rcases hvs with rfl | rfl | rfl | rfl
    · refine ⟨by simp only [List.length_append, List.length_singleton, List.length_reverse]; omega, fun y hy => ?_⟩
      simp only [List.mem_append, List.mem_singleton] at hy
      rcases hy with (hy | hy) | hy
      · exact .inl (cutT_mem hy)
      · exact .inr hy
      · exact .inl (cutT_mem hy)
    · refine ⟨by simp only [List.length_append, List.length_singleton, List.length_reverse]; omega, fun y hy => ?_⟩
      simp only [List.mem_append] at hy
      rcases hy with hy | hy
      · exact .inl (cutT_mem hy)
      · exact .inl (cutT_mem hy)
    · refine ⟨by simp only [List.length_append, List.length_singleton, List.length_reverse]; omega, fun y hy => ?_⟩
      simp only [List.mem_append, List.mem_singleton] at hy
      exact hy
    · exact ⟨by simp only [List.length_append, List.length_singleton, List.length_reverse]; omega, fun y hy => .inl (List.mem_reverse.mp hy)⟩
end Dw
set_option maxHeartbeats 1000000
/-! Dw, part Mf: while, enumerate, rings of pairs. -/
namespace Dw
open PySem PySem.Spec PyProof.Rows L2 PySem.W
theorem okS_wh {c : Ev → Option Bool} {F : Ev → Option Fl} {R : Fl → Prop} (I : Nat → Ev → Prop) (T : Nat)
    (st : ∀ j s, I j s → ∃ b, c s = some b ∧ (b = true → j < T ∧ OkS F s fun fl => (∃ s', fl = .nx s' ∧ I (j + 1) s') ∨ ∃ d s', fl = .rt d s' ∧ R (.rt d s')) ∧ (b = false → R (.nx s))) :
    ∀ {fuel j : Nat} {s : Ev}, I j s → T - j < fuel → OkS (whF (liftB c) F fuel) s R
  | 0, _, _, _, h => absurd h (Nat.not_lt_zero _)
  | fuel + 1, j, s, hi, h => by
    obtain ⟨b, h1, h2, h3⟩ := st j s hi
    have e : whF (liftB c) F (fuel + 1) s = (if b then (F s).bind fun fl => match fl with
      | .nx s => whF (liftB c) F fuel s
      | .ct s => whF (liftB c) F fuel s
      | .bk s => some (.nx s)
      | .rt d s => some (.rt d s) else some (.nx s)) := by
      show ((liftB c s).bind _) = _
      unfold liftB
      rw [h1]; rfl
    cases b with
    | false => exact ⟨_, by rw [e]; rfl, h3 rfl⟩
    | true =>
      obtain ⟨hj, fl, e2, q⟩ := h2 rfl
      rcases q with ⟨s', rfl, hi'⟩ | ⟨d, s', rfl, hr⟩
      · obtain ⟨fl2, e3, q2⟩ := okS_wh I T st (fuel := fuel) hi' (by omega)
        exact ⟨fl2, by rw [e, if_pos rfl, e2]; exact e3, q2⟩
      · exact ⟨_, by rw [e, if_pos rfl, e2]; rfl, hr⟩
theorem enum_map {α : Type} {f : α → D} : ∀ {n : Nat} {xs : List α}, enumT n (xs.map f) = (xs.zipIdx n).map fun p => .tup [.int p.2, f p.1]
  | _, [] => rfl
  | n, x :: xs => by
    show D.tup [.int n, f x] :: enumT (n + 1) (xs.map f) = _
    rw [enum_map, List.zipIdx_cons]; rfl
theorem flat_one {α β : Type} (h : α → β) : ∀ l : List α, (l.flatMap fun x => [h x]) = l.map h
  | [] => rfl
  | x :: l => by rw [List.flatMap_cons, flat_one h l]; rfl
/-- one value for each item, whatever the names -/
theorem pd_lcm {sl : Ev} {α : Type} (f : α → D) (h : α → D) {vs : List Nat} {it : Ev → Option (List D)} {g : D → Ev → Option Ev} {e : Ev → Option D} {xs : List α} (hi : it sl = some (xs.map f)) (st : ∀ x ∈ xs, ∃ s1, g (f x) (wipeD sl vs) = some s1 ∧ wipeD s1 vs = wipeD sl vs ∧ e s1 = some (h x))
    (hl : xs.length ≤ sizeLine) : pdF (mLc vs (liftL it) g (bdF tYesF (lift e))) sl = some (.lst (xs.map h)) := by
  rw [← flat_one h xs]
  refine pd_lc f (fun x => [h x]) hi (fun x hx => ?_) (by rw [flat_one, List.length_map]; exact hl)
  obtain ⟨s1, h1, h2, h3⟩ := st x hx
  exact ⟨s1, h1, okL_bd (okB_yes (by rw [if_pos rfl]; exact okE_lift h3 ⟨h2, rfl⟩))⟩
theorem blsD_map {α : Type} (b : α → Bool) : ∀ xs : List α, blsD (xs.map fun x => .bl (b x)) = some (xs.map b)
  | [] => rfl
  | x :: xs => by
    show (blsD (xs.map _)).map _ = _
    rw [blsD_map b xs]; rfl
theorem all_bl {α : Type} (b : α → Bool) (xs : List α) : opAll [.lst (xs.map fun x => .bl (b x))] = some (.bl (xs.all b)) := by
  show (blsD _).map _ = _
  rw [blsD_map, Option.map_some, List.all_map]; rfl
theorem any_bl {α : Type} (b : α → Bool) (xs : List α) : opAny [.lst (xs.map fun x => .bl (b x))] = some (.bl (xs.any b)) := by
  show (blsD _).map _ = _
  rw [blsD_map, Option.map_some, List.any_map]; rfl
theorem set_row (r : List Int) (h : r.length ≤ 4000) : opLenSet (dW r) = some (.int (unI r).length) := by
  show ((intsD (r.map .int)).bind fun ns => if ns.length ≤ 4000 then some (D.int (unI ns).length) else none) = _
  rw [intsD_map, Option.bind_some, if_pos h]
/-- nothing twice -/
theorem unI_len_le (r : List Int) : (unI r).length ≤ r.length := by
  unfold unI
  generalize hn : r.length = n
  induction n using Nat.strongRecOn generalizing r with
  | ind n ih =>
    cases r with
    | nil => simp [List.eraseDups]
    | cons x r =>
      rw [List.eraseDups_cons, List.length_cons]
      have h1 := List.length_filter_le (fun b => !b == x) r
      have h2 := ih (r.filter fun b => !b == x).length (by simp at hn; omega) (r.filter fun b => !b == x) rfl
      simp at hn; omega
theorem unI_nodup : ∀ {r : List Int}, (unI r).length = r.length → r.Nodup
  | [], _ => List.nodup_nil
  | x :: r, h => by
    unfold unI at h
    rw [List.eraseDups_cons, List.length_cons, List.length_cons] at h
    have h1 := List.length_filter_le (fun b => !b == x) r
    have h2 := unI_len_le (r.filter fun b => !b == x)
    unfold unI at h2
    have h3 : (r.filter fun b => !b == x) = r := List.filter_eq_self.mpr (List.length_filter_eq_length_iff.mp (by omega))
    rw [h3] at h
    refine List.nodup_cons.mpr ⟨fun hx => ?_, unI_nodup (by unfold unI; omega)⟩
    rw [← h3] at hx
    simpa using (List.mem_filter.mp hx).2
end Dw
set_option maxHeartbeats 1000000
/-! Dw, part Mg: finite checks, rows put in order, sums. -/
namespace Dw
open PySem PySem.Spec PyProof.Rows L2 PySem.W
/-- nothing twice, by the bits of one number -/
def codeR (n : Nat) (p : List Int) : Nat := (p.getD 0 0).toNat * n + (p.getD 1 0).toNat
def chkC {α : Type} (c : α → Nat) : Nat → List α → Bool
  | _, [] => true
  | mask, p :: P => !(mask.testBit (c p)) && chkC c (mask ||| 2 ^ c p) P
theorem chkC_nodup {α : Type} {c : α → Nat} : ∀ {mask : Nat} {P : List α}, chkC c mask P = true → (∀ p ∈ P, mask.testBit (c p) = false) ∧ P.Nodup
  | _, [], _ => ⟨(fun _ h => nomatch h), List.nodup_nil⟩
  | mask, p :: P, h => by
    unfold chkC at h
    simp only [Bool.and_eq_true, Bool.not_eq_true'] at h
    obtain ⟨h1, h2⟩ := chkC_nodup h.2
    have h3 : ∀ q ∈ P, mask.testBit (c q) = false ∧ c p ≠ c q := fun q hq => by
      have := h1 q hq
      rw [Nat.testBit_or, Bool.or_eq_false_iff] at this
      refine ⟨this.1, fun e => ?_⟩
      rw [e, Nat.testBit_two_pow_self] at this
      exact nomatch this.2
    refine ⟨fun q hq => ?_, List.nodup_cons.mpr ⟨fun hp => (h3 p hp).2 rfl, h2⟩⟩
    rcases List.mem_cons.mp hq with rfl | hq
    · exact h.1
    · exact (h3 q hq).1
/-- each less than the next -/
def srtR : List (List Int) → Bool
  | [] => true
  | [_] => true
  | a :: b :: l => ltR a b && srtR (b :: l)
theorem srtR_pw : ∀ {l : List (List Int)}, srtR l = true → l.Pairwise fun a b => ltR a b = true
  | [], _ => .nil
  | [_], _ => List.pairwise_singleton ..
  | a :: b :: l, h => by
    unfold srtR at h
    rw [Bool.and_eq_true] at h
    have ih := srtR_pw h.2
    refine List.pairwise_cons.mpr ⟨fun c hc => ?_, ih⟩
    rcases List.mem_cons.mp hc with rfl | hc
    · exact h.1
    · exact ltR_tr h.1 ((List.pairwise_cons.mp ih).1 c hc)
/-- a row put in its place -/
def insR (p : List Int) : List (List Int) → List (List Int)
  | [] => [p]
  | q :: l => if ltR p q then p :: q :: l else q :: insR p l
theorem insR_perm (p : List Int) : ∀ l, (insR p l).Perm (l ++ [p])
  | [] => .refl _
  | q :: l => by
    unfold insR
    split
    · exact (List.perm_append_singleton p (q :: l)).symm
    · exact (insR_perm p l).cons q
theorem insR_pw {p : List Int} : ∀ {l : List (List Int)}, (l.Pairwise fun a b => leR' a b = true) → (insR p l).Pairwise fun a b => leR' a b = true
  | [], _ => List.pairwise_singleton ..
  | q :: l, h => by
    unfold insR
    have hq := List.pairwise_cons.mp h
    split
    · rename_i hp
      have hp' : leR' p q = true := leR'_iff.mpr (.inl hp)
      refine List.pairwise_cons.mpr ⟨fun c hc => ?_, h⟩
      rcases List.mem_cons.mp hc with rfl | hc
      · exact hp'
      · exact leR'_tr _ _ _ hp' (hq.1 c hc)
    · rename_i hp
      have hp' : leR' q p = true := by unfold leR'; rw [Bool.eq_false_iff.mpr hp]; rfl
      refine List.pairwise_cons.mpr ⟨fun c hc => ?_, insR_pw hq.2⟩
      have := (insR_perm p l).mem_iff.mp hc
      rcases List.mem_append.mp this with hc | hc
      · exact hq.1 c hc
      · simp at hc; subst hc; exact hp'
theorem sort_id {l : List (List Int)} (h : l.Pairwise fun a b => ltR a b = true) : l.mergeSort leR' = l :=
  mergeSort_eq leR'_tr leR'_tt leR'_anti (.refl _) (h.imp fun h => leR'_iff.mpr (.inl h))
theorem sort_ins {l : List (List Int)} {p : List Int} (h : l.Pairwise fun a b => ltR a b = true) : (l ++ [p]).mergeSort leR' = insR p l :=
  mergeSort_eq leR'_tr leR'_tt leR'_anti (insR_perm p l).symm (insR_pw (h.imp fun h => leR'_iff.mpr (.inl h)))
/-- no thing in two of the rows -/
theorem one_row {w : Int} : ∀ {r : List (List Int)} {e e' : List Int}, r.flatten.Nodup → e ∈ r → e' ∈ r → w ∈ e → w ∈ e' → e = e'
  | [], _, _, _, h, _, _, _ => nomatch h
  | x :: r, e, e', nd, h, h', hw, hw' => by
    rw [List.flatten_cons] at nd
    obtain ⟨n1, n2, n3⟩ := List.nodup_append.mp nd
    rcases List.mem_cons.mp h with e1 | h1
    · rcases List.mem_cons.mp h' with e2 | h2
      · rw [e1, e2]
      · exact absurd rfl (n3 w (e1 ▸ hw) w (List.mem_flatten.mpr ⟨_, h2, hw'⟩))
    · rcases List.mem_cons.mp h' with e2 | h2
      · exact absurd rfl (n3 w (e2 ▸ hw') w (List.mem_flatten.mpr ⟨_, h1, hw⟩))
      · exact one_row n2 h1 h2 hw hw'
theorem unI_of_nodup : ∀ {r : List Int}, r.Nodup → unI r = r
  | [], _ => rfl
  | x :: r, h => by
    rw [List.nodup_cons] at h
    unfold unI
    rw [List.eraseDups_cons]
    have : (r.filter fun b => !b == x) = r := List.filter_eq_self.mpr fun b hb => by
      have : b ≠ x := fun e => h.1 (e ▸ hb)
      simpa using this
    rw [this]
    congr 1
    exact unI_of_nodup h.2
theorem ni_row {ks : List (List Int)} {vs : List D} {k : List Int} (h : vs.length = ks.length) : opNi (dW k) (.dct true (ks.map dW) vs) = some (.bl (!decide (k ∈ ks))) := by
  show Option.map (fun b => D.bl (!b)) (if kfit true (dW k) = true then some (dfind (ks.map dW) vs (dW k)).isSome else none) = _
  rw [kfit_row, dfind_row h]; rfl
end Dw
set_option maxHeartbeats 1000000
/-! Dw, part Mh: drawn orders, drawn squares. -/
namespace Dw
open PySem PySem.Spec PyProof.Rows L2 PySem.W
/-- a comprehension with a condition that goes along -/
theorem lp_inv {α : Type} {f : α → D} {vs : List Nat} {g : D → Ev → Option Ev} {fb : Ev → Option (List D × Ev)} {xs : List α} (I : List α → List D → Ev → Prop)
    (st : ∀ done x rest out s, xs = done ++ x :: rest → I done out s → ∃ s1, g (f x) s = some s1 ∧ OkL fb s1 fun q s2 => I (done ++ [x]) (out ++ q) (wipeD s2 vs)) :
    ∀ {rest done : List α} {out : List D} {s : Ev}, xs = done ++ rest → I done out s → ∃ out2 s2, lpF vs g fb (rest.map f) s = some (out2, s2) ∧ I xs (out ++ out2) s2
  | [], done, out, s, e, h => ⟨[], s, rfl, by rw [List.append_nil] at e ⊢; rw [e]; exact h⟩
  | x :: rest, done, out, s, e, h => by
    obtain ⟨s1, h1, q, s2, h2, h3⟩ := st done x rest out s e h
    obtain ⟨out2, s3, h4, h5⟩ := lp_inv I st (rest := rest) (done := done ++ [x]) (by rw [e, List.append_assoc]; rfl) h3
    refine ⟨q ++ out2, s3, ?_, by rw [← List.append_assoc]; exact h5⟩
    show (g (f x) s).bind _ = _
    rw [h1]
    show (fb s1).bind _ = _
    rw [h2]
    show (lpF vs g fb (rest.map f) (wipeD s2 vs)).map _ = _
    rw [h4]; rfl
theorem okS_sto1 {sl : Ev} {R : Fl → Prop} {j : Nat} {gk gi : Ev → Option D} {f : Ev → Option (D × Ev)} (h : OkE f sl fun x s => ∃ d k1 d1 k z d2, eVar j s = some d ∧ gk s = some k1 ∧ getP [k1] d = some d1 ∧ gi s = some k ∧ opPut d1 k x = some z ∧ modP [k1] d (fun e => opPut e k x) = some d2 ∧ R (.nx (s.set j (some d2)))) : OkS (sSto j (kIx kNil gk) gi f) sl R := by
  obtain ⟨x, s, h1, d, k1, d1, k, z, d2, h2, h3, h4, h5, h6, h7, q⟩ := h
  refine ⟨_, ?_, q⟩
  unfold sSto
  rw [h1, Option.bind_some]
  show ((kIx kNil gk) s).bind _ = _
  have e : (kIx kNil gk) s = some [k1] := by unfold kIx kNil; simp [h3]
  rw [e, Option.bind_some]
  show (eVar j s).bind _ = _
  rw [h2, Option.bind_some]
  show (getP [k1] d).bind _ = _
  rw [h4, Option.bind_some]
  show (gi s).bind _ = _
  rw [h5, Option.bind_some]
  show (modP [k1] d _).map _ = _
  rw [h7]; rfl
def orderB : Ev → Option Fl := (sSeq (sAsg (lift (pdF (mLc [3] (liftL (eRg opR1 (eCons (eVar 1) eNil))) (gSet 3) (bdF tYesF (lift (eVar 3)))))) (gSet 2)) (sRet (mN opTuple (mCons (mLc [4] (liftL (eRg opR1 (eCons (eVar 1) eNil))) (gSet 4) (bdF tYesF (mPop 2 kNil (mCons (mCall drawF [some 0, none] (mCons (lift (eN opLen (eCons (eVar 2) eNil))) mNil)) (liftL eNil)) opPopA))) mNil))))
theorem order_ok {d : D} {n : Nat} (hi : IsSt d) (hn : n ≤ 1000) : ∃ w d', runD [.io 2, .fz 0] 5 orderB [d, .int n] = some (dW w, [d', .int n]) ∧ IsSt d' ∧ w.length = n ∧ (∀ x ∈ w, 0 ≤ x ∧ x < n) := by
  have := run_ok (ps := [.io 2, .fz 0]) (n := 5) (F0 := orderB) (ds := [d, .int n]) (P := fun z q => ∃ w d', z = dW w ∧ q = [d', .int n] ∧ IsSt d' ∧ w.length = n ∧ (∀ x ∈ w, 0 ≤ x ∧ x < n)) (by
    show OkS orderB [some d, some (.int n), none, none, none] _
    refine okS_seq (okS_asg (okE_lift (d := .lst ((List.range n).map fun i : Nat => .int i)) (pd_lc1 (fun i : Nat => D.int i) (fun i : Nat => .int i) (xs := List.range n) (by simp) (eRg_of rfl (opR1_nat (by omega))) (fun i _ => rfl) (szL (by rw [List.length_range]; omega))) ⟨by simp, _, rfl, ?_⟩))
    refine okS_ret (okE_N (okL_cons (okE_lc (okL_lift (eRg_of rfl (opR1_nat (by omega))) ?_))))
    obtain ⟨out, s2, h1, w, l, d', rfl, rfl, hi', hl, hlw, hw, hle⟩ := lp_inv (f := fun i : Nat => D.int i) (vs := [4]) (g := gSet 4) (fb := bdF tYesF (mPop 2 kNil (mCons (mCall drawF [some 0, none] (mCons (lift (eN opLen (eCons (eVar 2) eNil))) mNil)) (liftL eNil)) opPopA)) (xs := List.range n)
      (fun done out s => ∃ (w l : List Int) (d' : D), out = w.map .int ∧ s = [some d', some (.int n), some (.lst (l.map .int)), none, none] ∧ IsSt d' ∧ l.length + done.length = n ∧ w.length = done.length ∧ (∀ x ∈ w, 0 ≤ x ∧ x < n) ∧ (∀ x ∈ l, 0 ≤ x ∧ x < n)) (fun done x rest out s e ⟨w, l, d', ho, hs, hi', hl, hlw, hw, hle⟩ => by
        subst ho hs
        have hd : done.length < n := by have := congrArg List.length e; simp at this; omega
        have hl0 : 0 < l.length := by omega
        refine ⟨_, rfl, okL_bd (okB_yes ?_)⟩
        rw [if_pos rfl]
        refine okE_pop0 (d := .lst (l.map .int)) rfl (okL_cons (okE_draw (m := (l.length : Int)) rfl hi' (eN_of (eCons_of rfl rfl) (len_lst l)) (by omega) (by omega) fun k d'' hk hi'' => okL_lift rfl ?_))
        have hk2 : k < l.length := by omega
        refine ⟨_, _, pop_nat (f := D.int) hk2, ⟨w ++ [l[k]], l.eraseIdx k, d'', by rw [List.map_append]; rfl, rfl, hi'', ?_, ?_, fun y hy => ?_, fun y hy => ?_⟩⟩
        · rw [List.length_eraseIdx, if_pos hk2, List.length_append, List.length_singleton]; omega
        · rw [List.length_append, List.length_append]; simp [hlw]
        · rcases List.mem_append.mp hy with hy | hy
          · exact hw y hy
          · simp at hy; subst hy; exact hle _ (List.getElem_mem hk2)
        · exact hle y (List.mem_of_mem_eraseIdx hy)) (rest := List.range n) (done := []) (out := []) (s := [some d, some (.int n), some (.lst ((List.range n).map fun i : Nat => .int i)), none, none]) rfl ⟨[], (List.range n).map fun i : Nat => (i : Int), d, rfl, by rw [List.map_map]; rfl, hi, by simp, rfl, (fun _ h => nomatch h), fun x hx => by
          obtain ⟨i, hi, rfl⟩ := List.mem_map.mp hx
          have := List.mem_range.mp hi
          omega⟩
    rw [List.length_range] at hlw
    refine ⟨_, _, h1, by show (w.map D.int).length ≤ _; rw [List.length_map]; exact szL (by omega), okL_nil ⟨_, rfl, w, d', rfl, rfl, hi', hlw, hw⟩⟩)
  obtain ⟨z, q, e, w, d', rfl, rfl, h⟩ := this
  exact ⟨w, d', e, h⟩
def squareB : Ev → Option Fl := (sSeq (sPar (mCons (mCall (runD [.io 2, .fz 0] 5 orderB) [some 0, none] (mCons (lift (eVar 1)) mNil)) (mCons (mCall (runD [.io 2, .fz 0] 5 orderB) [some 0, none] (mCons (lift (eVar 1)) mNil)) (mCons (mCall (runD [.io 2, .fz 0] 5 orderB) [some 0, none] (mCons (lift (eVar 1)) mNil)) mNil))) [2, 3, 4]) (sSeq (sAsg (mCall drawF [some 0, none] (mCons (lift (eC (.int 3))) mNil)) (gSet 5)) (sSeq (sAsg (mLc [9] (liftL (eRg opR1 (eCons (eVar 1) eNil))) (gSet 9) (bdF tYesF (lift (eBin opMul (eLst (eCons (eC (.int 0)) eNil)) (eVar 1))))) (gSet 6)) (sSeq (sFor (liftL (eRg opR1 (eCons (eVar 1) eNil))) (gSet 7) (sFor (liftL (eRg opR1 (eCons (eVar 1) eNil))) (gSet 8) (sSeq (sAsg (lift (eBin opMod (eN opInt (eCons (eBin opAdd (eVar 7) (eVar 8)) eNil)) (eVar 1))) (gSet 10)) (sSeq (sIf (liftB (eAnd (eT (eBin opEq (eVar 5) (eC (.int 1)))) (eT (eBin opEq (eBin opMod (eN opInt (eCons (eVar 1) eNil)) (eC (.int 2))) (eC (.int 0)))))) (sSeq (sAsg (lift (eBin opDiv (eVar 1) (eC (.int 2)))) (gSet 11)) (sAsg (lift (eBin opAdd (eBin opMod (eN opInt (eCons (eBin opAdd (eVar 7) (eVar 8)) eNil)) (eVar 11)) (eBin opMul (eVar 11) (eN opInt (eCons (eBin opNe (eBin opGe (eVar 7) (eVar 11)) (eBin opGe (eVar 8) (eVar 11))) eNil))))) (gSet 10))) sSkip) (sSto 6 (kIx kNil (eBin opIx (eVar 2) (eVar 7))) (eBin opIx (eVar 3) (eVar 8)) (lift (eBin opIx (eVar 4) (eVar 10)))))))) (sRet (lift (eN opTuple (eCons (pdF (mLc [9] (liftL (eSq (eVar 6))) (gSet 9) (bdF tYesF (lift (eN opTuple (eCons (eVar 9) eNil)))))) eNil))))))))
/-- n rows of n numbers below n -/
def Sqr (n : Nat) (M : List (List Int)) : Prop := M.length = n ∧ ∀ r ∈ M, r.length = n ∧ ∀ x ∈ r, 0 ≤ x ∧ x < n
theorem Sqr.set {n : Nat} {M : List (List Int)} (h : Sqr n M) {i j : Nat} {x : Int} (hi : i < n) (hx : 0 ≤ x ∧ x < n) : Sqr n (M.set i ((M.getD i []).set j x)) := by
  refine ⟨by rw [List.length_set]; exact h.1, fun r hr => ?_⟩
  rcases List.mem_or_eq_of_mem_set hr with hr | rfl
  · exact h.2 r hr
  · have hm : M.getD i [] ∈ M := by
      rw [List.getD_eq_getElem?_getD, List.getElem?_eq_getElem (by rw [h.1]; exact hi)]; exact List.getElem_mem _
    refine ⟨by rw [List.length_set]; exact (h.2 _ hm).1, fun y hy => ?_⟩
    rcases List.mem_or_eq_of_mem_set hy with hy | rfl
    · exact (h.2 _ hm).2 y hy
    · exact hx
theorem get_row {w : List Int} {n i : Nat} (hl : w.length = n) (hw : ∀ x ∈ w, 0 ≤ x ∧ x < n) (hi : i < n) : ∃ k : Nat, k < n ∧ opIx (dW w) (.int (i : Nat)) = some (.int (k : Nat)) := by
  have hi2 : i < w.length := by omega
  have h := hw _ (List.getElem_mem hi2)
  refine ⟨w[i].toNat, by omega, ?_⟩
  rw [show ((w[i].toNat : Nat) : Int) = w[i] by omega]
  exact ix_tup_nat (f := D.int) (List.getElem?_eq_getElem hi2)
theorem square_ok {d : D} {n : Nat} (hi : IsSt d) (h1 : 1 ≤ n) (hn : n ≤ 1000) : ∃ M d', runD [.io 2, .fz 0] 12 squareB [d, .int n] = some (.tup (M.map dW), [d', .int n]) ∧ IsSt d' ∧ Sqr n M := by
  have := run_ok (ps := [.io 2, .fz 0]) (n := 12) (F0 := squareB) (ds := [d, .int n]) (P := fun z q => ∃ M d', z = .tup (M.map dW) ∧ q = [d', .int n] ∧ IsSt d' ∧ Sqr n M) (by
    show OkS squareB [some d, some (.int n), none, none, none, none, none, none, none, none, none, none] _
    obtain ⟨w1, d1, e1, i1, l1, b1⟩ := order_ok (n := n) hi hn
    obtain ⟨w2, d2, e2, i2, l2, b2⟩ := order_ok (n := n) i1 hn
    obtain ⟨w3, d3, e3, i3, l3, b3⟩ := order_ok (n := n) i2 hn
    refine okS_seq (okS_par (okL_cons (okE_call (okL_cons (okE_lift rfl (okL_nil ⟨[d, .int n], rfl, _, _, e1, okL_cons (okE_call (okL_cons (okE_lift rfl (okL_nil ⟨[d1, .int n], rfl, _, _, e2, okL_cons (okE_call (okL_cons (okE_lift rfl (okL_nil ⟨[d2, .int n], rfl, _, _, e3, okL_nil ⟨_, rfl, _, rfl, ?_⟩⟩))))⟩))))⟩))))))
    show OkS _ [some d3, some (.int n), some (dW w1), some (dW w2), some (dW w3), none, none, none, none, none, none, none] _
    refine okS_seq (okS_asg (okE_draw rfl i3 rfl (by decide) (by decide) fun kd d4 hk i4 => ⟨by simp, _, rfl, ?_⟩))
    have rep : ∀ m : Nat, repD m [D.int 0] = (List.replicate m (0 : Int)).map .int := fun m => by
      induction m with
      | zero => rfl
      | succ m ih => show [D.int 0] ++ repD m [D.int 0] = _; rw [ih, List.replicate_succ]; rfl
    refine okS_seq (okS_asg (okE_of (lc1 (fun i : Nat => D.int i) (fun _ => dL (List.replicate n 0)) (i := 9) (xs := List.range n) (by simp) (eRg_of rfl (opR1_nat (by omega))) (fun i _ => eBin_of (eLst_of rfl (szL (by simp))) rfl ?_) (szL (by rw [List.length_range]; omega))) ⟨by simp, _, rfl, ?_⟩))
    · show (if (smallI ((n : Int) + n) && decide (1 * (n : Int).toNat ≤ sizeLine)) = true then some (D.lst (repD (n : Int).toNat [.int 0])) else none) = _
      rw [if_pos (by rw [Bool.and_eq_true, decide_eq_true_eq, sizeLine_eq]; refine ⟨?_, by omega⟩; unfold smallI; simp; omega), show (n : Int).toNat = n by omega, rep]; rfl
    show OkS _ [some d4, some (.int n), some (dW w1), some (dW w2), some (dW w3), some (.int kd), some (.lst ((List.range n).map fun _ => dL (List.replicate n 0))), none, none, none, none, none] _
    refine okS_seq (okS_for (fun i : Nat => D.int i) (List.range n) (fun _ s => ∃ M a7 a8 a10 a11, s = [some d4, some (.int n), some (dW w1), some (dW w2), some (dW w3), some (.int kd), some (.lst (M.map dL)), a7, a8, none, a10, a11] ∧ Sqr n M) ?_ ?_ ?_)
    · refine okL_lift (eRg_of rfl (opR1_nat (by omega))) ⟨rfl, (List.range n).map fun _ => List.replicate n 0, none, none, none, none, by rw [List.map_map]; rfl, by simp, fun r hr => ?_⟩
      obtain ⟨_, _, rfl⟩ := List.mem_map.mp hr
      refine ⟨by simp, fun x hx => ?_⟩
      rw [(List.mem_replicate.mp hx).2]; omega
    · rintro done a rest s e ⟨M, a7, a8, a10, a11, rfl, hM⟩
      obtain ⟨_, ha, _⟩ := range_next e
      refine ⟨_, rfl, ?_⟩
      refine okS_for (fun i : Nat => D.int i) (List.range n) (fun _ s => ∃ M a8 a10 a11, s = [some d4, some (.int n), some (dW w1), some (dW w2), some (dW w3), some (.int kd), some (.lst (M.map dL)), some (.int a), a8, none, a10, a11] ∧ Sqr n M) ?_ ?_ ?_
      · exact okL_lift (eRg_of rfl (opR1_nat (by omega))) ⟨rfl, M, a8, a10, a11, rfl, hM⟩
      · rintro dn b rs s e2 ⟨M, a8, a10, a11, rfl, hM⟩
        obtain ⟨_, hb, _⟩ := range_next e2
        refine ⟨_, rfl, ?_⟩
        refine okS_seq (okS_asg (okE_lift (d := .int (((a + b) % n : Nat) : Int)) (eBin_of (eN_of (eCons_of (eBin_of rfl rfl rfl) rfl) rfl) rfl ?_) ⟨by simp, _, rfl, ?_⟩))
        · show (if decide ((0 : Int) < n) = true then some (D.int (((a : Int) + b) % n)) else none) = _
          rw [if_pos (by simp; omega)]; rfl
        -- the letter's place
        refine okS_seq (OkS.imp (R := fun fl => ∃ (c : Nat) (a11 : Option D), fl = .nx [some d4, some (.int n), some (dW w1), some (dW w2), some (dW w3), some (.int kd), some (.lst (M.map dL)), some (.int a), some (.int b), none, some (.int (c : Nat)), a11] ∧ c < n) ?_ fun fl h => ?_)
        · refine okS_if (okB_lift (b := decide ((kd : Int) = 1) && decide (n % 2 = 0)) (eAnd_of (eT_of (x := .bl (decide ((kd : Int) = 1))) (eBin_of rfl rfl ?_) rfl) fun _ => eT_of (x := .bl (decide (n % 2 = 0))) (eBin_of (eBin_of (eN_of rfl rfl) rfl rfl) rfl ?_) rfl) ?_)
          · show some (D.bl ((kd : Int) == 1)) = _
            congr 2
          · show some (D.bl ((n : Int) % 2 == 0)) = _
            congr 2
            rw [Bool.eq_iff_iff]; simp; omega
          · split
            · rename_i hc
              rw [Bool.and_eq_true, decide_eq_true_eq, decide_eq_true_eq] at hc
              have hh : 0 < n / 2 := by omega
              refine okS_seq (okS_asg (okE_lift (d := .int (n / 2 : Nat)) rfl ⟨by simp, _, rfl, ?_⟩))
              have bt : ∀ t : Bool, eN opInt (eCons (eC (.bl t)) eNil) [] = some (.int ((if t then 1 else 0 : Nat) : Int)) := fun t => by cases t <;> rfl
              refine okS_asg (okE_lift (d := .int (((a + b) % (n / 2) + n / 2 * (if (decide (n / 2 ≤ a) != decide (n / 2 ≤ b)) = true then 1 else 0) : Nat) : Int)) (eBin_of (x := .int (((a + b) % (n / 2) : Nat) : Int)) (y := .int ((n / 2 * (if (decide (n / 2 ≤ a) != decide (n / 2 ≤ b)) = true then 1 else 0) : Nat) : Int)) (eBin_of (eN_of (eCons_of (eBin_of rfl rfl rfl) rfl) rfl) rfl ?_) (eBin_of (y := .int ((if (decide (n / 2 ≤ a) != decide (n / 2 ≤ b)) = true then 1 else 0 : Nat) : Int)) rfl (eN_of (as := [.bl (decide (n / 2 ≤ a) != decide (n / 2 ≤ b))]) (eCons_of (eBin_of (x := .bl (decide (n / 2 ≤ a))) (y := .bl (decide (n / 2 ≤ b))) (eBin_of rfl rfl ?_) (eBin_of rfl rfl ?_) ?_) rfl) ?_) (mul_nat (by omega))) rfl) ⟨by simp, _, _, rfl, ?_⟩)
              · show (if decide ((0 : Int) < ((n / 2 : Nat) : Int)) = true then some (D.int (((a : Int) + b) % ((n / 2 : Nat) : Int))) else none) = _
                rw [if_pos (by simp; omega)]; rfl
              · show some (D.bl (decide (((n / 2 : Nat) : Int) ≤ a))) = _
                congr 2
                rw [Bool.eq_iff_iff]; simp only [decide_eq_true_eq]; omega
              · show some (D.bl (decide (((n / 2 : Nat) : Int) ≤ b))) = _
                congr 2
                rw [Bool.eq_iff_iff]; simp only [decide_eq_true_eq]; omega
              · cases decide (n / 2 ≤ a) <;> cases decide (n / 2 ≤ b) <;> rfl
              · cases (decide (n / 2 ≤ a) != decide (n / 2 ≤ b)) <;> rfl
              · have h3 : (a + b) % (n / 2) < n / 2 := Nat.mod_lt _ hh
                split <;> omega
            · exact okS_skip ⟨(a + b) % n, a11, rfl, Nat.mod_lt _ (by omega)⟩
        obtain ⟨c, a11', rfl, hc⟩ := h
        refine ⟨_, rfl, ?_⟩
        obtain ⟨x, hx, ex⟩ := get_row l3 b3 hc
        obtain ⟨r, hr, er⟩ := get_row l1 b1 ha
        obtain ⟨cc, hcc, ecc⟩ := get_row l2 b2 hb
        have hrM : r < M.length := by rw [hM.1]; exact hr
        have hrow := hM.2 _ (List.getElem_mem hrM)
        have eg : M.getD r [] = M[r] := by rw [List.getD_eq_getElem?_getD, List.getElem?_eq_getElem hrM]; rfl
        have ix1 : ixN (M.map dL).length (r : Int) = some r := ixN_nat (by rw [List.length_map]; exact hrM)
        have ix2 : ixN (M[r].map D.int).length (cc : Int) = some cc := ixN_nat (by rw [List.length_map, hrow.1]; exact hcc)
        have put : opPut (dL M[r]) (.int (cc : Int)) (.int (x : Int)) = some (dL (M[r].set cc x)) := by
          show ((ixN (M[r].map D.int).length (cc : Int)).map fun j => D.lst ((M[r].map D.int).set j (.int (x : Int)))) = _
          rw [ix2, Option.map_some]
          show _ = some (D.lst ((M[r].set cc (x : Int)).map D.int))
          rw [List.map_set]
        refine okS_sto1 (okE_lift (eBin_of rfl rfl ex) ⟨_, .int (r : Int), dL M[r], .int (cc : Int), dL (M[r].set cc x), .lst ((M.set r (M[r].set cc x)).map dL), rfl, eBin_of rfl rfl er, ?_, eBin_of rfl rfl ecc, put, ?_, M.set r (M[r].set cc x), some (.int b), some (.int c), a11', rfl, ?_⟩)
        · show (opIxM (.lst (M.map dL)) (.int (r : Int))).bind (getP []) = _
          have : opIxM (.lst (M.map dL)) (.int (r : Int)) = some (dL M[r]) := Dw.atI_nat (by rw [List.getElem?_map, List.getElem?_eq_getElem hrM]; rfl)
          rw [this]; rfl
        · show (ixN (M.map dL).length (r : Int)).bind (fun j => (putAt (M.map dL) j fun e => modP [] e fun e => opPut e (.int (cc : Int)) (.int (x : Int))).map D.lst) = _
          rw [ix1, Option.bind_some]
          unfold putAt
          rw [List.getElem?_map, List.getElem?_eq_getElem hrM]
          show (((opPut (dL M[r]) (.int (cc : Int)) (.int (x : Int))).map fun y => (M.map dL).set r y).map D.lst) = _
          rw [put, Option.map_some, Option.map_some, List.map_set]
        · rw [← eg]
          exact hM.set hr (by omega)
      · rintro s ⟨M, a8, a10, a11, rfl, hM⟩
        exact ⟨M, _, _, _, _, rfl, hM⟩
    · rintro s ⟨M, a7, a8, a10, a11, rfl, hM⟩
      refine ⟨_, rfl, okS_ret (okE_lift (d := .tup (M.map dW)) (eN_of (eCons_of (pd_lc1 dL dW (xs := M) (by simp) (eSq_of rfl rfl) (fun r hr => eN_of rfl rfl) (szL (by rw [hM.1]; omega))) rfl) rfl) ⟨M, d4, rfl, rfl, i4, hM⟩)⟩)
  obtain ⟨z, q, e, M, d', rfl, rfl, h⟩ := this
  exact ⟨M, d', e, h⟩
end Dw
namespace K22
open PySem PySem.Spec PyProof.Rows L2 Dw
def topS (i : Nat) : Stmt := PySem.Challenge.pw_designweave_k22_whole_directed_terraces.main.body.getD i (.Pass ⟨0, 0, 0, 0⟩)
structure GB (mg : Str → Option Value) : Prop where
  z_abs : mg "abs" = none
  z_int : mg "int" = none
  z_isinstance : mg "isinstance" = none
  z_len : mg "len" = none
  z_list : mg "list" = none
  z_range : mg "range" = none
  z_set : mg "set" = none
  z_sorted : mg "sorted" = none
  z_tuple : mg "tuple" = none
  z_zip : mg "zip" = none
abbrev s__law_state : Stmt := topS 7
theorem sc__law_state : FnScope ["script", "seed", "cell"] ["script"] (defScope s__law_state) := ⟨rfl, rfl, rfl, by decide +kernel, rfl, by decide +kernel, by decide +kernel⟩
def B__law_state : Ev → Option Fl := (sSeq (sAsg (lift (eC (.int 7))) (gSet 1)) (sSeq (sFor (liftL (eSq (eVar 0))) (gSet 2) (sAsg (lift (eBin opMod (eN opInt (eCons (eBin opAdd (eBin opMul (eVar 1) (eC (.int 31))) (eVar 2)) eNil)) (eC (.int 1000003)))) (gSet 1))) (sRet (lift (eLst (eCons (pdF (mLc [2] (liftL (eSq (eVar 0))) (gSet 2) (bdF tYesF (lift (eN (opI1 absI) (eCons (eVar 2) eNil)))))) (eCons (eBin opAdd (eVar 1) (eC (.int 1))) eNil)))))))
def F__law_state : List D → Option (D × List D) := runD [.fz 0] 3 B__law_state
def S__law_state : Dw.Spec := ⟨[.fz 0], (.ow 2), F__law_state⟩
theorem ok__law_state {P : Program} {w : World} {K : PySem.W.Frag} {mg : Str → Option Value} {base : Heap} {k : Nat} (gb : GB mg) (D : Dfn K mg "_law_state" s__law_state ["script"])  : Cl P w K mg base (k + 1) "_law_state" S__law_state := by
  refine cl_def S__law_state D sc__law_state rfl (Gn := pR [.fz 0]) (fun f cdv A outer s H E hr => ?_) (by rfl) (fun _ _ h => h)
  have hu := hr.units
  exact (dss_cons (x_set 1 sc__law_state.nd pd_int.dv) (dss_cons (ds_for (Gl := [.vw 0 [], .vw 0 [], .no]) PassesOwn.never (by rfl) (id_seq (x_var 0)) (by rfl) (by rfl) (x_tg 2 sc__law_state.nd) (DSs.weak (G2 := [.vw 0 [], .vw 0 [], .no]) (dss_one (x_set 1 sc__law_state.nd (pd_mod (pd_intC (by rfl) gb.z_int (pd_add0 (pd_mul0 (x_var 1) pd_int) (x_var 2))) pd_int).dv)))) (dss_one (ds_ret (pd_lst (pl_cons (de_lc (by rfl) sc__law_state.nd (own := [("cell", 2)]) (Gl := [.vw 0 [], .vw 0 [], .no]) (by show blkC ["script", "seed", "cell"] (defScope s__law_state) _ _ = true; exact (by decide +kernel)) (id_seq (x_var 0)) (fun _ _ _ _ _ => (x_tg 2 sc__law_state.nd)) (fun _ _ _ _ _ => dts_nil) (fun _ _ _ _ _ => (pd_abs (by rfl) gb.z_abs (x_var 2)))).toPDF (pl_cons (pd_add0 (x_var 1) pd_int) pl_nil))).dv))))
abbrev s__law_draw : Stmt := topS 8
abbrev F__law_draw := drawF
abbrev S__law_draw : Dw.Spec := ⟨[.io 2, .fz 0], .vw 0 [], drawF⟩
theorem sc__law_draw : FnScope ["state", "many", "cells", "value", "mixed"] ["state", "many"] (defScope s__law_draw) := ⟨rfl, rfl, rfl, by decide +kernel, rfl, by decide +kernel, by decide +kernel⟩
theorem ok__law_draw {P : Program} {w : World} {K : PySem.W.Frag} {mg : Str → Option Value} {base : Heap} {k : Nat} (gb : GB mg) (D : Dfn K mg "_law_draw" s__law_draw ["state", "many"]) : Cl P w K mg base (k + 1) "_law_draw" S__law_draw := by
  obtain ⟨f, fd, F, hm, kp, b⟩ := D.ex
  refine ⟨f, fd, _, F.ok sc__law_draw (fun vs H Q E ⟨_, _, _, _, _, hv, _⟩ => hv) (fun cdv A outer s H vs Q E hr h => ?_), hm, kp, b⟩
  obtain ⟨ds, fs, z, ds', hF, hv, S, q⟩ := h
  obtain ⟨a, c, ns, sd, many, DR, hm0, hm1, hr2⟩ := dr_start S hv hF
  refine ⟨_, pss_cons (ps_set (i := 2) sc__law_draw.nd rfl (.inl rfl) (pe_ix ix_list (pv 0) pe_int (fun _ _ => rfl)))
    (pss_cons (ps_while PassesOwn.never (PW.pt (pw_and (pt_cmpR op_gt (pe_callB call_len_seq (by rfl) gb.z_len PySem.boot_len (pa_cons (pv 2) pa_nil)) pe_int (nomark _)) (pw_and1 (pt_cmpR op_eq (pe_ix ix_list (pv 2) pe_int (fun _ _ => rfl)) pe_int (nomark _)))))
      (pss_one (ps_expr (pe_bm PySem.F.plainAttrs_list PySem.F.slot_list_pop PySem.F.type_list_pop mt_popAt (pv 2) (pa_cons pe_int pa_nil)))))
    (pss_cons (ps_if (pt_cmpR op_gt (pe_callB call_len_seq (by rfl) gb.z_len PySem.boot_len (pa_cons (pv 2) pa_nil)) pe_int (nomark _))
      (pss_cons (ps_set (i := 3) sc__law_draw.nd rfl (.inl rfl) (pe_ix ix_list (pv 2) pe_int (fun _ _ => rfl)))
      (pss_cons (ps_asg (pe_op op_fdiv (pv 3) (pv 1)) (pg_sub (pv 2) pe_int set_list))
      (pss_one (ps_ret (pe_op op_mod (pe_callTy call_int1 (by rfl) gb.z_int bt_int (pa_cons (pv 3) pa_nil)) (pv 1)))))) pss_nil)
    (pss_cons (ps_set (i := 4) sc__law_draw.nd rfl (.inl rfl) (pe_op op_mod (pe_callTy call_int1 (by rfl) gb.z_int bt_int (pa_cons (pe_op op_add (pe_op op_mul (pe_ix ix_list (pv 0) pe_int (fun _ _ => rfl)) pe_int) pe_int) pa_nil)) pe_int))
    (pss_cons (ps_asg (pv 4) (pg_sub (pv 0) pe_int set_list))
    (pss_one (ps_ret (pe_op op_mod (pe_callTy call_int1 (by rfl) gb.z_int bt_int (pa_cons (pe_op op_fdiv (pv 4) pe_int) pa_nil)) (pv 1)))))))), ?_⟩
  obtain ⟨e1, ea, ec, ne, f0, f1, sz, ln⟩ := id DR
  subst e1
  -- cells = state[0]
  refine ⟨.ref a, rfl, a, _, 0, .ref c, rfl, rfl, SqL.of ea, rfl, ?_⟩
  -- the loop
  refine ⟨fun m σ H1 => σ = [some (.ref a), some (.int many), some (.ref c), none, none] ∧ H1 a = some (.lst [.ref c, .int sd]) ∧ (∀ b, b ≠ a → b ≠ c → H1 b = H b) ∧ ∃ ms : List Int, m = ms.length ∧ H1 c = some (.lst (ms.map V.int)) ∧ ms.dropWhile (fun c => c == 0) = ns.dropWhile (fun c => c == 0) ∧ ms.length ≤ sizeLine,
    ⟨ns.length, rfl, ea, fun _ _ _ => rfl, ns, rfl, ec, rfl, ln⟩, ?_⟩
  rintro m σ H1 ⟨rfl, ea1, eo1, ms, rfl, ec1, hd, lm⟩
  refine ⟨.ref c, rfl, c, _, rfl, .inl (SqL.of ec1), _, _, rfl, rfl, ?_⟩
  rw [List.length_map]
  refine ⟨_, rfl, ?_⟩
  cases ms with
  | nil =>
    refine if_neg_p (by simp) (if_neg_p (by simp) ?_)
    have hd' : ns.dropWhile (fun c => c == 0) = [] := hd.symm
    -- no cell is left: the row's next
    refine ⟨.ref c, rfl, c, _, rfl, .inl (SqL.of ec1), _, _, rfl, rfl, _, rfl, ?_⟩
    refine if_neg_p (by simp) ?_
    refine ⟨.ref a, rfl, a, _, 1, .int sd, rfl, rfl, SqL.of ea1, atI_nat (j := 1) rfl, sd, 48271, rfl, rfl, ?_, _, _, rfl, rfl, .inl ⟨_, rfl, _, _, rfl, rfl, (show (0 : Int) < 2147483647 by decide), ?_⟩⟩
    · exact .inr (by decide)
    refine ⟨.int ((sd * 48271 + 12345) % 2147483647), rfl, .ref a, rfl, a, _, 1, 1, rfl, rfl, ea1, rfl, ?_⟩
    refine ⟨.int ((sd * 48271 + 12345) % 2147483647), rfl, _, 64, rfl, rfl, ⟨by decide, by decide⟩, .inl ⟨_, rfl, .int many, rfl, _, _, rfl, rfl, hm0, ?_⟩⟩
    rw [hd'] at hr2
    cases hr2
    refine q _ _ fs [] (dr_end (ns' := []) DR upd_same ?_ (fun b h1 h2 => ?_) (Nat.zero_le _))
    · rw [upd_ne ne]; exact ec1
    · rw [upd_ne h1]; exact eo1 b h1 h2
  | cons v r =>
    refine if_pos_p (by simp <;> omega) ⟨.ref c, rfl, c, _, 0, .int v, rfl, rfl, SqL.of ec1, atI_nat (j := 0) rfl, rfl, _, rfl, ?_⟩
    by_cases hv0 : v = 0
    · -- a 0 goes
      subst hv0
      refine if_pos_p rfl ⟨fun σ' H2 => σ' = [some (.ref a), some (.int many), some (.ref c), none, none] ∧ H2 a = some (.lst [.ref c, .int sd]) ∧ (∀ b, b ≠ a → b ≠ c → H2 b = H b) ∧ H2 c = some (.lst (r.map V.int)), fun σ' H2 ⟨h1, h2, h3, h4⟩ => ⟨r.length, Nat.lt_succ_self _, h1, h2, h3, r, rfl, h4, ?_, ?_⟩, ?_⟩
      · rw [← hd]; rfl
      · exact Nat.le_of_succ_le lm
      · refine ⟨.ref c, rfl, .inl ⟨rfl, _, SqL.of ec1⟩, c, _, 0, 0, .int 0, rfl, rfl, ec1, by decide, by decide, by simp [seqIndex?], rfl, rfl, ?_, fun b h1 h2 => ?_, upd_same⟩
        · rw [upd_ne (Ne.symm ne)]; exact ea1
        · rw [upd_ne h2]; exact eo1 b h1 h2
    · -- the first cell that is not 0
      have hv1 : ¬ V.int v = V.int 0 := fun e => hv0 (V.int.inj e)
      have hd' : ns.dropWhile (fun c => c == 0) = v :: r := by rw [← hd, List.dropWhile_cons_of_neg (by simpa using hv0)]
      refine if_neg_p (by simpa using hv1) ?_
      refine ⟨.ref c, rfl, c, _, rfl, .inl (SqL.of ec1), _, _, rfl, rfl, _, rfl, ?_⟩
      refine if_pos_p (by simp <;> omega) ?_
      refine ⟨.ref c, rfl, c, _, 0, .int v, rfl, rfl, SqL.of ec1, atI_nat (j := 0) rfl, ?_⟩
      refine ⟨.int v, rfl, .int many, rfl, _, _, rfl, rfl, ⟨hm0, hm1⟩, .ref c, rfl, c, _, 0, 0, rfl, rfl, ec1, by simp [ixN], ?_⟩
      refine ⟨.int v, rfl, .inl ⟨_, rfl, .int many, rfl, _, _, rfl, rfl, hm0, ?_⟩⟩
      rw [hd'] at hr2
      cases hr2
      refine q _ _ fs [] (dr_end (ns' := (v / many) :: r) DR ?_ upd_same (fun b h1 h2 => ?_) lm)
      · rw [upd_ne (Ne.symm ne)]; exact ea1
      · rw [upd_ne h2]; exact eo1 b h1 h2
abbrev s__law_all : Stmt := topS 9
theorem sc__law_all : FnScope ["n", "found", "k", "longer", "row", "steps", "goal", "step"] ["n"] (defScope s__law_all) := ⟨rfl, rfl, rfl, by decide +kernel, rfl, by decide +kernel, by decide +kernel⟩
def B__law_all : Ev → Option Fl := (sSeq (sAsg (lift (eLst (eCons (eTup (eCons (eTup (eCons (eC (.int 0)) eNil)) (eCons (eTup eNil) eNil))) eNil))) (gSet 1)) (sSeq (sFor (liftL (eRg opR1 (eCons (eBin opSub (eVar 0) (eC (.int 1))) eNil))) (gSet 2) (sSeq (sAsg (lift (eLst eNil)) (gSet 3)) (sSeq (sFor (liftL (eSq (eVar 1))) (gTupF (gsCons (gSet 4) (gsCons (gSet 5) gsNil))) (sFor (liftL (eRg opR1 (eCons (eVar 0) eNil))) (gSet 6) (sSeq (sAsg (lift (eBin opMod (eN opInt (eCons (eBin opSub (eVar 6) (eBin opIx (eVar 4) (eUn opNeg (eC (.int 1))))) eNil)) (eVar 0))) (gSet 7)) (sIf (liftB (eAnd (eT (eBin opNi (eVar 6) (eVar 4))) (eT (eBin opNi (eVar 7) (eVar 5))))) (sMeth 3 kNil (mCons (lift (eTup (eCons (eBin opAdd (eVar 4) (eTup (eCons (eVar 6) eNil))) (eCons (eBin opAdd (eVar 5) (eTup (eCons (eVar 7) eNil))) eNil)))) mNil) opApp) sSkip)))) (sAsg (lift (eVar 3)) (gSet 1))))) (sRet (lift (eN opSorted (eCons (pdF (mLc [4, 5] (liftL (eSq (eVar 1))) (gTupF (gsCons (gSet 4) (gsCons (gSet 5) gsNil))) (bdF tYesF (lift (eVar 4))))) eNil))))))
def F__law_all : List D → Option (D × List D) := runD [.fz 0] 8 B__law_all
def S__law_all : Dw.Spec := ⟨[.fz 0], (.ow 1), F__law_all⟩
theorem ok__law_all {P : Program} {w : World} {K : PySem.W.Frag} {mg : Str → Option Value} {base : Heap} {k : Nat} (gb : GB mg) (D : Dfn K mg "_law_all" s__law_all ["n"])  : Cl P w K mg base (k + 1) "_law_all" S__law_all := by
  refine cl_def S__law_all D sc__law_all rfl (Gn := pR [.fz 0]) (fun f cdv A outer s H E hr => ?_) (by rfl) (fun _ _ h => h)
  have hu := hr.units
  exact (dss_cons (x_set 1 sc__law_all.nd (pd_lst (pl_cons (pd_tup (pl_cons (pd_tup (pl_cons pd_int pl_nil)) (pl_cons (pd_tup pl_nil) pl_nil))) pl_nil)).dv) (dss_cons (ds_for (Gl := [.vw 0 [], .ow 1, .no, .no, .no, .no, .no, .no]) PassesOwn.never (by rfl) (id_range1 (by rfl) gb.z_range (pd_sub (x_var 0) pd_int)) (by rfl) (by rfl) (x_tg 2 sc__law_all.nd) (DSs.weak (G2 := [.vw 0 [], .ow 1, .no, .no, .no, .no, .no, .no]) (dss_cons (x_set 3 sc__law_all.nd (pd_lst pl_nil).dv) (dss_cons (ds_for (Gl := [.vw 0 [], .lk 1, .vw 0 [], .ow 1, .no, .no, .no, .no]) PassesOwn.never (by rfl) (id_seq (x_var 1)) (by rfl) (by rfl) (dg_tup (by rfl) (dgs_cons (x_tg 4 sc__law_all.nd) (dgs_cons (x_tg 5 sc__law_all.nd) dgs_nil)) (fun _ _ _ h => (gsCons_len (gsCons_len (fun _ _ _ q => gsNil_len q))) _ _ _ h)) (DSs.weak (G2 := [.vw 0 [], .lk 1, .vw 0 [], .ow 1, .no, .no, .no, .no]) (dss_one (ds_for (Gl := [.vw 0 [], .lk 1, .vw 0 [], .ow 1, .vw 0 [1], .vw 0 [1], .no, .no]) PassesOwn.never (by rfl) (id_range1 (by rfl) gb.z_range (x_var 0)) (by rfl) (by rfl) (x_tg 6 sc__law_all.nd) (DSs.weak (G2 := [.vw 0 [], .lk 1, .vw 0 [], .ow 1, .vw 0 [1], .vw 0 [1], .no, .no]) (dss_cons (x_set 7 sc__law_all.nd (pd_mod (pd_intC (by rfl) gb.z_int (pd_sub (x_var 6) (pd_ix hu (x_var 4) (pd_neg pd_int)))) (x_var 0)).dv) (dss_one (ds_if (tw_and (td_ni hu (x_var 6) (x_var 4)) (tw_and1 (td_ni hu (x_var 7) (x_var 5)))).dt (dss_one (ds_meth (n := 0) PySem.F.plainAttrs_list PySem.F.slot_list_append PySem.F.type_list_append mt_append mr_app (x_pn 3) (by rfl) (dvs_cons (pd_tup (pl_cons (pd_add0 (x_var 4) (pd_tup (pl_cons (x_var 6) pl_nil))) (pl_cons (pd_add0 (x_var 5) (pd_tup (pl_cons (x_var 7) pl_nil))) pl_nil))).dv dvs_nil))) dss_nil)))))))) (dss_one (x_set 1 sc__law_all.nd (x_mv 3))))))) (dss_one (ds_ret (pd_sorted hu (by rfl) gb.z_sorted (de_lc (by rfl) sc__law_all.nd (own := [("row", 4), ("steps", 5)]) (Gl := [.vw 0 [], .ow 1, .no, .no, .no, .no, .no, .no]) (by show blkC ["n", "found", "k", "longer", "row", "steps", "goal", "step"] (defScope s__law_all) _ _ = true; exact (by decide +kernel)) (id_seq (x_var 1)) (fun _ _ _ _ _ => (dg_tup (by rfl) (dgs_cons (x_tg 4 sc__law_all.nd) (dgs_cons (x_tg 5 sc__law_all.nd) dgs_nil)) (fun _ _ _ h => (gsCons_len (gsCons_len (fun _ _ _ q => gsNil_len q))) _ _ _ h))) (fun _ _ _ _ _ => dts_nil) (fun _ _ _ _ _ => (x_var 4))).toPDF).dv))))
abbrev s_steps_of : Stmt := topS 1
theorem sc_steps_of : FnScope ["n", "row", "one", "other"] ["n", "row"] (defScope s_steps_of) := ⟨rfl, rfl, rfl, by decide +kernel, rfl, by decide +kernel, by decide +kernel⟩
def B_steps_of : Ev → Option Fl := (sRet (lift (pdF (mLc [2, 3] (liftL (eRg opZip (eCons (eVar 1) (eCons (eSl (eVar 1) (oSome (eC (.int 1))) oNone) eNil)))) (gTupF (gsCons (gSet 2) (gsCons (gSet 3) gsNil))) (bdF tYesF (lift (eBin opMod (eBin opSub (eVar 3) (eVar 2)) (eVar 0))))))))
def F_steps_of : List D → Option (D × List D) := runD [.fz 0, .fz 0] 4 B_steps_of
def S_steps_of : Dw.Spec := ⟨[.fz 0, .fz 0], (.ow 1), F_steps_of⟩
theorem ok_steps_of {P : Program} {w : World} {K : PySem.W.Frag} {mg : Str → Option Value} {base : Heap} {k : Nat} (gb : GB mg) (D : Dfn K mg "steps_of" s_steps_of ["n", "row"])  : Cl P w K mg base (k + 1) "steps_of" S_steps_of := by
  refine cl_def S_steps_of D sc_steps_of rfl (Gn := pR [.fz 0, .fz 0]) (fun f cdv A outer s H E hr => ?_) (by rfl) (fun _ _ h => h)
  have hu := hr.units
  exact (dss_one (ds_ret (de_lc (by rfl) sc_steps_of.nd (own := [("one", 2), ("other", 3)]) (Gl := [.vw 0 [], .vw 0 [], .no, .no]) (by show blkC ["n", "row", "one", "other"] (defScope s_steps_of) _ _ = true; exact (by decide +kernel)) (id_zip (by rfl) gb.z_zip (x_var 1) (pd_slice (x_var 1) (do_some pd_int) do_none)) (fun _ _ _ _ _ => (dg_tup (by rfl) (dgs_cons (x_tg 2 sc_steps_of.nd) (dgs_cons (x_tg 3 sc_steps_of.nd) dgs_nil)) (fun _ _ _ h => (gsCons_len (gsCons_len (fun _ _ _ q => gsNil_len q))) _ _ _ h))) (fun _ _ _ _ _ => dts_nil) (fun _ _ _ _ _ => (pd_mod (pd_sub (x_var 3) (x_var 2)) (x_var 0)))).toPDF.dv))
abbrev s_directed_terraces : Stmt := topS 5
theorem sc_directed_terraces : FnScope ["n", "told", "_", "longer", "row", "steps", "goal"] ["n"] (defScope s_directed_terraces) := ⟨rfl, rfl, rfl, by decide +kernel, rfl, by decide +kernel, by decide +kernel⟩
def B_directed_terraces : Ev → Option Fl := (sSeq (sAsg (lift (eLst (eCons (eTup (eCons (eC (.int 0)) eNil)) eNil))) (gSet 1)) (sSeq (sFor (liftL (eRg opR1 (eCons (eBin opSub (eVar 0) (eC (.int 1))) eNil))) (gSet 2) (sSeq (sAsg (lift (eLst eNil)) (gSet 3)) (sSeq (sFor (liftL (eSq (eVar 1))) (gSet 4) (sSeq (sAsg (lift (eCall F_steps_of (eCons (eVar 0) (eCons (eVar 4) eNil)))) (gSet 5)) (sFor (liftL (eRg opR1 (eCons (eVar 0) eNil))) (gSet 6) (sIf (liftB (eAnd (eT (eBin opNi (eVar 6) (eVar 4))) (eT (eBin opNi (eBin opMod (eBin opSub (eVar 6) (eBin opIx (eVar 4) (eUn opNeg (eC (.int 1))))) (eVar 0)) (eVar 5))))) (sMeth 3 kNil (mCons (lift (eBin opAdd (eVar 4) (eTup (eCons (eVar 6) eNil)))) mNil) opApp) sSkip)))) (sAsg (lift (eVar 3)) (gSet 1))))) (sRet (lift (eVar 1)))))
def F_directed_terraces : List D → Option (D × List D) := runD [.fz 0] 7 B_directed_terraces
def S_directed_terraces : Dw.Spec := ⟨[.fz 0], (.ow 1), F_directed_terraces⟩
theorem ok_directed_terraces {P : Program} {w : World} {K : PySem.W.Frag} {mg : Str → Option Value} {base : Heap} {k : Nat} (gb : GB mg) (D : Dfn K mg "directed_terraces" s_directed_terraces ["n"]) (c_steps_of : Cl P w K mg base k "steps_of" S_steps_of) : Cl P w K mg base (k + 1) "directed_terraces" S_directed_terraces := by
  refine cl_def S_directed_terraces D sc_directed_terraces rfl (Gn := pR [.fz 0]) (fun f cdv A outer s H E hr => ?_) (by rfl) (fun _ _ h => h)
  have hu := hr.units
  exact (dss_cons (x_set 1 sc_directed_terraces.nd (pd_lst (pl_cons (pd_tup (pl_cons pd_int pl_nil)) pl_nil)).dv) (dss_cons (ds_for (Gl := [.vw 0 [], .ow 1, .no, .no, .no, .no, .no]) PassesOwn.never (by rfl) (id_range1 (by rfl) gb.z_range (pd_sub (x_var 0) pd_int)) (by rfl) (by rfl) (x_tg 2 sc_directed_terraces.nd) (DSs.weak (G2 := [.vw 0 [], .ow 1, .no, .no, .no, .no, .no]) (dss_cons (x_set 3 sc_directed_terraces.nd (pd_lst pl_nil).dv) (dss_cons (ds_for (Gl := [.vw 0 [], .lk 1, .vw 0 [], .ow 1, .no, .no, .no]) PassesOwn.never (by rfl) (id_seq (x_var 1)) (by rfl) (by rfl) (x_tg 4 sc_directed_terraces.nd) (DSs.weak (G2 := [.vw 0 [], .lk 1, .vw 0 [], .ow 1, .no, .no, .no]) (dss_cons (x_set 5 sc_directed_terraces.nd (pd_call S_steps_of c_steps_of hr (Nat.le_refl _) (by rfl) (dcl_ex (x_var 0) (dcl_ex (x_var 4) dcl_nil))).dv) (dss_one (ds_for (Gl := [.vw 0 [], .lk 1, .vw 0 [], .ow 1, .vw 0 [1], .ow 1, .no]) PassesOwn.never (by rfl) (id_range1 (by rfl) gb.z_range (x_var 0)) (by rfl) (by rfl) (x_tg 6 sc_directed_terraces.nd) (DSs.weak (G2 := [.vw 0 [], .lk 1, .vw 0 [], .ow 1, .vw 0 [1], .ow 1, .no]) (dss_one (ds_if (tw_and (td_ni hu (x_var 6) (x_var 4)) (tw_and1 (td_ni hu (pd_mod (pd_sub (x_var 6) (pd_ix hu (x_var 4) (pd_neg pd_int))) (x_var 0)) (x_var 5)))).dt (dss_one (ds_meth (n := 0) PySem.F.plainAttrs_list PySem.F.slot_list_append PySem.F.type_list_append mt_append mr_app (x_pn 3) (by rfl) (dvs_cons (pd_add0 (x_var 4) (pd_tup (pl_cons (x_var 6) pl_nil))).dv dvs_nil))) dss_nil)))))))) (dss_one (x_set 1 sc_directed_terraces.nd (x_mv 3))))))) (dss_one (ds_ret (x_mv 1)))))
abbrev s_terrace_square : Stmt := topS 4
theorem sc_terrace_square : FnScope ["row", "n", "one", "other"] ["row"] (defScope s_terrace_square) := ⟨rfl, rfl, rfl, by decide +kernel, rfl, by decide +kernel, by decide +kernel⟩
def B_terrace_square : Ev → Option Fl := (sSeq (sAsg (lift (eN opLen (eCons (eVar 0) eNil))) (gSet 1)) (sRet (lift (eN opTuple (eCons (pdF (mLc [2] (liftL (eSq (eVar 0))) (gSet 2) (bdF tYesF (lift (eN opTuple (eCons (pdF (mLc [3] (liftL (eSq (eVar 0))) (gSet 3) (bdF tYesF (lift (eBin opMod (eBin opAdd (eVar 2) (eVar 3)) (eVar 1)))))) eNil)))))) eNil)))))
def F_terrace_square : List D → Option (D × List D) := runD [.fz 0] 4 B_terrace_square
def S_terrace_square : Dw.Spec := ⟨[.fz 0], (.vw 0 []), F_terrace_square⟩
theorem ok_terrace_square {P : Program} {w : World} {K : PySem.W.Frag} {mg : Str → Option Value} {base : Heap} {k : Nat} (gb : GB mg) (D : Dfn K mg "terrace_square" s_terrace_square ["row"])  : Cl P w K mg base (k + 1) "terrace_square" S_terrace_square := by
  refine cl_def S_terrace_square D sc_terrace_square rfl (Gn := pR [.fz 0]) (fun f cdv A outer s H E hr => ?_) (by rfl) (fun _ _ h => h)
  have hu := hr.units
  exact (dss_cons (x_set 1 sc_terrace_square.nd (pd_len (by rfl) gb.z_len (x_var 0)).dv) (dss_one (ds_ret (pd_tuple (by rfl) gb.z_tuple (de_lc (by rfl) sc_terrace_square.nd (own := [("one", 2)]) (Gl := [.vw 0 [], .vw 0 [], .no, .no]) (by show blkC ["row", "n", "one", "other"] (defScope s_terrace_square) _ _ = true; exact (by decide +kernel)) (id_seq (x_var 0)) (fun _ _ _ _ _ => (x_tg 2 sc_terrace_square.nd)) (fun _ _ _ _ _ => dts_nil) (fun _ _ _ _ _ => (pd_tuple (by rfl) gb.z_tuple (de_lc (by rfl) sc_terrace_square.nd (own := [("other", 3)]) (Gl := [.vw 0 [], .vw 0 [], .vw 0 [], .no]) (by rfl) (id_seq (x_var 0)) (fun _ _ _ _ _ => (x_tg 3 sc_terrace_square.nd)) (fun _ _ _ _ _ => dts_nil) (fun _ _ _ _ _ => (pd_mod (pd_add0 (x_var 2) (x_var 3)) (x_var 1)))).toPDF))).toPDF).dv)))
abbrev s_neighbours_of : Stmt := topS 2
theorem sc_neighbours_of : FnScope ["square", "told", "row"] ["square"] (defScope s_neighbours_of) := ⟨rfl, rfl, rfl, by decide +kernel, rfl, by decide +kernel, by decide +kernel⟩
def B_neighbours_of : Ev → Option Fl := (sSeq (sAsg (lift (eLst eNil)) (gSet 1)) (sSeq (sFor (liftL (eSq (eVar 0))) (gSet 2) (sAsg (lift (eBin opAdd (eVar 1) (eN opLZ (eCons (eVar 2) (eCons (eSl (eVar 2) (oSome (eC (.int 1))) oNone) eNil))))) (gSet 1))) (sRet (lift (eVar 1)))))
def F_neighbours_of : List D → Option (D × List D) := runD [.fz 0] 3 B_neighbours_of
def S_neighbours_of : Dw.Spec := ⟨[.fz 0], (.ow 1), F_neighbours_of⟩
theorem ok_neighbours_of {P : Program} {w : World} {K : PySem.W.Frag} {mg : Str → Option Value} {base : Heap} {k : Nat} (gb : GB mg) (D : Dfn K mg "neighbours_of" s_neighbours_of ["square"])  : Cl P w K mg base (k + 1) "neighbours_of" S_neighbours_of := by
  refine cl_def S_neighbours_of D sc_neighbours_of rfl (Gn := pR [.fz 0]) (fun f cdv A outer s H E hr => ?_) (by rfl) (fun _ _ h => h)
  have hu := hr.units
  exact (dss_cons (x_set 1 sc_neighbours_of.nd (pd_lst pl_nil).dv) (dss_cons (ds_for (Gl := [.vw 0 [], .ow 1, .no]) PassesOwn.never (by rfl) (id_seq (x_var 0)) (by rfl) (by rfl) (x_tg 2 sc_neighbours_of.nd) (DSs.weak (G2 := [.vw 0 [], .ow 1, .no]) (dss_one (x_set 1 sc_neighbours_of.nd (pd_addO (x_var 1) (pd_lz (by rfl) (by rfl) gb.z_list (by rfl) gb.z_zip (x_var 2) (pd_slice (x_var 2) (do_some pd_int) do_none) (by decide))).dv)))) (dss_one (ds_ret (x_mv 1)))))
abbrev s_is_row_complete : Stmt := topS 3
theorem sc_is_row_complete : FnScope ["square", "pairs"] ["square"] (defScope s_is_row_complete) := ⟨rfl, rfl, rfl, by decide +kernel, rfl, by decide +kernel, by decide +kernel⟩
def B_is_row_complete : Ev → Option Fl := (sSeq (sAsg (lift (eCall F_neighbours_of (eCons (eVar 0) eNil))) (gSet 1)) (sRet (lift (eBin opEq (eUn opLenSet (eVar 1)) (eN opLen (eCons (eVar 1) eNil))))))
def F_is_row_complete : List D → Option (D × List D) := runD [.fz 0] 2 B_is_row_complete
def S_is_row_complete : Dw.Spec := ⟨[.fz 0], (.vw 0 []), F_is_row_complete⟩
theorem ok_is_row_complete {P : Program} {w : World} {K : PySem.W.Frag} {mg : Str → Option Value} {base : Heap} {k : Nat} (gb : GB mg) (D : Dfn K mg "is_row_complete" s_is_row_complete ["square"]) (c_neighbours_of : Cl P w K mg base k "neighbours_of" S_neighbours_of) : Cl P w K mg base (k + 1) "is_row_complete" S_is_row_complete := by
  refine cl_def S_is_row_complete D sc_is_row_complete rfl (Gn := pR [.fz 0]) (fun f cdv A outer s H E hr => ?_) (by rfl) (fun _ _ h => h)
  have hu := hr.units
  exact (dss_cons (x_set 1 sc_is_row_complete.nd (pd_call S_neighbours_of c_neighbours_of hr (Nat.le_refl _) (by rfl) (dcl_ex (x_var 0) dcl_nil)).dv) (dss_one (ds_ret (pd_eq hu (pd_lenSet (by rfl) hu (by rfl) gb.z_len (by rfl) gb.z_set (x_var 1)) (pd_len (by rfl) gb.z_len (x_var 1))).dv)))
abbrev s_law : Stmt := topS 10
theorem sc_law : FnScope ["script", "state", "n", "due", "told", "row"] ["script"] (defScope s_law) := ⟨rfl, rfl, rfl, by decide +kernel, rfl, by decide +kernel, by decide +kernel⟩
def B_law : Ev → Option Fl := (sSeq (sAsg (lift (eCall F__law_state (eCons (eVar 0) eNil))) (gSet 1)) (sSeq (sAsg (bin2 opAdd (lift (eC (.int 1))) (mCall F__law_draw [some 1, none] (mCons (lift (eC (.int 8))) mNil))) (gSet 2)) (sSeq (sAsg (lift (eCall F__law_all (eCons (eVar 2) eNil))) (gSet 3)) (sSeq (sAsg (lift (eCall F_directed_terraces (eCons (eVar 2) eNil))) (gSet 4)) (sSeq (sIf (liftB (eOr (eNot (eT (eUn (opIsi .list) (eVar 4)))) (eOr (eT (eBin opNe (eVar 4) (eVar 3))) (eT (eBin opNe (eBin opGt (eN opLen (eCons (eVar 3) eNil)) (eC (.int 0))) (eOrV (eBin opEq (eBin opMod (eN opInt (eCons (eVar 2) eNil)) (eC (.int 2))) (eC (.int 0))) (eBin opEq (eVar 2) (eC (.int 1))))))))) (sRet (lift (eC (.bl false)))) sSkip) (sSeq (sIf (liftB (eT (eBin opEq (eN opLen (eCons (eVar 3) eNil)) (eC (.int 0))))) (sRet (lift (eC (.bl true)))) sSkip) (sSeq (sAsg (bin2 opIx (lift (eVar 3)) (mCall F__law_draw [some 1, none] (mCons (lift (eN opLen (eCons (eVar 3) eNil))) mNil))) (gSet 5)) (sRet (lift (eAndV (eBin opIs (eCall F_is_row_complete (eCons (eCall F_terrace_square (eCons (eVar 5) eNil)) eNil)) (eC (.bl true))) (eBin opEq (eN opLen (eCons (eVar 3) eNil)) (eBin opIx (eC (.dct false [.int 1, .int 2, .int 4, .int 6, .int 8] [.int 1, .int 1, .int 2, .int 4, .int 24])) (eVar 2)))))))))))))
def F_law : List D → Option (D × List D) := runD [.fz 0] 6 B_law
def S_law : Dw.Spec := ⟨[.fz 0], (.vw 0 []), F_law⟩
theorem ok_law {P : Program} {w : World} {K : PySem.W.Frag} {mg : Str → Option Value} {base : Heap} {k : Nat} {f : Addr} {fd : FuncData} (gb : GB mg) (F : Fun K "law" "law" s_law f fd) (c__law_state : Cl P w K mg base k "_law_state" S__law_state) (c__law_draw : Cl P w K mg base k "_law_draw" S__law_draw) (c__law_all : Cl P w K mg base k "_law_all" S__law_all) (c_directed_terraces : Cl P w K mg base k "directed_terraces" S_directed_terraces) (c_terrace_square : Cl P w K mg base k "terrace_square" S_terrace_square) (c_is_row_complete : Cl P w K mg base k "is_row_complete" S_is_row_complete) : FnOk P w K mg base CX0 (k + 1) f fd ["script"] (spD K S_law) := by
  refine ok_def S_law F sc_law rfl (Gn := pR [.fz 0]) (fun cdv A outer s H E hr => ?_) (by rfl) (fun _ _ h => h)
  have hu := hr.units
  exact (dss_cons (x_set 1 sc_law.nd (pd_call S__law_state c__law_state hr (Nat.le_refl _) (by rfl) (dcl_ex (x_var 0) dcl_nil)).dv) (dss_cons (x_set 2 sc_law.nd (de_add0 (by decide) pd_int (de_callC S__law_draw c__law_draw hr (Nat.le_refl _) (by rfl) (x_io 1 (dc_ex pd_int dc_nil)))).dv) (dss_cons (x_set 3 sc_law.nd (pd_call S__law_all c__law_all hr (Nat.le_refl _) (by rfl) (dcl_ex (x_var 2) dcl_nil)).dv) (dss_cons (x_set 4 sc_law.nd (pd_call S_directed_terraces c_directed_terraces hr (Nat.le_refl _) (by rfl) (dcl_ex (x_var 2) dcl_nil)).dv) (dss_cons (ds_if (tw_or (td_not (td_val (pd_isi (T := .list) (by rfl) gb.z_isinstance (by rfl) gb.z_list bt_list (x_var 4)))) (tw_or (td_ne hu (x_var 4) (x_var 3)) (tw_or1 (td_ne hu (pd_gt (pd_len (by rfl) gb.z_len (x_var 3)) pd_int) (pd_orV (m := (.vw 0 [])) (pd_eq hu (pd_mod (pd_intC (by rfl) gb.z_int (x_var 2)) pd_int) pd_int) (pd_one (pd_eq hu (x_var 2) pd_int))))))).dt (dss_one (ds_ret pd_bl.dv)) dss_nil) (dss_cons (ds_if (td_eq hu (pd_len (by rfl) gb.z_len (x_var 3)) pd_int) (dss_one (ds_ret pd_bl.dv)) dss_nil) (dss_cons (x_set 5 sc_law.nd (de_ix hu (x_var 3) (de_callC S__law_draw c__law_draw hr (Nat.le_refl _) (by rfl) (x_io 1 (dc_ex (pd_len (by rfl) gb.z_len (x_var 3)) dc_nil)))).dv) (dss_one (ds_ret (pd_andV (m := (.vw 0 [])) (pd_is (pd_call S_is_row_complete c_is_row_complete hr (Nat.le_refl _) (by rfl) (dcl_ex (pd_call S_terrace_square c_terrace_square hr (Nat.le_refl _) (by rfl) (dcl_ex (x_var 5) dcl_nil)) dcl_nil)) pd_bl) (pd_one (pd_eq hu (pd_len (by rfl) gb.z_len (x_var 3)) (pd_ix hu (pd_dispI (ps := [(1, 1), (2, 1), (4, 2), (6, 4), (8, 24)]) (pps_cons pe_int pe_int (pps_cons pe_int pe_int (pps_cons pe_int pe_int (pps_cons pe_int pe_int (pps_cons pe_int pe_int pps_nil)))))) (x_var 2))))).dv)))))))))
theorem all_ok {P : Program} {w : World} {K : PySem.W.Frag} {mg : Str → Option Value} {base : Heap} {f : Addr} {fd : FuncData} (gb : GB mg) (D__law_state : Dfn K mg "_law_state" s__law_state ["script"]) (D__law_draw : Dfn K mg "_law_draw" s__law_draw ["state", "many"]) (D__law_all : Dfn K mg "_law_all" s__law_all ["n"]) (D_steps_of : Dfn K mg "steps_of" s_steps_of ["n", "row"]) (D_directed_terraces : Dfn K mg "directed_terraces" s_directed_terraces ["n"]) (D_terrace_square : Dfn K mg "terrace_square" s_terrace_square ["row"]) (D_neighbours_of : Dfn K mg "neighbours_of" s_neighbours_of ["square"]) (D_is_row_complete : Dfn K mg "is_row_complete" s_is_row_complete ["square"]) (F : Fun K "law" "law" s_law f fd) : FnOk P w K mg base CX0 3 f fd ["script"] (spD K S_law) := by
  have C__law_state : Cl P w K mg base 1 "_law_state" S__law_state := ok__law_state (k := 0) gb D__law_state 
  have C__law_draw : Cl P w K mg base 1 "_law_draw" S__law_draw := ok__law_draw (k := 0) gb D__law_draw 
  have C__law_all : Cl P w K mg base 1 "_law_all" S__law_all := ok__law_all (k := 0) gb D__law_all 
  have C_steps_of : Cl P w K mg base 1 "steps_of" S_steps_of := ok_steps_of (k := 0) gb D_steps_of 
  have C_directed_terraces : Cl P w K mg base 2 "directed_terraces" S_directed_terraces := ok_directed_terraces (k := 1) gb D_directed_terraces (C_steps_of.mono (by decide))
  have C_terrace_square : Cl P w K mg base 1 "terrace_square" S_terrace_square := ok_terrace_square (k := 0) gb D_terrace_square 
  have C_neighbours_of : Cl P w K mg base 1 "neighbours_of" S_neighbours_of := ok_neighbours_of (k := 0) gb D_neighbours_of 
  have C_is_row_complete : Cl P w K mg base 2 "is_row_complete" S_is_row_complete := ok_is_row_complete (k := 1) gb D_is_row_complete (C_neighbours_of.mono (by decide))
  exact ok_law (k := 2) gb F (C__law_state.mono (by decide)) (C__law_draw.mono (by decide)) (C__law_all.mono (by decide)) (C_directed_terraces.mono (by decide)) (C_terrace_square.mono (by decide)) (C_is_row_complete.mono (by decide))
set_option maxHeartbeats 1000000
open PySem PySem.Spec PyProof.Rows L2 Dw
def steps (n : Nat) (w : List Int) : List Int := (w.zip (w.drop 1)).map fun p => (p.2 - p.1) % n
def lastI (w : List Int) : Int := w.getLast?.getD 0
theorem steps_snoc (n : Nat) : ∀ (w : List Int) (g : Int), w ≠ [] → steps n (w ++ [g]) = steps n w ++ [(g - lastI w) % n]
  | [], _, h => absurd rfl h
  | [x], g, _ => rfl
  | x :: y :: w, g, _ => by
    have ih := steps_snoc n (y :: w) g (by simp)
    have e1 : ∀ (u : List Int) (a b : Int), steps n (a :: b :: u) = ((b - a) % n) :: steps n (b :: u) := fun _ _ _ => rfl
    have e2 : lastI (x :: y :: w) = lastI (y :: w) := by unfold lastI; rw [List.getLast?_cons_cons]
    show steps n (x :: y :: (w ++ [g])) = _
    rw [e1, e1, e2]
    show _ :: steps n (y :: w ++ [g]) = _
    rw [ih]; rfl
def okT (n : Nat) (w : List Int) (g : Nat) : Bool := !decide ((g : Int) ∈ w) && !decide (((g : Int) - lastI w) % n ∈ steps n w)
def kidsT (n : Nat) (w : List Int) : List (List Int) := ((List.range n).filter (okT n w)).map fun g : Nat => w ++ [(g : Int)]
def levT (n : Nat) : Nat → List (List Int)
  | 0 => [[0]]
  | r + 1 => (levT n r).flatMap (kidsT n)
def ter (n : Nat) : List (List Int) := levT n (n - 1)
theorem kids_len (n : Nat) (w : List Int) : (kidsT n w).length ≤ n := by
  unfold kidsT
  rw [List.length_map]
  refine Nat.le_trans (List.length_filter_le ..) ?_
  rw [List.length_range]; exact Nat.le_refl _
theorem flat_kids (n : Nat) : ∀ l : List (List Int), (l.flatMap (kidsT n)).length ≤ l.length * n
  | [] => by simp
  | x :: l => by
    have := flat_kids n l
    have := kids_len n x
    rw [List.flatMap_cons, List.length_append, List.length_cons, Nat.succ_mul]; omega
theorem lev_len (n : Nat) : ∀ r, (levT n r).length ≤ n ^ r
  | 0 => Nat.le_refl _
  | r + 1 => by
    refine Nat.le_trans (flat_kids n _) ?_
    rw [Nat.pow_succ]
    exact Nat.mul_le_mul_right _ (lev_len n r)
theorem row_len {n : Nat} : ∀ {r : Nat} {w : List Int}, w ∈ levT n r → w.length = r + 1
  | 0, w, h => by
    have h : w ∈ [[(0 : Int)]] := h
    simp at h; subst h; rfl
  | r + 1, w, h => by
    have h : w ∈ (levT n r).flatMap (kidsT n) := h
    obtain ⟨v, hv, hw⟩ := List.mem_flatMap.mp h
    unfold kidsT at hw
    obtain ⟨g, _, rfl⟩ := List.mem_map.mp hw
    rw [List.length_append, row_len hv]; rfl
theorem lt_ext : ∀ {w v : List Int} (a b : List Int), w.length = v.length → ltR w v = true → ltR (w ++ a) (v ++ b) = true
  | [], [], _, _, _, h => by cases h
  | [], _ :: _, _, _, h, _ => by cases h
  | _ :: _, [], _, _, h, _ => by cases h
  | x :: w, y :: v, a, b, hl, h => by
    have h : (if x = y then ltR w v else decide (x < y)) = true := h
    show (if x = y then ltR (w ++ a) (v ++ b) else decide (x < y)) = true
    by_cases e : x = y
    · rw [if_pos e] at h ⊢
      exact lt_ext a b (by simpa using hl) h
    · rw [if_neg e] at h ⊢; exact h
theorem lt_pre : ∀ (p u v : List Int) (a b : Int), a < b → ltR (p ++ a :: u) (p ++ b :: v) = true
  | [], u, v, a, b, h => by
    show (if a = b then _ else decide (a < b)) = true
    rw [if_neg (by omega)]; simp [h]
  | x :: p, u, v, a, b, h => by
    show (if x = x then ltR (p ++ a :: u) (p ++ b :: v) else _) = true
    rw [if_pos rfl]; exact lt_pre p u v a b h
theorem lev_pw (n : Nat) : ∀ r, (levT n r).Pairwise fun a b => ltR a b = true
  | 0 => List.pairwise_singleton ..
  | r + 1 => by
    show ((levT n r).flatMap (kidsT n)).Pairwise _
    rw [List.pairwise_flatMap]
    refine ⟨fun w _ => ?_, ?_⟩
    · unfold kidsT
      rw [List.pairwise_map]
      refine List.Pairwise.filter _ (List.Pairwise.imp ?_ List.pairwise_lt_range)
      intro a b h
      exact lt_pre w [] [] (a : Int) (b : Int) (by omega)
    · refine List.Pairwise.imp_of_mem ?_ (lev_pw n r)
      intro w v hw hv h x hx y hy
      unfold kidsT at hx hy
      obtain ⟨a, _, rfl⟩ := List.mem_map.mp hx
      obtain ⟨b, _, rfl⟩ := List.mem_map.mp hy
      exact lt_ext _ _ (by rw [row_len hw, row_len hv]) h
theorem pow_le {n r : Nat} (hn : n ≤ 8) (hr : r ≤ 7) : n ^ r ≤ 2097152 := by
  have h1 : n ^ r ≤ 8 ^ r := Nat.pow_le_pow_left hn r
  have h2 : 8 ^ r ≤ 8 ^ 7 := Nat.pow_le_pow_right (by decide) hr
  omega
/-! ### the square of a row -/
def sqOf (w : List Int) : List (List Int) := w.map fun a => w.map fun b => (a + b) % (w.length : Int)
def nbR (r : List Int) : List (List Int) := (r.zip (r.drop 1)).map fun p => [p.1, p.2]
def nb (M : List (List Int)) : List (List Int) := M.flatMap nbR
def goodT (n : Nat) : Bool := (ter n).all fun w => chkC (codeR n) 0 (nb (sqOf w))
theorem g_1 : goodT 1 = true := by decide +kernel
theorem g_2 : goodT 2 = true := by decide +kernel
theorem g_4 : goodT 4 = true := by decide +kernel
theorem g_6 : goodT 6 = true := by decide +kernel
theorem g_8 : goodT 8 = true := by decide +kernel
theorem l_1 : (ter 1).length = 1 := by decide +kernel
theorem l_2 : (ter 2).length = 1 := by decide +kernel
theorem l_3 : (ter 3).length = 0 := by decide +kernel
theorem l_4 : (ter 4).length = 2 := by decide +kernel
theorem l_5 : (ter 5).length = 0 := by decide +kernel
theorem l_6 : (ter 6).length = 4 := by decide +kernel
theorem l_7 : (ter 7).length = 0 := by decide +kernel
theorem l_8 : (ter 8).length = 24 := by decide +kernel
set_option maxHeartbeats 1000000
open PySem PySem.Spec PyProof.Rows L2 Dw
theorem drop1 (w : List Int) : opSl (some 1) none (dW w) = some (dW (w.drop 1)) := by
  show some (D.tup (cutD _ (some 1) none)) = _
  rw [cut1, ← List.map_drop]; rfl
theorem zip_row (a b : List Int) : zipT (a.map .int) (b.map .int) = (a.zip b).map fun p => .tup [.int p.1, .int p.2] := by
  unfold zipT; rw [List.zip_map, List.map_map]; rfl
theorem mod_nat {x : Int} {n : Nat} (h : 1 ≤ n) : opMod (.int x) (.int n) = some (.int (x % n)) := by
  show (if decide ((0 : Int) < n) = true then some (D.int (x % n)) else none) = _
  rw [if_pos (by simp; omega)]
theorem steps_ok {n : Nat} {w : List Int} (hn : 1 ≤ n) (hl : w.length ≤ 1000) : F_steps_of [.int n, dW w] = some (.lst ((steps n w).map .int), [.int n, dW w]) := by
  refine run_fz ?_
  show OkS B_steps_of [some (.int n), some (dW w), none, none] _
  refine okS_ret (okE_lift (pd_lcm (fun p : Int × Int => D.tup [.int p.1, .int p.2]) (fun p : Int × Int => D.int ((p.2 - p.1) % n)) (xs := w.zip (w.drop 1)) (eRg_of (xs := [dW w, dW (w.drop 1)]) (eCons_of rfl (eCons_of (eSl_of (gh := oNone) (hi := none) (lo := some 1) rfl rfl rfl (drop1 w)) rfl)) ?_) (fun p _ => ⟨_, rfl, rfl, eBin_of (eBin_of rfl rfl rfl) rfl (mod_nat hn)⟩) ?_) (rtEx ?_))
  · show some (zipT _ _) = _
    rw [zip_row]
  · rw [List.length_zip]; exact szL (by omega)
  · unfold steps; rw [List.map_map]; rfl
theorem last_ix {w : List Int} (h : w ≠ []) : opIx (dW w) (.int (-1)) = some (.int (lastI w)) := by
  obtain ⟨v, x, rfl⟩ : ∃ v x, w = v ++ [x] := ⟨w.dropLast, w.getLast h, (List.dropLast_concat_getLast h).symm⟩
  have e : lastI (v ++ [x]) = x := by unfold lastI; simp
  rw [e]
  refine Dw.atI_m1 ?_
  rw [List.map_append]; simp
theorem okT_test {n : Nat} {w : List Int} {g : Nat} {s : Ev} {gv gc gl gs : Ev → Option D} {st : D} (h1 : gv s = some (.int (g : Nat))) (h2 : gc s = some (dW w)) (h3 : gl s = some (.int (((g : Int) - lastI w) % n))) (h4 : gs s = some st) (h5 : opNi (.int (((g : Int) - lastI w) % n)) st = some (.bl (!decide (((g : Int) - lastI w) % n ∈ steps n w)))) :
    eAnd (eT (eBin opNi gv gc)) (eT (eBin opNi gl gs)) s = some (okT n w g) := by
  unfold okT
  refine eAnd_of (eT_of (x := .bl (!decide ((g : Int) ∈ w))) (eBin_of h1 h2 ?_) rfl) fun _ => eT_of (eBin_of h3 h4 h5) rfl
  exact opNi_tup (f := D.int) eqs_int (by decide) (g : Int) w
theorem row_ne {n r : Nat} {w : List Int} (h : w ∈ levT n r) : w ≠ [] := fun e => by
  have := row_len h; rw [e] at this; simp at this
theorem sub1 {n : Nat} (h : 1 ≤ n) : (n : Int) - 1 = ((n - 1 : Nat) : Int) := by omega
theorem kid_snoc {n : Nat} {w : List Int} {db : List Nat} {b : Nat} : ((db ++ [b]).filter (okT n w)).map (fun g : Nat => w ++ [(g : Int)]) = (db.filter (okT n w)).map (fun g : Nat => w ++ [(g : Int)]) ++ if okT n w b then [w ++ [(b : Int)]] else [] := by
  rw [List.filter_append, List.map_append]
  congr 1
  by_cases h : okT n w b = true
  · rw [if_pos h]; simp [List.filter_cons, h]
  · rw [if_neg h]; simp [List.filter_cons, h]
theorem add_one {w : List Int} {g : Int} (h : w.length ≤ 1000) : opAdd (dW w) (.tup [.int g]) = some (dW (w ++ [g])) := add_tup (f := D.int) (xs := w) (ys := [g]) (by simp; omega)
theorem dir_ok {n : Nat} (h1 : 1 ≤ n) (hn : n ≤ 8) : F_directed_terraces [.int n] = some (.lst ((ter n).map dW), [.int n]) := by
  refine run_fz ?_
  show OkS B_directed_terraces [some (.int n), none, none, none, none, none, none] _
  refine okS_seq (okS_asg (okE_lift (d := .lst ((levT n 0).map dW)) (eLst_of (xs := [dW [0]]) (eCons_of (eTup_of (xs := [.int 0]) (eCons_of rfl rfl) (szL (by simp))) rfl) (szL (by simp))) ⟨by simp, _, rfl, ?_⟩))
  refine okS_seq (okS_for (fun i : Nat => D.int i) (List.range (n - 1)) (fun done s => ∃ a2 a3 a4 a5 a6, s = [some (.int n), some (.lst ((levT n done.length).map dW)), a2, a3, a4, a5, a6]) ?_ ?_ ?_)
  · refine okL_lift (eRg_of (xs := [.int (n - 1 : Nat)]) (eCons_of (eBin_of rfl rfl ?_) rfl) (opR1_nat (by omega))) ⟨rfl, none, none, none, none, none, rfl⟩
    show some (D.int ((n : Int) - 1)) = _
    rw [sub1 h1]
  · rintro done r rest s e ⟨a2, a3, a4, a5, a6, rfl⟩
    obtain ⟨_, hr, hrl⟩ := range_next e
    have hll := lev_len n done.length
    have hpw := pow_le (n := n) (r := done.length) hn (by omega)
    refine ⟨_, rfl, ?_⟩
    refine okS_seq (okS_asg (okE_lift rfl ⟨by simp, _, rfl, ?_⟩))
    refine okS_seq (okS_for dW (levT n done.length) (fun dn s => ∃ a4 a5 a6, s = [some (.int n), some (.lst ((levT n done.length).map dW)), some (.int r), some (.lst ((dn.flatMap (kidsT n)).map dW)), a4, a5, a6]) ?_ ?_ ?_)
    · exact okL_lift (eSq_of rfl rfl) ⟨rfl, a4, a5, a6, rfl⟩
    · rintro dn w rs s e2 ⟨a4, a5, a6, rfl⟩
      have hw : w ∈ levT n done.length := by rw [e2]; simp
      have hwl := row_len hw
      have hdn : dn.length ≤ 2097152 := by have := congrArg List.length e2; simp at this; omega
      have hfl := flat_kids n dn
      have hm : dn.length * n ≤ 2097152 * 7 + dn.length := by
        have : dn.length * n ≤ dn.length * 8 := Nat.mul_le_mul_left _ hn
        omega
      have hdn2 : dn.length + 1 ≤ (levT n done.length).length := by have := congrArg List.length e2; simp at this; omega
      have hm2 : dn.length * n ≤ 2097152 * 7 := by
        have h7 : n ^ done.length ≤ 8 ^ 6 := Nat.le_trans (Nat.pow_le_pow_left hn _) (Nat.pow_le_pow_right (by decide) (by omega))
        have : dn.length * n ≤ 8 ^ 6 * 8 := Nat.mul_le_mul (by omega) hn
        omega
      refine ⟨_, rfl, ?_⟩
      refine okS_seq (okS_asg (okE_lift (eCall_of rfl (steps_ok h1 (by omega))) ⟨by simp, _, rfl, ?_⟩))
      refine okS_for (fun i : Nat => D.int i) (List.range n) (fun db s => ∃ a6, s = [some (.int n), some (.lst ((levT n done.length).map dW)), some (.int r), some (.lst ((dn.flatMap (kidsT n) ++ (db.filter (okT n w)).map fun g : Nat => w ++ [(g : Int)]).map dW)), some (dW w), some (.lst ((steps n w).map .int)), a6]) ?_ ?_ ?_
      · refine okL_lift (eRg_of (xs := [.int (n : Nat)]) (eCons_of rfl rfl) (opR1_nat (by omega))) ⟨rfl, a6, ?_⟩
        simp only [List.filter_nil, List.map_nil, List.append_nil]
        rfl
      · rintro db b rb s e3 ⟨a6, rfl⟩
        obtain ⟨_, hb, hbl⟩ := range_next e3
        refine ⟨_, rfl, okS_if (okB_lift (okT_test (n := n) (w := w) (g := b) rfl rfl (eBin_of (eBin_of (y := .int (lastI w)) rfl (eBin_of rfl rfl (last_ix (row_ne hw))) rfl) rfl (mod_nat h1)) rfl (opNi_lst eqs_int (by decide) _ _)) ?_)⟩
        have hfb : (db.filter (okT n w)).length ≤ 8 := Nat.le_trans (List.length_filter_le ..) (by omega)
        have e9 := kid_snoc (n := n) (w := w) (db := db) (b := b)
        split
        · rename_i hok
          refine okS_meth0 rfl (okL_cons (okE_lift (d := dW (w ++ [(b : Int)])) (eBin_of rfl (eTup_of (eCons_of rfl rfl) (szL (by simp))) (add_one (by omega))) (okL_nil ⟨_, app_map (f := dW) ?_, some (.int b), ?_⟩)))
          · rw [List.length_append, List.length_map]; omega
          · rw [e9, if_pos hok, ← List.append_assoc]; rfl
        · rename_i hok
          refine okS_skip ⟨some (.int b), ?_⟩
          rw [e9, if_neg hok, List.append_nil]; rfl
      · rintro s ⟨a6, rfl⟩
        refine ⟨some (dW w), some (.lst ((steps n w).map .int)), a6, ?_⟩
        rw [List.flatMap_append, List.flatMap_singleton]; rfl
    · rintro s ⟨a4, a5, a6, rfl⟩
      refine ⟨_, rfl, okS_asg (okE_lift rfl ⟨by simp, some (.int r), some (.lst (((levT n done.length).flatMap (kidsT n)).map dW)), a4, a5, a6, ?_⟩)⟩
      rw [List.length_append]; rfl
  · rintro s ⟨a2, a3, a4, a5, a6, rfl⟩
    rw [List.length_range]
    exact ⟨_, rfl, okS_ret (okE_lift rfl (rtEx rfl))⟩
def encT (n : Nat) (w : List Int) : D := .tup [dW w, dW (steps n w)]
theorem lall_ok {n : Nat} (h1 : 1 ≤ n) (hn : n ≤ 8) : F__law_all [.int n] = some (.lst ((ter n).map dW), [.int n]) := by
  refine run_fz ?_
  show OkS B__law_all [some (.int n), none, none, none, none, none, none, none] _
  refine okS_seq (okS_asg (okE_lift (d := .lst ((levT n 0).map (encT n))) (eLst_of (xs := [.tup [.tup [.int 0], .tup []]]) (eCons_of (eTup_of (xs := [.tup [.int 0], .tup []]) (eCons_of (eTup_of (xs := [.int 0]) (eCons_of rfl rfl) (szL (by simp))) (eCons_of (eTup_of (xs := []) rfl (szL (by simp))) rfl)) (szL (by simp))) rfl) (szL (by simp))) ⟨by simp, _, rfl, ?_⟩))
  refine okS_seq (okS_for (fun i : Nat => D.int i) (List.range (n - 1)) (fun done s => ∃ a2 a3 a4 a5 a6 a7, s = [some (.int n), some (.lst ((levT n done.length).map (encT n))), a2, a3, a4, a5, a6, a7]) ?_ ?_ ?_)
  · refine okL_lift (eRg_of (xs := [.int (n - 1 : Nat)]) (eCons_of (eBin_of rfl rfl ?_) rfl) (opR1_nat (by omega))) ⟨rfl, none, none, none, none, none, none, rfl⟩
    show some (D.int ((n : Int) - 1)) = _
    rw [sub1 h1]
  · rintro done r rest s e ⟨a2, a3, a4, a5, a6, a7, rfl⟩
    obtain ⟨_, hr, hrl⟩ := range_next e
    have hll := lev_len n done.length
    have hpw := pow_le (n := n) (r := done.length) hn (by omega)
    refine ⟨_, rfl, ?_⟩
    refine okS_seq (okS_asg (okE_lift rfl ⟨by simp, _, rfl, ?_⟩))
    refine okS_seq (okS_for (encT n) (levT n done.length) (fun dn s => ∃ a4 a5 a6 a7, s = [some (.int n), some (.lst ((levT n done.length).map (encT n))), some (.int r), some (.lst ((dn.flatMap (kidsT n)).map (encT n))), a4, a5, a6, a7]) ?_ ?_ ?_)
    · exact okL_lift (eSq_of rfl rfl) ⟨rfl, a4, a5, a6, a7, rfl⟩
    · rintro dn w rs s e2 ⟨a4, a5, a6, a7, rfl⟩
      have hw : w ∈ levT n done.length := by rw [e2]; simp
      have hwl := row_len hw
      have hsl : (steps n w).length ≤ 8 := by
        unfold steps
        rw [List.length_map, List.length_zip]; omega
      have hfl := flat_kids n dn
      have hdn2 : dn.length + 1 ≤ (levT n done.length).length := by have := congrArg List.length e2; simp at this; omega
      have hm2 : dn.length * n ≤ 2097152 * 7 := by
        have h7 : n ^ done.length ≤ 8 ^ 6 := Nat.le_trans (Nat.pow_le_pow_left hn _) (Nat.pow_le_pow_right (by decide) (by omega))
        have : dn.length * n ≤ 8 ^ 6 * 8 := Nat.mul_le_mul (by omega) hn
        omega
      refine ⟨_, rfl, ?_⟩
      refine okS_for (fun i : Nat => D.int i) (List.range n) (fun db s => ∃ a6 a7, s = [some (.int n), some (.lst ((levT n done.length).map (encT n))), some (.int r), some (.lst ((dn.flatMap (kidsT n) ++ (db.filter (okT n w)).map fun g : Nat => w ++ [(g : Int)]).map (encT n))), some (dW w), some (dW (steps n w)), a6, a7]) ?_ ?_ ?_
      · refine okL_lift (eRg_of (xs := [.int (n : Nat)]) (eCons_of rfl rfl) (opR1_nat (by omega))) ⟨rfl, a6, a7, ?_⟩
        simp only [List.filter_nil, List.map_nil, List.append_nil]
        rfl
      · rintro db b rb s e3 ⟨a6, a7, rfl⟩
        obtain ⟨_, hb, hbl⟩ := range_next e3
        refine ⟨_, rfl, okS_seq (okS_asg (okE_lift (d := .int (((b : Int) - lastI w) % n)) (eBin_of (eN_of (as := [.int ((b : Int) - lastI w)]) (eCons_of (eBin_of (y := .int (lastI w)) rfl (eBin_of rfl rfl (last_ix (row_ne hw))) rfl) rfl) rfl) rfl (mod_nat h1)) ⟨by simp, _, rfl, ?_⟩))⟩
        refine okS_if (okB_lift (okT_test (n := n) (w := w) (g := b) rfl rfl rfl rfl (opNi_tup eqs_int (by decide) _ _)) ?_)
        have hfb : (db.filter (okT n w)).length ≤ 8 := Nat.le_trans (List.length_filter_le ..) (by omega)
        have e9 := kid_snoc (n := n) (w := w) (db := db) (b := b)
        split
        · rename_i hok
          refine okS_meth0 rfl (okL_cons (okE_lift (d := encT n (w ++ [(b : Int)])) (eTup_of (eCons_of (eBin_of rfl (eTup_of (eCons_of rfl rfl) (szL (by simp))) (add_one (by omega))) (eCons_of (eBin_of rfl (eTup_of (eCons_of rfl rfl) (szL (by simp))) ?_) rfl)) (szL (by simp))) (okL_nil ⟨_, app_map (f := encT n) ?_, some (.int b), some (.int (((b : Int) - lastI w) % n)), ?_⟩)))
          · rw [steps_snoc n w b (row_ne hw)]
            exact add_one (by omega)
          · rw [List.length_append, List.length_map]; omega
          · rw [e9, if_pos hok, ← List.append_assoc]; rfl
        · rename_i hok
          refine okS_skip ⟨some (.int b), some (.int (((b : Int) - lastI w) % n)), ?_⟩
          rw [e9, if_neg hok, List.append_nil]; rfl
      · rintro s ⟨a6, a7, rfl⟩
        refine ⟨some (dW w), some (dW (steps n w)), a6, a7, ?_⟩
        rw [List.flatMap_append, List.flatMap_singleton]; rfl
    · rintro s ⟨a4, a5, a6, a7, rfl⟩
      refine ⟨_, rfl, okS_asg (okE_lift rfl ⟨by simp, some (.int r), some (.lst (((levT n done.length).flatMap (kidsT n)).map (encT n))), a4, a5, a6, a7, ?_⟩)⟩
      rw [List.length_append]; rfl
  · rintro s ⟨a2, a3, a4, a5, a6, a7, rfl⟩
    rw [List.length_range]
    have hll := lev_len n (n - 1)
    have hpw := pow_le (n := n) (r := n - 1) hn (by omega)
    refine ⟨_, rfl, okS_ret (okE_lift (d := .lst ((ter n).map dW)) (eN_of (eCons_of (pd_lcm (encT n) dW (xs := ter n) (eSq_of rfl rfl) (fun w hw => ⟨_, rfl, rfl, rfl⟩) (szL (by unfold ter; omega))) rfl) ?_) (rtEx rfl))⟩
    have := opSorted_rows (ter n) fun w hw => row_ne hw
    rw [show (ter n).mergeSort leR' = ter n from sort_id (lev_pw n (n - 1))] at this
    exact this
set_option maxHeartbeats 1000000
open PySem PySem.Spec PyProof.Rows L2 Dw
theorem dups_nodup {α : Type} [BEq α] [LawfulBEq α] : ∀ {r : List α}, r.Nodup → r.eraseDups = r
  | [], _ => rfl
  | x :: r, h => by
    rw [List.nodup_cons] at h
    rw [List.eraseDups_cons]
    have : (r.filter fun b => !b == x) = r := List.filter_eq_self.mpr fun b hb => by
      have : b ≠ x := fun e => h.1 (e ▸ hb)
      simpa using this
    rw [this]
    congr 1
    exact dups_nodup h.2
theorem rowsD_map : ∀ P : List (List Int), rowsD (P.map dW) = some P
  | [] => rfl
  | x :: P => by
    show ((intsD (x.map .int)).bind fun r => (rowsD (P.map dW)).map (r :: ·)) = _
    rw [intsD_map, rowsD_map P]; rfl
theorem set_rows {P : List (List Int)} (nd : P.Nodup) (hl : P.length < 64) : opLenSet (.lst (P.map dW)) = some (.int P.length) := by
  cases P with
  | nil => rfl
  | cons x P =>
    have e : opLenSet (.lst ((x :: P).map dW)) = (rowsD ((x :: P).map dW)).bind fun rs => if rs.length < 64 then some (.int rs.eraseDups.length) else none := rfl
    rw [e, rowsD_map, Option.bind_some, if_pos hl, dups_nodup nd]
theorem sq_ok {w : List Int} (h0 : 1 ≤ w.length) (hl : w.length ≤ 1000) : F_terrace_square [dW w] = some (.tup ((sqOf w).map dW), [dW w]) := by
  refine run_fz ?_
  show OkS B_terrace_square [some (dW w), none, none, none] _
  refine okS_seq (okS_asg (okE_lift (d := .int w.length) (eN_of (eCons_of rfl rfl) (len_tup w)) ⟨by simp, _, rfl, ?_⟩))
  refine okS_ret (okE_lift (d := .tup ((sqOf w).map dW)) (eN_of (eCons_of (pd_lc1 D.int (fun a => dW (w.map fun b => (a + b) % (w.length : Int))) (xs := w) (by simp) (eSq_of rfl rfl) (fun a _ => eN_of (eCons_of (pd_lc1 D.int (fun b => D.int ((a + b) % (w.length : Int))) (xs := w) (by simp) (eSq_of rfl rfl) (fun b _ => eBin_of (eBin_of rfl rfl rfl) rfl (mod_nat h0)) (szL (by omega))) rfl) ?_) (szL (by omega))) rfl) ?_) (rtEx rfl))
  · show some (D.tup _) = _
    unfold dW; rw [List.map_map]; rfl
  · show some (D.tup _) = _
    unfold sqOf; rw [List.map_map]; rfl
theorem nbR_len (r : List Int) : (nbR r).length = r.length - 1 := by
  unfold nbR
  rw [List.length_map, List.length_zip, List.length_drop]; omega
theorem nb_len {k : Nat} : ∀ {M : List (List Int)}, (∀ r ∈ M, r.length ≤ k + 1) → (nb M).length ≤ M.length * k
  | [], _ => Nat.zero_le _
  | r :: M, h => by
    have ih := nb_len (k := k) (M := M) fun r hr => h r (List.mem_cons_of_mem _ hr)
    have h1 := h r List.mem_cons_self
    unfold nb at ih ⊢
    rw [List.flatMap_cons, List.length_append, nbR_len, List.length_cons, Nat.succ_mul]; omega
theorem nb_ok {M : List (List Int)} (h : ∀ r ∈ M, r.length ≤ 1000 + 1) (hl : M.length ≤ 1000) : F_neighbours_of [.tup (M.map dW)] = some (.lst ((nb M).map dW), [.tup (M.map dW)]) := by
  refine run_fz ?_
  show OkS B_neighbours_of [some (.tup (M.map dW)), none, none] _
  refine okS_seq (okS_asg (okE_lift (d := .lst []) (eLst_of rfl (szL (by simp))) ⟨by simp, _, rfl, ?_⟩))
  refine okS_seq (okS_for dW M (fun done s => ∃ a2, s = [some (.tup (M.map dW)), some (.lst ((nb done).map dW)), a2]) ?_ ?_ ?_)
  · exact okL_lift (eSq_of rfl rfl) ⟨rfl, none, rfl⟩
  · rintro done r rest s e ⟨a2, rfl⟩
    have hd : done.length + 1 ≤ 1000 := by have := congrArg List.length e; simp at this; omega
    have h1 := nb_len (k := 1000) (M := done) fun r hr => h r (by rw [e]; exact List.mem_append_left _ hr)
    have h2 := h r (by rw [e]; simp)
    have h3 : done.length * 1000 ≤ 1000 * 1000 := Nat.mul_le_mul (by omega) (Nat.le_refl _)
    refine ⟨_, rfl, okS_asg (okE_lift (d := .lst ((nb (done ++ [r])).map dW)) (eBin_of (y := .lst ((nbR r).map dW)) rfl (eN_of (as := [dW r, dW (r.drop 1)]) (eCons_of rfl (eCons_of (eSl_of (gh := oNone) (hi := none) (lo := some 1) rfl rfl rfl (drop1 r)) rfl)) ?_) ?_) ⟨by simp, some (dW r), rfl⟩)⟩
    · show some (D.lst (zipT _ _)) = _
      rw [zip_row]; unfold nbR; rw [List.map_map]; rfl
    · have := add_lst (f := dW) (xs := nb done) (ys := nbR r) (by rw [nbR_len]; omega)
      rw [this]; unfold nb; rw [List.flatMap_append, List.flatMap_singleton]
  · rintro s ⟨a2, rfl⟩
    exact ⟨_, rfl, okS_ret (okE_lift rfl (rtEx rfl))⟩
theorem row_ok {M : List (List Int)} (h : ∀ r ∈ M, r.length ≤ 1000 + 1) (hl : M.length ≤ 1000) (nd : (nb M).Nodup) (h64 : (nb M).length < 64) : F_is_row_complete [.tup (M.map dW)] = some (.bl true, [.tup (M.map dW)]) := by
  refine run_fz ?_
  show OkS B_is_row_complete [some (.tup (M.map dW)), none] _
  refine okS_seq (okS_asg (okE_lift (eCall_of rfl (nb_ok h hl)) ⟨by simp, _, rfl, ?_⟩))
  refine okS_ret (okE_lift (d := .bl true) (eBin_of (eUn_of rfl (set_rows nd h64)) (eN_of (eCons_of rfl rfl) (len_lst _)) ?_) (rtEx rfl))
  rw [opEq_enc eqs_int (by decide)]; simp
theorem eight {n : Nat} (h1 : 1 ≤ n) (hn : n ≤ 8) : n = 1 ∨ n = 2 ∨ n = 3 ∨ n = 4 ∨ n = 5 ∨ n = 6 ∨ n = 7 ∨ n = 8 := by omega
theorem pos_ok {n : Nat} (h1 : 1 ≤ n) (hn : n ≤ 8) : decide (0 < (ter n).length) = (decide (n % 2 = 0) || decide (n = 1)) := by
  rcases eight h1 hn with rfl | rfl | rfl | rfl | rfl | rfl | rfl | rfl
  · rw [l_1]; rfl
  · rw [l_2]; rfl
  · rw [l_3]; rfl
  · rw [l_4]; rfl
  · rw [l_5]; rfl
  · rw [l_6]; rfl
  · rw [l_7]; rfl
  · rw [l_8]; rfl
theorem dct_ok {n : Nat} (h1 : 1 ≤ n) (hn : n ≤ 8) (h : ter n ≠ []) : opIx (.dct false [.int 1, .int 2, .int 4, .int 6, .int 8] [.int 1, .int 1, .int 2, .int 4, .int 24]) (.int n) = some (.int (ter n).length) := by
  have hp := List.length_pos_iff.mpr h
  rcases eight h1 hn with rfl | rfl | rfl | rfl | rfl | rfl | rfl | rfl
  · rw [l_1]; rfl
  · rw [l_2]; rfl
  · rw [l_3] at hp; exact absurd hp (by decide)
  · rw [l_4]; rfl
  · rw [l_5] at hp; exact absurd hp (by decide)
  · rw [l_6]; rfl
  · rw [l_7] at hp; exact absurd hp (by decide)
  · rw [l_8]; rfl
theorem good_ok {n : Nat} (h1 : 1 ≤ n) (hn : n ≤ 8) (h : ter n ≠ []) : goodT n = true := by
  have hp := List.length_pos_iff.mpr h
  rcases eight h1 hn with rfl | rfl | rfl | rfl | rfl | rfl | rfl | rfl
  · exact g_1
  · exact g_2
  · rw [l_3] at hp; exact absurd hp (by decide)
  · exact g_4
  · rw [l_5] at hp; exact absurd hp (by decide)
  · exact g_6
  · rw [l_7] at hp; exact absurd hp (by decide)
  · exact g_8
theorem par_ok {n : Nat} {s : Ev} (h1 : 1 ≤ n) (hn : n ≤ 8) (hv : eVar 2 s = some (.int n)) : eOrV (eBin opEq (eBin opMod (eN opInt (eCons (eVar 2) eNil)) (eC (.int 2))) (eC (.int 0))) (eBin opEq (eVar 2) (eC (.int 1))) s = some (.bl (decide (0 < (ter n).length))) := by
  rw [pos_ok h1 hn]
  refine eOrV_of (k := decide (n % 2 = 0)) (x := .bl (decide (n % 2 = 0))) (eBin_of (eBin_of (eN_of (eCons_of hv rfl) rfl) rfl rfl) rfl ?_) rfl (fun h => eBin_of hv rfl ?_) fun h => ?_
  · show some (D.bl ((n : Int) % 2 == 0)) = _
    congr 2
    rw [Bool.eq_iff_iff]; simp; omega
  · rw [h]
    show some (D.bl ((n : Int) == 1)) = _
    congr 2
    rw [Bool.eq_iff_iff]; simp; omega
  · rw [h]; rfl
theorem main : ∀ ns : List Int, ns.length ≤ 63 → ∃ q, S_law.F [.frz ns] = some (.bl true, q) := by
  intro ns hl
  obtain ⟨d, hd, hi⟩ := st_ok ns hl
  have hst : eCall F__law_state (eCons (eVar 0) eNil) [some (.frz ns), none, none, none, none, none] = some d := eCall_of rfl hd
  have key : ∃ s, F_law [.frz ns] = some (.bl true, s) := by
    obtain ⟨z, q, e, rfl⟩ := run_ok (ps := [.fz 0]) (n := 6) (F0 := B_law) (ds := [.frz ns]) (P := fun z _ => z = .bl true) (by
      show OkS B_law [some (.frz ns), none, none, none, none, none] _
      refine okS_seq (okS_asg (okE_lift hst ⟨by simp, _, rfl, ?_⟩))
      refine okS_seq (okS_asg (okE_bin (okE_lift rfl (okE_draw rfl hi rfl (by decide) (by decide) fun a d1 ha hi1 => ⟨_, rfl, by simp, _, rfl, ?_⟩))))
      obtain ⟨n, hn⟩ : ∃ n : Nat, n = 1 + a := ⟨_, rfl⟩
      have n1 : 1 ≤ n := by omega
      have n8 : n ≤ 8 := by omega
      have e3 : (1 : Int) + (a : Int) = (n : Nat) := by omega
      rw [show D.int (1 + (a : Int)) = D.int (n : Nat) by rw [e3]]
      have htl : (ter n).length ≤ 2097152 := Nat.le_trans (lev_len n (n - 1)) (pow_le n8 (by omega))
      refine okS_seq (okS_asg (okE_lift (eCall_of rfl (lall_ok n1 n8)) ⟨by simp, _, rfl, ?_⟩))
      refine okS_seq (okS_asg (okE_lift (eCall_of rfl (dir_ok n1 n8)) ⟨by simp, _, rfl, ?_⟩))
      show OkS _ [some (.frz ns), some d1, some (.int n), some (.lst ((ter n).map dW)), some (.lst ((ter n).map dW)), none] _
      refine okS_guard (b := false) (eOr_of (b := false) (eNot_of (b := true) (eT_of (x := .bl true) (eUn_of rfl rfl) rfl)) fun _ => eOr_of (b := false) (eT_of (x := .bl false) (eBin_of rfl rfl ?_) rfl) fun _ => eT_of (x := .bl false) (eBin_of (x := .bl (decide (0 < (ter n).length))) (eBin_of (x := .int (ter n).length) (eN_of (eCons_of rfl rfl) (len_lst _)) rfl ?_) (par_ok n1 n8 rfl) ?_) rfl) (fun h => nomatch h) fun _ => ?_
      · rw [opNe_enc eqs_lW (by decide)]; simp
      · show some (D.bl (decide ((0 : Int) < (ter n).length))) = _
        congr 2
        rw [Bool.eq_iff_iff]; simp only [decide_eq_true_eq]; omega
      · rw [opNe_enc eqs_bl (by decide)]; simp
      refine okS_guard (b := decide ((ter n).length = 0)) (eT_of (x := .bl (decide ((ter n).length = 0))) (eBin_of (x := .int (ter n).length) (eN_of (eCons_of rfl rfl) (len_lst _)) rfl ?_) rfl) (fun _ => ⟨_, rfl, rfl⟩) fun h => ?_
      · show some (D.bl (((ter n).length : Int) == 0)) = _
        congr 2
        rw [Bool.eq_iff_iff]; simp
      have hpos : 0 < (ter n).length := by have := of_decide_eq_false h; omega
      have hne := List.length_pos_iff.mp hpos
      refine okS_seq (okS_asg (okE_bin (okE_lift rfl (okE_draw (m := ((ter n).length : Int)) rfl hi1 (eN_of (eCons_of rfl rfl) (len_lst _)) (by omega) (by omega) fun k d2 hk hi2 => ?_))))
      have hk2 : k < (ter n).length := by omega
      obtain ⟨w, hw⟩ : ∃ w, (ter n)[k]? = some w := ⟨_, List.getElem?_eq_getElem hk2⟩
      have hwm := List.mem_of_getElem? hw
      have hwl := row_len (r := n - 1) hwm
      refine ⟨_, ix_lst_nat (f := dW) hw, by simp, _, rfl, ?_⟩
      have hM : ∀ r ∈ sqOf w, r.length = n := fun r hr => by
        obtain ⟨x, _, rfl⟩ := List.mem_map.mp hr
        rw [List.length_map]; omega
      have hMl : (sqOf w).length = n := by unfold sqOf; rw [List.length_map]; omega
      have h64 := nb_len (k := n - 1) (M := sqOf w) fun r hr => by rw [hM r hr]; omega
      have h56 : (sqOf w).length * (n - 1) ≤ 8 * 7 := Nat.mul_le_mul (by omega) (by omega)
      have hg := List.all_eq_true.mp (good_ok n1 n8 hne) w hwm
      refine okS_ret (okE_lift (d := .bl true) (eAndV_of (k := true) (x := .bl true) (eBin_of (eCall_of (eCons_of (eCall_of rfl (sq_ok (by omega) (by omega))) rfl) (row_ok (fun r hr => by rw [hM r hr]; omega) (by omega) (chkC_nodup hg).2 (by omega))) rfl rfl) rfl (fun _ => eBin_of (eN_of (eCons_of rfl rfl) (len_lst _)) (eBin_of rfl rfl (dct_ok n1 n8 hne)) ?_) fun h => nomatch h) rfl)
      rw [opEq_enc eqs_int (by decide)]; simp)
    exact ⟨q, e⟩
  exact key
end K22
open PySem PySem.W PyProof.Rows
set_option maxHeartbeats 0 in
theorem PySem.Challenge.cw_designweave_k22_whole_directed_terraces_holds : PySem.Challenge.rw_designweave_k22_whole_directed_terraces.Holds := by
  w_on; o_law; k_head; (case hw => w_witness2)
  k_fill
  refine L2.walk_of (l := PySem.Challenge.rw_designweave_k22_whole_directed_terraces) (n := 63) (k := 3) (x := "script") (CX := fun _ => L2.CX0) (sp := fun w => Dw.spD _ K22.S_law) rfl (by decide) rfl ⟨rfl, by decide, by decide⟩ (fun w h Y => PySem.W.kIn_of Y) ?F (fun _ H a ns hl O hS => Dw.law_end rfl K22.main H a ns hl O hS) (fun _ _ _ _ _ h => h)
  case F =>
    intro w mg fa h KX G hmg
    have D__law_state : Dw.Dfn (L2.KOf KX) mg "_law_state" K22.s__law_state ["script"] := by
      refine' Dw.dfn_mk KX G ?a ?l ?c ?k (fun _ _ _ _ _ _ us hl => match us, hl with | [_], _ => rfl)
      (case a => k_is); (case l => k_is); (case c => k_is); (case k => k_is)
    have D__law_draw : Dw.Dfn (L2.KOf KX) mg "_law_draw" K22.s__law_draw ["state", "many"] := by
      refine' Dw.dfn_mk KX G ?a ?l ?c ?k (fun _ _ _ _ _ _ us hl => match us, hl with | [_, _], _ => rfl)
      (case a => k_is); (case l => k_is); (case c => k_is); (case k => k_is)
    have D__law_all : Dw.Dfn (L2.KOf KX) mg "_law_all" K22.s__law_all ["n"] := by
      refine' Dw.dfn_mk KX G ?a ?l ?c ?k (fun _ _ _ _ _ _ us hl => match us, hl with | [_], _ => rfl)
      (case a => k_is); (case l => k_is); (case c => k_is); (case k => k_is)
    have D_steps_of : Dw.Dfn (L2.KOf KX) mg "steps_of" K22.s_steps_of ["n", "row"] := by
      refine' Dw.dfn_mk KX G ?a ?l ?c ?k (fun _ _ _ _ _ _ us hl => match us, hl with | [_, _], _ => rfl)
      (case a => k_is); (case l => k_is); (case c => k_is); (case k => k_is)
    have D_directed_terraces : Dw.Dfn (L2.KOf KX) mg "directed_terraces" K22.s_directed_terraces ["n"] := by
      refine' Dw.dfn_mk KX G ?a ?l ?c ?k (fun _ _ _ _ _ _ us hl => match us, hl with | [_], _ => rfl)
      (case a => k_is); (case l => k_is); (case c => k_is); (case k => k_is)
    have D_terrace_square : Dw.Dfn (L2.KOf KX) mg "terrace_square" K22.s_terrace_square ["row"] := by
      refine' Dw.dfn_mk KX G ?a ?l ?c ?k (fun _ _ _ _ _ _ us hl => match us, hl with | [_], _ => rfl)
      (case a => k_is); (case l => k_is); (case c => k_is); (case k => k_is)
    have D_neighbours_of : Dw.Dfn (L2.KOf KX) mg "neighbours_of" K22.s_neighbours_of ["square"] := by
      refine' Dw.dfn_mk KX G ?a ?l ?c ?k (fun _ _ _ _ _ _ us hl => match us, hl with | [_], _ => rfl)
      (case a => k_is); (case l => k_is); (case c => k_is); (case k => k_is)
    have D_is_row_complete : Dw.Dfn (L2.KOf KX) mg "is_row_complete" K22.s_is_row_complete ["square"] := by
      refine' Dw.dfn_mk KX G ?a ?l ?c ?k (fun _ _ _ _ _ _ us hl => match us, hl with | [_], _ => rfl)
      (case a => k_is); (case l => k_is); (case c => k_is); (case k => k_is)
    have z_abs : mg "abs" = none := by
      refine' PySem.W.mg_none_of KX G ?z
      (case z => k_is)
    have z_int : mg "int" = none := by
      refine' PySem.W.mg_none_of KX G ?z
      (case z => k_is)
    have z_isinstance : mg "isinstance" = none := by
      refine' PySem.W.mg_none_of KX G ?z
      (case z => k_is)
    have z_len : mg "len" = none := by
      refine' PySem.W.mg_none_of KX G ?z
      (case z => k_is)
    have z_list : mg "list" = none := by
      refine' PySem.W.mg_none_of KX G ?z
      (case z => k_is)
    have z_range : mg "range" = none := by
      refine' PySem.W.mg_none_of KX G ?z
      (case z => k_is)
    have z_set : mg "set" = none := by
      refine' PySem.W.mg_none_of KX G ?z
      (case z => k_is)
    have z_sorted : mg "sorted" = none := by
      refine' PySem.W.mg_none_of KX G ?z
      (case z => k_is)
    have z_tuple : mg "tuple" = none := by
      refine' PySem.W.mg_none_of KX G ?z
      (case z => k_is)
    have z_zip : mg "zip" = none := by
      refine' PySem.W.mg_none_of KX G ?z
      (case z => k_is)
    refine' Dw.all_law (S := K22.S_law) (st := K22.s_law) KX G hmg ?a ?l ?c ?k (fun _ _ _ _ _ _ _ => rfl) (fun base _ _ fd F => K22.all_ok ⟨z_abs, z_int, z_isinstance, z_len, z_list, z_range, z_set, z_sorted, z_tuple, z_zip⟩ D__law_state D__law_draw D__law_all D_steps_of D_directed_terraces D_terrace_square D_neighbours_of D_is_row_complete F)
    (case a => k_is); (case l => k_is); (case c => k_is); (case k => k_is)
