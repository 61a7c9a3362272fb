import PyProof.Rows.All
import Wide.All
import OpenK.AllK
import Wide.FinOn
import HandS.ForMost
import HandS.ForExc
import HandS.Evl
import HandS.Zip
import HandS.TupAny
import HandS.NoneIn
import HandS.IsInst
import HandS.Wide
import HandS.Conv
import HandS.Deep
import KE.GoesZip
import KE.GoesEnum
import KE.GoesMore
import HandS.SortRule
import HandS.TupLe
import HandS.More
import HandS.Style
import PySem.Challenge.RW_loandesks_k32_whole_rules_that_are_alike
set_option Elab.async false
set_option linter.all false
set_option maxRecDepth 100000
section
/-! the layer: trees of owned objects over frozen data -/
namespace DP
open PySem PySem.Spec PyProof.Rows L2
abbrev Frag := PySem.W.Frag
/-- the kind of an owned object -/
inductive Shp where
  | lst | tup
  | dic (ks : List Key)
  | ins (C : Addr) (fs : List Str)
def Shp.ho : Shp → List V → HO → Prop
  | .lst, vs, h => h = .lst vs
  | .tup, vs, h => h = .tup vs
  | .dic ks, vs, h => ks.length = vs.length ∧ h = .dK (ks.zip vs)
  | .ins C fs, vs, h => fs.length = vs.length ∧ ∃ dx, h = .ins C dx (fs.zip vs)
/-- frozen data, or an owned object -/
inductive O where
  | any
  | dat (d : PyData)
  | node (s : Shp) (xs : List O)
mutual
/-- frozen data; a list that is only read (the law's script) is a dict that holds it -/
inductive DR (K : Frag) (H : Hp) : V → PyData → Prop
  | non : DR K H .non .none
  | bl (b : Bool) : DR K H (.bl b) (.bool b)
  | int (i : Int) : DR K H (.int i) (.int i)
  | str (x : Str) : DR K H (.str x) (.str x)
  | lst {a : Addr} {xs : List V} {ds : List PyData} : H a = some (.lst xs) → DRs K H xs ds → DR K H (.ref a) (.list ds)
  | tup {a : Addr} {xs : List V} {ds : List PyData} : SqT K H a xs → DRs K H xs ds → DR K H (.ref a) (.tuple ds)
  | ro {a : Addr} {xs : List V} {ds : List PyData} : SqL K H a xs → DRs K H xs ds → DR K H (.ref a) (.dict [(.list ds, .none)])
inductive DRs (K : Frag) (H : Hp) : List V → List PyData → Prop
  | nil : DRs K H [] []
  | cons {v : V} {vs : List V} {d : PyData} {ds : List PyData} : DR K H v d → DRs K H vs ds → DRs K H (v :: vs) (d :: ds)
end
mutual
inductive RO (K : Frag) (F H : Hp) : O → V → List Addr → Prop
  | any {v : V} : RO K F H .any v []
  | dat {d : PyData} {v : V} : DR K F v d → RO K F H (.dat d) v []
  | node {s : Shp} {xs : List O} {p : Addr} {vs : List V} {h : HO} {fp : List Addr} : F p = none → H p = some h → s.ho vs h → ROs K F H xs vs fp → RO K F H (.node s xs) (.ref p) (p :: fp)
inductive ROs (K : Frag) (F H : Hp) : List O → List V → List Addr → Prop
  | nil : ROs K F H [] [] []
  | cons {x : O} {v : V} {f1 : List Addr} {xs : List O} {vs : List V} {f2 : List Addr} : RO K F H x v f1 → ROs K F H xs vs f2 → ROs K F H (x :: xs) (v :: vs) (f1 ++ f2)
end
/-- all that H has, H' has -/
def Ex (H H' : Hp) : Prop := ∀ a o, H a = some o → H' a = some o
theorem Ex.refl (H : Hp) : Ex H H := fun _ _ h => h
theorem Ex.trans {H H1 H2 : Hp} (a : Ex H H1) (b : Ex H1 H2) : Ex H H2 := fun x o h => b x o (a x o h)
theorem Ex.new {H : Hp} {p : Addr} {o : HO} (h : H p = none) : Ex H (upd H p o) := fun a u e => by
  rw [upd_ne (ne_of_none e h)]
  exact e
theorem Ex.free {H H' : Hp} (e : Ex H H') {l : Addr} (h : H' l = none) : H l = none := by
  cases q : H l with
  | none => rfl
  | some o => rw [e l o q] at h; cases h
theorem Ex.rd {H H' : Hp} (e : Ex H H') {a : Addr} {u : HO} (h : Rd H a u) : Rd H' a u := by
  rcases h with h | ⟨o, h⟩
  · exact .inl (e a _ h)
  · exact .inr ⟨o, e a _ h⟩
theorem Ex.l {K : Frag} {H H' : Hp} (e : Ex H H') {a : Addr} {xs : List V} (h : SqL K H a xs) : SqL K H' a xs := by
  rcases h with h | h
  · exact .inl (e.rd h)
  · exact .inr h
theorem Ex.t {K : Frag} {H H' : Hp} (e : Ex H H') {a : Addr} {xs : List V} (h : SqT K H a xs) : SqT K H' a xs := by
  rcases h with h | h
  · exact .inl (e.rd h)
  · exact .inr h
mutual
theorem Ex.dp {K : Frag} {H H' : Hp} (e : Ex H H') : ∀ (d : PyData) (v : V), DR K H v d → DR K H' v d
  | .none, _, h => by cases h; exact .non
  | .bool b, _, h => by cases h; exact .bl b
  | .int i, _, h => by cases h; exact .int i
  | .str x, _, h => by cases h; exact .str x
  | .list ds, _, h => by
    cases h with
    | lst hs ha => exact .lst (e _ _ hs) (Ex.dpAll e ds _ ha)
  | .tuple ds, _, h => by
    cases h with
    | tup hs ha => exact .tup (e.t hs) (Ex.dpAll e ds _ ha)
  | .dict [(.list ds, .none)], _, h => by
    cases h with
    | ro hs ha => exact .ro (e.l hs) (Ex.dpAll e ds _ ha)
theorem Ex.dpAll {K : Frag} {H H' : Hp} (e : Ex H H') : ∀ (ds : List PyData) (vs : List V), DRs K H vs ds → DRs K H' vs ds
  | [], _, h => by cases h; exact .nil
  | d :: ds, _, h => by
    cases h with
    | cons h1 h2 => exact .cons (Ex.dp e d _ h1) (Ex.dpAll e ds _ h2)
end
mutual
/-- as the library's data -/
theorem DR.dp {K : Frag} {H : Hp} : ∀ (d : PyData) (v : V), DR K H v d → d.canLay0 = true → Dp K H v d
  | .none, _, h, _ => by cases h; exact .non
  | .bool b, _, h, _ => by cases h; exact .bl b
  | .int i, _, h, _ => by cases h; exact .int i
  | .str x, _, h, _ => by cases h; exact .str x
  | .list ds, _, h, z => by
    cases h with
    | lst hs ha => exact .lst (SqL.of hs) (DRs.dp ds _ ha (by simpa [PyData.canLay0] using z))
  | .tuple ds, _, h, z => by
    cases h with
    | tup hs ha => exact .tup hs (DRs.dp ds _ ha (by simpa [PyData.canLay0] using z))
  | .dict _, _, h, z => by simp [PyData.canLay0] at z
theorem DRs.dp {K : Frag} {H : Hp} : ∀ (ds : List PyData) (vs : List V), DRs K H vs ds → PyData.canLayAll0 ds = true → DpAll K H vs ds
  | [], _, h, _ => by cases h; exact .nil
  | d :: ds, _, h, z => by
    cases h with
    | cons h1 h2 =>
      have z' : d.canLay0 = true ∧ PyData.canLayAll0 ds = true := by simpa [PyData.canLayAll0] using z
      exact .cons (DR.dp d _ h1 z'.1) (DRs.dp ds _ h2 z'.2)
end
/-- what a tree leans on: the frozen part (may grow, but not at the tree's own places), its own places -/
structure Stay (fp : List Addr) (F H F' H' : Hp) : Prop where
  fz : Ex F F'
  out : ∀ a ∈ fp, F' a = none
  at' : ∀ a ∈ fp, H' a = H a
theorem Stay.left {f1 f2 : List Addr} {F H F' H' : Hp} (s : Stay (f1 ++ f2) F H F' H') : Stay f1 F H F' H' := ⟨s.fz, fun a h => s.out a (List.mem_append_left _ h), fun a h => s.at' a (List.mem_append_left _ h)⟩
theorem Stay.right {f1 f2 : List Addr} {F H F' H' : Hp} (s : Stay (f1 ++ f2) F H F' H') : Stay f2 F H F' H' := ⟨s.fz, fun a h => s.out a (List.mem_append_right _ h), fun a h => s.at' a (List.mem_append_right _ h)⟩
mutual
theorem RO.stay {K : Frag} {F H F' H' : Hp} : ∀ (o : O) (v : V) (fp : List Addr), RO K F H o v fp → Stay fp F H F' H' → RO K F' H' o v fp
  | .any, _, _, h, s => by
    cases h with
    | any => exact .any
  | .dat d, _, _, h, s => by
    cases h with
    | dat h => exact .dat (s.fz.dp d _ h)
  | .node c xs, _, _, h, s => by
    cases h with
    | node h1 h2 h3 h4 =>
      rename_i p vs ho fp
      exact .node (s.out _ List.mem_cons_self) ((s.at' _ List.mem_cons_self).trans h2) h3 (ROs.stay xs _ _ h4 ⟨s.fz, fun a z => s.out a (List.mem_cons_of_mem _ z), fun a z => s.at' a (List.mem_cons_of_mem _ z)⟩)
theorem ROs.stay {K : Frag} {F H F' H' : Hp} : ∀ (os : List O) (vs : List V) (fp : List Addr), ROs K F H os vs fp → Stay fp F H F' H' → ROs K F' H' os vs fp
  | [], _, _, h, _ => by cases h; exact .nil
  | o :: os, _, _, h, s => by
    cases h with
    | cons h1 h2 => exact .cons (RO.stay o _ _ h1 s.left) (ROs.stay os _ _ h2 s.right)
end
mutual
/-- a tree's own places are tracked, and not frozen -/
theorem RO.own {K : Frag} {F H : Hp} : ∀ (o : O) (v : V) (fp : List Addr), RO K F H o v fp → ∀ a ∈ fp, F a = none ∧ ∃ h, H a = some h
  | .any, _, _, h, a, z => by
    cases h with
    | any => cases z
  | .dat d, _, _, h, a, z => by
    cases h with
    | dat h => cases z
  | .node c xs, _, _, h, a, z => by
    cases h with
    | node h1 h2 h3 h4 =>
      rcases List.mem_cons.mp z with e | z
      · subst e; exact ⟨h1, _, h2⟩
      · exact ROs.own xs _ _ h4 a z
theorem ROs.own {K : Frag} {F H : Hp} : ∀ (os : List O) (vs : List V) (fp : List Addr), ROs K F H os vs fp → ∀ a ∈ fp, F a = none ∧ ∃ h, H a = some h
  | [], _, _, h, a, z => by cases h; cases z
  | o :: os, _, _, h, a, z => by
    cases h with
    | cons h1 h2 =>
      rcases List.mem_append.mp z with z | z
      · exact RO.own o _ _ h1 a z
      · exact ROs.own os _ _ h2 a z
end
theorem ROs.length {K : Frag} {F H : Hp} : ∀ {os : List O} {vs : List V} {fp : List Addr}, ROs K F H os vs fp → os.length = vs.length
  | [], _, _, h => by cases h; rfl
  | o :: os, _, _, h => by
    cases h with
    | cons h1 h2 => simp [ROs.length h2]
theorem ROs.app {K : Frag} {F H : Hp} : ∀ {os : List O} {vs : List V} {fp : List Addr} {os' : List O} {vs' : List V} {fp' : List Addr}, ROs K F H os vs fp → ROs K F H os' vs' fp' → ROs K F H (os ++ os') (vs ++ vs') (fp ++ fp')
  | [], _, _, _, _, _, h, h' => by cases h; exact h'
  | o :: os, _, _, _, _, _, h, h' => by
    cases h with
    | cons h1 h2 =>
      rw [List.append_assoc]
      exact .cons h1 (ROs.app h2 h')
theorem ROs.split {K : Frag} {F H : Hp} : ∀ {os os' : List O} {us : List V} {fp : List Addr}, ROs K F H (os ++ os') us fp → ∃ vs vs' f1 f2, us = vs ++ vs' ∧ fp = f1 ++ f2 ∧ ROs K F H os vs f1 ∧ ROs K F H os' vs' f2
  | [], _, us, fp, h => ⟨[], us, [], fp, rfl, rfl, .nil, h⟩
  | o :: os, os', _, _, h => by
    cases h with
    | cons h1 h2 =>
      obtain ⟨vs, vs', f1, f2, e1, e2, a, b⟩ := ROs.split h2
      subst e1 e2
      exact ⟨_ :: vs, vs', _ ++ f1, f2, rfl, (List.append_assoc ..).symm, .cons h1 a, b⟩
theorem ROs.split' {K : Frag} {F H : Hp} {os os' : List O} {vs vs' : List V} {fp : List Addr} (h : ROs K F H (os ++ os') (vs ++ vs') fp) (hl : os.length = vs.length) : ∃ f1 f2, fp = f1 ++ f2 ∧ ROs K F H os vs f1 ∧ ROs K F H os' vs' f2 := by
  obtain ⟨ws, ws', f1, f2, e1, e2, a, b⟩ := h.split
  obtain ⟨e3, e4⟩ := List.append_inj e1 (hl.symm.trans a.length)
  subst e3 e4
  exact ⟨f1, f2, e2, a, b⟩
theorem dpAll_os {K : Frag} {F H : Hp} : ∀ {ds : List PyData} {vs : List V}, DRs K F vs ds → ROs K F H (ds.map .dat) vs []
  | [], _, h => by cases h; exact .nil
  | d :: ds, _, h => by
    cases h with
    | cons h1 h2 => exact .cons (.dat h1) (dpAll_os h2)
/-! ### the frozen form of a tree -/
mutual
def O.toD : O → Option PyData
  | .any => none
  | .dat d => some d
  | .node .lst xs => (O.toDs xs).map .list
  | .node .tup xs => (O.toDs xs).map .tuple
  | .node _ _ => none
def O.toDs : List O → Option (List PyData)
  | [] => some []
  | x :: xs => match x.toD, O.toDs xs with
    | some d, some ds => some (d :: ds)
    | _, _ => none
end
/-- the frozen part with a tree's places in it -/
def frz (F H : Hp) (fp : List Addr) : Hp := fun a => if a ∈ fp then H a else F a
theorem frz_in {F H : Hp} {fp : List Addr} {a : Addr} (h : a ∈ fp) : frz F H fp a = H a := if_pos h
theorem frz_out {F H : Hp} {fp : List Addr} {a : Addr} (h : a ∉ fp) : frz F H fp a = F a := if_neg h
theorem frz_ex {F H : Hp} {fp : List Addr} (h : ∀ a ∈ fp, F a = none) : Ex F (frz F H fp) := fun a o e => by
  by_cases z : a ∈ fp
  · rw [h a z] at e; cases e
  · rw [frz_out z]; exact e
theorem frz_sub {F H : Hp} {fp : List Addr} (h : Ex F H) : Ex (frz F H fp) H := fun a o e => by
  by_cases z : a ∈ fp
  · rw [frz_in z] at e; exact e
  · rw [frz_out z] at e; exact h a o e
mutual
theorem RO.frozen {K : Frag} {F H G : Hp} : ∀ (o : O) (d : PyData) (v : V) (fp : List Addr), RO K F H o v fp → o.toD = some d → Ex F G → (∀ a ∈ fp, G a = H a) → DR K G v d
  | .any, _, _, _, h, e, x, _ => by rw [O.toD] at e; cases e
  | .dat d, _, _, _, h, e, x, _ => by
    cases h with
    | dat h =>
      have e' : d = _ := Option.some.inj e
      subst e'
      exact x.dp _ _ h
  | .node c xs, _, _, _, h, e, x, y => by
    cases h with
    | node h1 h2 h3 h4 =>
      rename_i p vs ho fp
      cases c with
      | lst =>
        rw [O.toD] at e
        cases q : O.toDs xs with
        | none => rw [q] at e; cases e
        | some ds =>
          rw [q] at e
          cases e
          have h3' : ho = .lst vs := h3
          subst h3'
          exact .lst ((y _ List.mem_cons_self).trans h2) (ROs.frozen xs ds _ _ h4 q x fun a z => y a (List.mem_cons_of_mem _ z))
      | tup =>
        rw [O.toD] at e
        cases q : O.toDs xs with
        | none => rw [q] at e; cases e
        | some ds =>
          rw [q] at e
          cases e
          have h3' : ho = .tup vs := h3
          subst h3'
          exact .tup (SqT.of ((y _ List.mem_cons_self).trans h2)) (ROs.frozen xs ds _ _ h4 q x fun a z => y a (List.mem_cons_of_mem _ z))
      | dic ks => rw [O.toD] at e; cases e; all_goals (intro z; cases z)
      | ins C fs => rw [O.toD] at e; cases e; all_goals (intro z; cases z)
theorem ROs.frozen {K : Frag} {F H G : Hp} : ∀ (os : List O) (ds : List PyData) (vs : List V) (fp : List Addr), ROs K F H os vs fp → O.toDs os = some ds → Ex F G → (∀ a ∈ fp, G a = H a) → DRs K G vs ds
  | [], _, _, _, h, e, _, _ => by
    cases h
    rw [O.toDs] at e
    cases e
    exact .nil
  | o :: os, _, _, _, h, e, x, y => by
    cases h with
    | cons h1 h2 =>
      rw [O.toDs] at e
      cases q1 : o.toD with
      | none => rw [q1] at e; cases e
      | some d =>
        cases q2 : O.toDs os with
        | none => rw [q1, q2] at e; cases e
        | some ds =>
          rw [q1, q2] at e
          cases e
          exact .cons (RO.frozen o d _ _ h1 q1 x fun a z => y a (List.mem_append_left _ z)) (ROs.frozen os ds _ _ h2 q2 x fun a z => y a (List.mem_append_right _ z))
end
/-! ### the slots -/
/-- what is known of a slot: nothing; a tree; a tree that the caller handed in and gets back; one such that is away -/
inductive Sl where
  | no
  | v (o : O)
  | io (o : O)
  | mv
/-- may be stored -/
def Sl.w : Sl → Bool
  | .no => true
  | .v _ => true
  | _ => false
abbrev Env := List Sl
inductive REnv (K : Frag) (F H : Hp) : List (Option V) → Env → L2.St → List Addr → Prop
  | nil : REnv K F H [] [] [] []
  | no {p : Option V} {ps : List (Option V)} {env : Env} {x : Option V} {σ : L2.St} {fp : List Addr} : REnv K F H ps env σ fp → REnv K F H (p :: ps) (.no :: env) (x :: σ) fp
  | v {p : Option V} {ps : List (Option V)} {o : O} {v : V} {env : Env} {σ : L2.St} {f1 f2 : List Addr} : RO K F H o v f1 → REnv K F H ps env σ f2 → REnv K F H (p :: ps) (.v o :: env) (some v :: σ) (f1 ++ f2)
  | io {ps : List (Option V)} {o : O} {v : V} {env : Env} {σ : L2.St} {f1 f2 : List Addr} : RO K F H o v f1 → REnv K F H ps env σ f2 → REnv K F H (some v :: ps) (.io o :: env) (some v :: σ) (f1 ++ f2)
  | mv {ps : List (Option V)} {v : V} {env : Env} {σ : L2.St} {fp : List Addr} : REnv K F H ps env σ fp → REnv K F H (some v :: ps) (.mv :: env) (some v :: σ) fp
theorem REnv.stay {K : Frag} {F H F' H' : Hp} {ps : List (Option V)} {env : Env} {σ : L2.St} {fp : List Addr} (h : REnv K F H ps env σ fp) : Stay fp F H F' H' → REnv K F' H' ps env σ fp := by
  induction h with
  | nil => exact fun _ => .nil
  | no _ ih => exact fun s => .no (ih s)
  | v r _ ih => exact fun s => .v (r.stay _ _ _ s.left) (ih s.right)
  | io r _ ih => exact fun s => .io (r.stay _ _ _ s.left) (ih s.right)
  | mv _ ih => exact fun s => .mv (ih s)
theorem REnv.own {K : Frag} {F H : Hp} {ps : List (Option V)} {env : Env} {σ : L2.St} {fp : List Addr} (h : REnv K F H ps env σ fp) : ∀ a ∈ fp, F a = none ∧ ∃ h, H a = some h := by
  induction h with
  | nil => exact fun a z => nomatch z
  | no _ ih => exact ih
  | v r _ ih => exact fun a z => (List.mem_append.mp z).elim (r.own _ _ _ a) (ih a)
  | io r _ ih => exact fun a z => (List.mem_append.mp z).elim (r.own _ _ _ a) (ih a)
  | mv _ ih => exact ih
end DP
end

section
namespace DP
open PySem PySem.Spec PyProof.Rows L2
/-! ### the state of a frame -/
/-- fixed in a def's body: the frozen part and the heap at its start, the places that it may change, the values of the parameters that it gives back, the wish for what is raised, the classes of errors -/
structure Fc where
  K : Frag
  Fs : Hp
  Hs : Hp
  P : List Addr
  ps : List (Option V)
  W : WX
  cls : Str → Value
structure Fr (c : Fc) (F H : Hp) : Prop where
  up : Ex c.Fs F
  sub : Ex F H
  nw : ∀ a, F a ≠ none → c.Fs a ≠ none ∨ c.Hs a = none ∨ a ∈ c.P
  kp : ∀ a o, c.Hs a = some o → a ∉ c.P → H a = some o
def Rp (c : Fc) (env : Env) (σ : L2.St) (ts : List O) (us : List V) (H : Hp) : Prop :=
  ∃ F fe ft, Fr c F H ∧ REnv c.K F H c.ps env σ fe ∧ ROs c.K F H ts us ft ∧ (fe ++ ft).Nodup ∧ ∀ a ∈ fe ++ ft, c.Hs a = none ∨ a ∈ c.P
section
variable {c : Fc} {env : Env} {σ : L2.St} {ts : List O} {us : List V} {F H H' : Hp}
theorem Fr.ex (f : Fr c F H) (e : Ex H H') : Fr c F H' := ⟨f.up, f.sub.trans e, f.nw, fun a o h n => e a o (f.kp a o h n)⟩
theorem Fr.fresh (f : Fr c F H) {p : Addr} (h : H p = none) : c.Hs p = none ∨ p ∈ c.P := by
  by_cases z : p ∈ c.P
  · exact .inr z
  · cases e : c.Hs p with
    | none => exact .inl rfl
    | some o => rw [f.kp p o e z] at h; cases h
theorem Fr.out (f : Fr c F H) {p : Addr} (h : H p = none) : F p = none := f.sub.free h
theorem stay_ex {fp : List Addr} (e : Ex H H') (h : ∀ a ∈ fp, F a = none ∧ ∃ o, H a = some o) : Stay fp F H F H' := ⟨Ex.refl F, fun a z => (h a z).1, fun a z => by
  obtain ⟨_, o, q⟩ := h a z
  rw [e a o q, q]⟩
theorem REnv.len {K : Frag} {F H : Hp} {ps : List (Option V)} {env : Env} {σ : L2.St} {fp : List Addr} (h : REnv K F H ps env σ fp) : env.length = σ.length := by
  induction h with
  | nil => rfl
  | no _ ih => simp [ih]
  | v _ _ ih => simp [ih]
  | io _ _ ih => simp [ih]
  | mv _ ih => simp [ih]
theorem Rp.elen (R : Rp c env σ ts us H) : env.length = σ.length := by
  obtain ⟨F, fe, ft, _, e, _⟩ := R
  exact e.len
/-- a tree comes: the heap has grown, the frozen part too, by new places -/
structure Grow (F H F' H' : Hp) : Prop where
  h : Ex H H'
  f : Ex F F'
  sub : Ex F' H'
  nw : ∀ a, F' a ≠ none → F a ≠ none ∨ H a = none
theorem Grow.of {F H H' : Hp} (s : Ex F H) (x : Ex H H') : Grow F H F H' := ⟨x, Ex.refl F, s.trans x, fun _ z => .inl z⟩
theorem Grow.stay {F H F' H' : Hp} (g : Grow F H F' H') {fp : List Addr} (h : ∀ a ∈ fp, F a = none ∧ ∃ o, H a = some o) : Stay fp F H F' H' := by
  refine ⟨g.f, fun a z => ?_, fun a z => ?_⟩
  · obtain ⟨n, o, q⟩ := h a z
    cases e : F' a with
    | none => rfl
    | some u =>
      rcases g.nw a (by rw [e]; exact fun z => nomatch z) with z | z
      · exact absurd n z
      · rw [q] at z; cases z
  · obtain ⟨_, o, q⟩ := h a z
    rw [g.h a o q, q]
theorem Fr.grow {F' H' : Hp} (f : Fr c F H) (g : Grow F H F' H') : Fr c F' H' := ⟨f.up.trans g.f, g.sub, fun a z => by
  rcases g.nw a z with z | z
  · exact f.nw a z
  · exact .inr (f.fresh z), fun a o h n => g.h a o (f.kp a o h n)⟩
theorem Rp.grow {F' : Hp} {z : O} {v : V} {fp fo : List Addr} {fe ft0 : List Addr} (f : Fr c F H) (e : REnv c.K F H c.ps env σ fe) (t : ROs c.K F H ts us ft0) (nd : (fe ++ (fo ++ ft0)).Nodup) (nw : ∀ a ∈ fe ++ (fo ++ ft0), c.Hs a = none ∨ a ∈ c.P)
    (x : Grow F H F' H') (r : RO c.K F' H' z v fp) (nf : fp.Nodup) (hf : ∀ a ∈ fp, H a = none ∨ a ∈ fo) : Rp c env σ (z :: ts) (v :: us) H' := by
  obtain ⟨n1, n2, n3⟩ := List.nodup_append.mp nd
  obtain ⟨n4, n5, n6⟩ := List.nodup_append.mp n2
  refine ⟨F', fe, fp ++ ft0, f.grow x, e.stay (x.stay e.own), .cons r (t.stay _ _ _ (x.stay (t.own _ _ _))), ?_, ?_⟩
  · refine List.nodup_append.mpr ⟨n1, List.nodup_append.mpr ⟨nf, n5, fun a ha b hb q => ?_⟩, fun a ha b hb q => ?_⟩
    · subst q
      rcases hf a ha with z | z
      · obtain ⟨_, o, q⟩ := t.own _ _ _ a hb; rw [q] at z; cases z
      · exact n6 a z a hb rfl
    · subst q
      rcases List.mem_append.mp hb with hb | hb
      · rcases hf a hb with z | z
        · obtain ⟨_, o, q⟩ := e.own a ha; rw [q] at z; cases z
        · exact n3 a ha a (List.mem_append_left _ z) rfl
      · exact n3 a ha a (List.mem_append_right _ hb) rfl
  · intro a ha
    rcases List.mem_append.mp ha with ha | ha
    · exact nw a (List.mem_append_left _ ha)
    · rcases List.mem_append.mp ha with ha | ha
      · rcases hf a ha with z | z
        · exact f.fresh z
        · exact nw a (List.mem_append_right _ (List.mem_append_left _ z))
      · exact nw a (List.mem_append_right _ (List.mem_append_right _ ha))
/-- trees are dropped -/
theorem Rp.drop {ts0 : List O} {us0 : List V} (R : Rp c env σ (ts0 ++ ts) (us0 ++ us) H) (hl : ts0.length = us0.length) : Rp c env σ ts us H := by
  obtain ⟨F, fe, ft, f, e, t, nd, nw⟩ := R
  obtain ⟨f1, f2, rfl, t1, t2⟩ := t.split' hl
  obtain ⟨n1, n2, n3⟩ := List.nodup_append.mp nd
  refine ⟨F, fe, f2, f, e, t2, List.nodup_append.mpr ⟨n1, (List.nodup_append.mp n2).2.1, fun a ha b hb => n3 a ha b (List.mem_append_right _ hb)⟩, fun a ha => nw a ?_⟩
  rcases List.mem_append.mp ha with z | z
  · exact List.mem_append_left _ z
  · exact List.mem_append_right _ (List.mem_append_right _ z)
theorem Rp.pop {o : O} {v : V} (R : Rp c env σ (o :: ts) (v :: us) H) : Rp c env σ ts us H := Rp.drop (ts0 := [o]) (us0 := [v]) R rfl
theorem Rp.lens (R : Rp c env σ ts us H) : ts.length = us.length := by
  obtain ⟨F, fe, ft, f, e, t, nd, nw⟩ := R
  exact t.length
/-- frozen data comes on top -/
theorem Rp.push {d : PyData} {v : V} (R : Rp c env σ ts us H) (h : ∀ F, Fr c F H → DR c.K F v d) : Rp c env σ (.dat d :: ts) (v :: us) H := by
  obtain ⟨F, fe, ft, f, e, t, nd, nw⟩ := R
  exact ⟨F, fe, ft, f, e, .cons (f1 := []) (.dat (h F f)) t, nd, nw⟩
/-- a new object is made of the trees on top -/
theorem Rp.mk {s : Shp} {xs : List O} {vs : List V} {p : Addr} {h : HO} (R : Rp c env σ (xs ++ ts) (vs ++ us) H) (hl : xs.length = vs.length) (hp : H p = none) (hs : s.ho vs h) :
    Rp c env σ (.node s xs :: ts) (.ref p :: us) (upd H p h) := by
  obtain ⟨F, fe, ft, f, e, t, nd, nw⟩ := R
  obtain ⟨f1, f2, rfl, t1, t2⟩ := t.split' hl
  have x : Ex H (upd H p h) := Ex.new hp
  have np : p ∉ f1 := fun z => by
    obtain ⟨_, o, q⟩ := t1.own _ _ _ p z
    rw [hp] at q; cases q
  obtain ⟨n1, n2, n3⟩ := List.nodup_append.mp nd
  refine Rp.grow (fo := f1) (ft0 := f2) f e t2 nd nw (Grow.of f.sub x) (.node (f.out hp) upd_same hs (t1.stay _ _ _ (stay_ex x (t1.own _ _ _)))) (List.nodup_cons.mpr ⟨np, (List.nodup_append.mp n2).1⟩) fun a ha => ?_
  rcases List.mem_cons.mp ha with z | z
  · exact .inl (z ▸ hp)
  · exact .inr z
/-- the tree on top is frozen -/
theorem Rp.freeze {o : O} {v : V} {d : PyData} (R : Rp c env σ (o :: ts) (v :: us) H) (h : o.toD = some d) : Rp c env σ (.dat d :: ts) (v :: us) H := by
  obtain ⟨F, fe, ft, f, e, t, nd, nw⟩ := R
  cases t with
  | cons r t =>
    rename_i f1 f2
    obtain ⟨n1, n2, n3⟩ := List.nodup_append.mp nd
    obtain ⟨n4, n5, n6⟩ := List.nodup_append.mp n2
    have x : Ex F (frz F H f1) := frz_ex fun a z => (r.own _ _ _ a z).1
    have st : ∀ fp : List Addr, (∀ a ∈ fp, F a = none ∧ ∃ o, H a = some o) → (∀ a ∈ fp, a ∉ f1) → Stay fp F H (frz F H f1) H := fun fp q n => ⟨x, fun a z => by rw [frz_out (n a z)]; exact (q a z).1, fun _ _ => rfl⟩
    refine ⟨frz F H f1, fe, f2, ⟨f.up.trans x, frz_sub f.sub, fun a z => ?_, f.kp⟩, e.stay (st fe e.own fun a ha hb => n3 a ha a (List.mem_append_left _ hb) rfl),
      .cons (f1 := []) (.dat (r.frozen _ _ _ _ h x fun a z => frz_in z)) (t.stay _ _ _ (st f2 (t.own _ _ _) fun a ha hb => n6 a hb a ha rfl)), List.nodup_append.mpr ⟨n1, n5, fun a ha b hb => n3 a ha b (List.mem_append_right _ hb)⟩, fun a ha => nw a ?_⟩
    · by_cases q : a ∈ f1
      · exact .inr (nw a (List.mem_append_right _ (List.mem_append_left _ q)))
      · rw [frz_out q] at z
        exact f.nw a z
    · rcases List.mem_append.mp ha with z | z
      · exact List.mem_append_left _ z
      · exact List.mem_append_right _ (List.mem_append_right _ z)
/-- the first trees change places -/
theorem Rp.turn {o : O} {v : V} {xs : List O} {vs : List V} (R : Rp c env σ (xs ++ o :: ts) (vs ++ v :: us) H) (hl : xs.length = vs.length) : Rp c env σ (o :: (xs ++ ts)) (v :: (vs ++ us)) H := by
  obtain ⟨F, fe, ft, f, e, t, nd, nw⟩ := R
  obtain ⟨f1, f2, rfl, t1, t2⟩ := t.split' hl
  cases t2 with
  | cons r t2 =>
    rename_i f3 f4
    have pm : (f1 ++ (f3 ++ f4)).Perm (f3 ++ (f1 ++ f4)) := by
      rw [← List.append_assoc, ← List.append_assoc]
      exact List.perm_append_comm.append_right _
    exact ⟨F, fe, f3 ++ (f1 ++ f4), f, e, .cons r (t1.app t2), ((pm.append_left fe).nodup_iff).mp nd, fun a ha => nw a (((pm.append_left fe).mem_iff).mpr ha)⟩
end
/-! ### what is reckoned -/
inductive RE (α : Type) where
  | ok (a : α) (env : Env)
  | err (x : Str) (env : Env)
  | no
abbrev EF := Env → RE O
/-- behind an expression -/
def PostE (c : Fc) (pu : Bool) (σ : L2.St) (ts : List O) (us : List V) (H : Hp) (Q : VK) : RE O → Prop
  | .ok o env => ∀ v H', Rp c env σ (o :: ts) (v :: us) H' → (pu = true → Ex H H') → Q v H'
  | .err x env => ∀ H', Rp c env σ ts us H' → c.W (c.cls x) none σ H'
  | .no => False
def PostB (c : Fc) (pu : Bool) (σ : L2.St) (ts : List O) (us : List V) (H : Hp) (Q : Bool → Hp → Prop) : RE Bool → Prop
  | .ok b env => ∀ H', Rp c env σ ts us H' → (pu = true → Ex H H') → Q b H'
  | .err x env => ∀ H', Rp c env σ ts us H' → c.W (c.cls x) none σ H'
  | .no => False
def PostA (c : Fc) (pu : Bool) (σ : L2.St) (ios : List (Option Nat)) (ts : List O) (us : List V) (H : Hp) (Q : List V → Hp → Prop) : RE (List O) → Prop
  | .ok os env => ∀ vs H', Rp c env σ (os ++ ts) (vs ++ us) H' → os.length = vs.length → ios.length = vs.length → (∀ (k i : Nat), ios[k]? = some (some i) → σ[i]? = some vs[k]?) → (pu = true → Ex H H') → Q vs H'
  | .err x env => ∀ H', Rp c env σ ts us H' → c.W (c.cls x) none σ H'
  | .no => False
def tE (c : Fc) (pu : Bool) (f : EF) : TE := fun σ H Q => ∃ env ts us, Rp c env σ ts us H ∧ PostE c pu σ ts us H Q (f env)
def tBq (c : Fc) (pu : Bool) (f : Env → RE Bool) : TT := fun σ H Q => ∃ env ts us, Rp c env σ ts us H ∧ PostB c pu σ ts us H Q (f env)
def tAq (c : Fc) (pu : Bool) (ios : List (Option Nat)) (f : Env → RE (List O)) : TA := fun σ H Q => ∃ env ts us, Rp c env σ ts us H ∧ PostA c pu σ ios ts us H Q (f env)
theorem _root_.L2.PE.weak {X : Cx} {e : Expr} {t t' : TE} (h : PE X e t) (w : ∀ σ H Q, t' σ H Q → t σ H Q) : PE X e t' := ⟨fun pins s σ H Q I q => h.run pins s σ H Q I (w σ H Q q)⟩
theorem _root_.L2.PT.weak {X : Cx} {e : Expr} {t t' : TT} (h : PT X e t) (w : ∀ σ H Q, t' σ H Q → t σ H Q) : PT X e t' := ⟨fun pins s σ H Q I q => h.run pins s σ H Q I (w σ H Q q)⟩
theorem _root_.L2.PW.weak {X : Cx} {e : Expr} {t t' : TT} (h : PW X e t) (w : ∀ σ H Q, t' σ H Q → t σ H Q) : PW X e t' := ⟨fun wh pins s σ H Q I q => h.run wh pins s σ H Q I (w σ H Q q)⟩
theorem _root_.L2.PA.weak {X : Cx} {es : List Expr} {t t' : TA} (h : PA X es t) (w : ∀ σ H Q, t' σ H Q → t σ H Q) : PA X es t' := ⟨fun pos pins s σ H Q I q => h.run pos pins s σ H Q I (w σ H Q q)⟩
theorem _root_.L2.PS.weak {X : Cx} {st : Stmt} {t t' : TS} (h : PS X st t) (w : ∀ D σ H, t' D σ H → t D σ H) : PS X st t' := ⟨fun pins s σ H D I q => h.run pins s σ H D I (w D σ H q)⟩
theorem _root_.L2.PSs.weak {X : Cx} {st : List Stmt} {t t' : TS} (h : PSs X st t) (w : ∀ D σ H, t' D σ H → t D σ H) : PSs X st t' := ⟨fun pins s σ H D I q => h.run pins s σ H D I (w D σ H q)⟩
/-- nothing is changed by a pure one -/
def Pu {α : Type} (pu : Bool) (f : Env → RE α) : Prop := pu = true → ∀ env o env', f env = .ok o env' → env' = env
structure DE (X : Cx) (c : Fc) (pu : Bool) (e : Expr) (f : EF) : Prop where
  pure : Pu pu f
  run : PE X e (tE c pu f)
structure DT (X : Cx) (c : Fc) (pu : Bool) (e : Expr) (f : Env → RE Bool) : Prop where
  pure : Pu pu f
  run : PT X e (tBq c pu f)
structure DW (X : Cx) (c : Fc) (pu : Bool) (e : Expr) (f : Env → RE Bool) : Prop where
  pure : Pu pu f
  run : PW X e (tBq c pu f)
structure DA (X : Cx) (c : Fc) (pu : Bool) (ios : List (Option Nat)) (es : List Expr) (f : Env → RE (List O)) : Prop where
  pure : Pu pu f
  run : PA X es (tAq c pu ios f)
def RE.bind {α β : Type} (r : RE α) (f : α → Env → RE β) : RE β := match r with
  | .ok a env => f a env
  | .err x env => .err x env
  | .no => .no
/-! ### constants and names -/
def kD (d : PyData) : EF := fun env => .ok (.dat d) env
section
variable {X : Cx} {c : Fc}
theorem de_const {e : Expr} {v : V} {d : PyData} (h : PE X e (tC v)) (hd : ∀ K F, DR K F v d) : DE X c true e (kD d) :=
  ⟨fun _ env o env' h => by cases h; rfl, h.weak fun σ H Q ⟨env, ts, us, R, q⟩ => q v H (R.push fun F _ => hd c.K F) fun _ => Ex.refl H⟩
theorem de_int {i j pos} : DE X c true (.Constant (.int i) j pos) (kD (.int i)) := de_const pe_int fun _ _ => .int i
theorem de_bl {b j pos} : DE X c true (.Constant (.bool b) j pos) (kD (.bool b)) := de_const pe_bl fun _ _ => .bl b
theorem de_non {j pos} : DE X c true (.Constant .none j pos) (kD .none) := de_const pe_non fun _ _ => .non
theorem de_str {x j pos} : DE X c true (.Constant (.str x) j pos) (kD (.str x)) := de_const pe_str fun _ _ => .str x
/-- a module's constant -/
theorem de_glob {x : Str} {v : V} {u : Value} {d : PyData} {pos : Pos} (hg : Gl X x) (hm : X.mg x = some u) (r : RelV v u) (hd : ∀ F, DR c.K F v d) (hdb : (x == ("__debug__" : Str)) = false := by decide) : DE X c true (.Name x pos) (kD d) :=
  ⟨fun _ env o env' h => by cases h; rfl, (pe_glob hg hm r hdb).weak fun σ H Q ⟨env, ts, us, R, q⟩ => q v H (R.push fun F _ => hd F) fun _ => Ex.refl H⟩
/-- a slot that holds frozen data -/
def kVar (i : Nat) : EF := fun env => match env[i]? with
  | some (.v (.dat d)) => .ok (.dat d) env
  | some (.io (.dat d)) => .ok (.dat d) env
  | _ => .no
/-- a slot's tree goes to the top -/
def kMov (i : Nat) : EF := fun env => match env[i]? with
  | some (.v (.dat d)) => .ok (.dat d) env
  | some (.v o) => .ok o (env.set i .no)
  | some (.io o) => .ok o (env.set i .mv)
  | _ => .no
/-- a slot's tree is frozen -/
def kFrz (i : Nat) : EF := fun env => match env[i]? with
  | some (.v o) => match o.toD with
    | some d => .ok (.dat d) (env.set i (.v (.dat d)))
    | none => .no
  | some (.io (.dat d)) => .ok (.dat d) env
  | _ => .no
end
/-- one slot apart -/
theorem REnv.at {K : Frag} {F H : Hp} {ps : List (Option V)} {env : Env} {σ : L2.St} {fp : List Addr} (h : REnv K F H ps env σ fp) : ∀ {i : Nat} {o : O}, (env[i]? = some (.v o) ∨ env[i]? = some (.io o)) →
    ∃ v fo fr, σ[i]? = some (some v) ∧ RO K F H o v fo ∧ fp.Perm (fo ++ fr) ∧ (env[i]? = some (.io o) → ps[i]? = some (some v)) ∧
      (∀ (s : Sl) (fs : List Addr) (F' H' : Hp), Stay fr F H F' H' → (s = .no ∨ (s = .mv ∧ env[i]? = some (.io o)) ∨ (∃ o', (s = .v o' ∨ (s = .io o' ∧ env[i]? = some (.io o))) ∧ RO K F' H' o' v fs)) → ((s = .no ∨ s = .mv) → fs = []) → ∃ fp', fp'.Perm (fs ++ fr) ∧ REnv K F' H' ps (env.set i s) σ fp') := by
  induction h with
  | nil => intro i o q; simp at q
  | @no p ps env x σ fp h ih =>
    intro i o q
    cases i with
    | zero => simp at q
    | succ i =>
      obtain ⟨v, fo, fr, e1, r, pm, io, k⟩ := ih (i := i) (o := o) (by simpa using q)
      refine ⟨v, fo, fr, by simpa using e1, r, pm, fun z => by simpa using io (by simpa using z), fun s fs F' H' st hs hz => ?_⟩
      obtain ⟨fp', pm', e'⟩ := k s fs F' H' st (by simpa using hs) hz
      exact ⟨fp', pm', .no e'⟩
  | @mv ps v0 env σ fp h ih =>
    intro i o q
    cases i with
    | zero => simp at q
    | succ i =>
      obtain ⟨v, fo, fr, e1, r, pm, io, k⟩ := ih (i := i) (o := o) (by simpa using q)
      refine ⟨v, fo, fr, by simpa using e1, r, pm, fun z => by simpa using io (by simpa using z), fun s fs F' H' st hs hz => ?_⟩
      obtain ⟨fp', pm', e'⟩ := k s fs F' H' st (by simpa using hs) hz
      exact ⟨fp', pm', .mv e'⟩
  | @v p ps o0 v0 env σ f1 f2 r0 h ih =>
    intro i o q
    cases i with
    | zero =>
      have e0 : o0 = o := by
        rcases q with q | q <;> simp at q
        exact q
      subst e0
      refine ⟨v0, f1, f2, rfl, r0, .refl _, fun z => by simp at z, fun s fs F' H' st hs hz => ?_⟩
      rcases hs with rfl | ⟨rfl, z⟩ | ⟨o', hs, r'⟩
      · rw [hz (.inl rfl)]
        exact ⟨f2, .refl _, .no (h.stay st)⟩
      · simp at z
      · rcases hs with rfl | ⟨rfl, z⟩
        · exact ⟨fs ++ f2, .refl _, .v r' (h.stay st)⟩
        · simp at z
    | succ i =>
      obtain ⟨v, fo, fr, e1, r, pm, io, k⟩ := ih (i := i) (o := o) (by simpa using q)
      refine ⟨v, fo, f1 ++ fr, by simpa using e1, r, ?_, fun z => by simpa using io (by simpa using z), fun s fs F' H' st hs hz => ?_⟩
      · refine (pm.append_left f1).trans ?_
        rw [← List.append_assoc, ← List.append_assoc]
        exact List.perm_append_comm.append_right _
      · obtain ⟨fp', pm', e'⟩ := k s fs F' H' st.right (by simpa using hs) hz
        refine ⟨f1 ++ fp', ?_, .v (r0.stay _ _ _ st.left) e'⟩
        refine (pm'.append_left f1).trans ?_
        rw [← List.append_assoc, ← List.append_assoc]
        exact List.perm_append_comm.append_right _
  | @io ps o0 v0 env σ f1 f2 r0 h ih =>
    intro i o q
    cases i with
    | zero =>
      have e0 : o0 = o := by
        rcases q with q | q <;> simp at q
        exact q
      subst e0
      refine ⟨v0, f1, f2, rfl, r0, .refl _, fun _ => rfl, fun s fs F' H' st hs hz => ?_⟩
      rcases hs with rfl | ⟨rfl, z⟩ | ⟨o', hs, r'⟩
      · rw [hz (.inl rfl)]
        exact ⟨f2, .refl _, .no (h.stay st)⟩
      · rw [hz (.inr rfl)]
        exact ⟨f2, .refl _, .mv (h.stay st)⟩
      · rcases hs with rfl | ⟨rfl, z⟩
        · exact ⟨fs ++ f2, .refl _, .v r' (h.stay st)⟩
        · exact ⟨fs ++ f2, .refl _, .io r' (h.stay st)⟩
    | succ i =>
      obtain ⟨v, fo, fr, e1, r, pm, io, k⟩ := ih (i := i) (o := o) (by simpa using q)
      refine ⟨v, fo, f1 ++ fr, by simpa using e1, r, ?_, fun z => by simpa using io (by simpa using z), fun s fs F' H' st hs hz => ?_⟩
      · refine (pm.append_left f1).trans ?_
        rw [← List.append_assoc, ← List.append_assoc]
        exact List.perm_append_comm.append_right _
      · obtain ⟨fp', pm', e'⟩ := k s fs F' H' st.right (by simpa using hs) hz
        refine ⟨f1 ++ fp', ?_, .io (r0.stay _ _ _ st.left) e'⟩
        refine (pm'.append_left f1).trans ?_
        rw [← List.append_assoc, ← List.append_assoc]
        exact List.perm_append_comm.append_right _
end DP
end

section
namespace DP
open PySem PySem.Spec PyProof.Rows L2
section
variable {c : Fc} {env : Env} {σ : L2.St} {ts : List O} {us : List V} {F H H' : Hp}
/-- places that are a part of others -/
def Sub (a b : List Addr) : Prop := ∃ r, (a ++ r).Perm b
theorem Sub.refl (a : List Addr) : Sub a a := ⟨[], by simp⟩
theorem Sub.perm {a b : List Addr} (h : a.Perm b) : Sub a b := ⟨[], by simpa using h⟩
theorem Sub.mem {a b : List Addr} (s : Sub a b) : ∀ x ∈ a, x ∈ b := fun x h => by
  obtain ⟨r, p⟩ := s
  exact p.mem_iff.mp (List.mem_append_left _ h)
theorem Sub.nodup {a b : List Addr} (s : Sub a b) (n : b.Nodup) : a.Nodup := by
  obtain ⟨r, p⟩ := s
  exact (List.nodup_append.mp (p.nodup_iff.mpr n)).1
theorem Sub.trans {a b d : List Addr} (s : Sub a b) (t : Sub b d) : Sub a d := by
  obtain ⟨r, p⟩ := s
  obtain ⟨r', p'⟩ := t
  refine ⟨r ++ r', ?_⟩
  rw [← List.append_assoc]
  exact (p.append_right r').trans p'
theorem Sub.app {a b a' b' : List Addr} (s : Sub a b) (t : Sub a' b') : Sub (a ++ a') (b ++ b') := by
  obtain ⟨r, p⟩ := s
  obtain ⟨r', p'⟩ := t
  refine ⟨r ++ r', ?_⟩
  refine List.Perm.trans ?_ (p.append p')
  rw [List.append_assoc, List.append_assoc]
  refine List.Perm.append_left a ?_
  rw [← List.append_assoc, ← List.append_assoc]
  exact List.perm_append_comm.append_right _
theorem Sub.left (a b : List Addr) : Sub a (a ++ b) := ⟨b, .refl _⟩
theorem Sub.right (a b : List Addr) : Sub b (a ++ b) := ⟨a, List.perm_append_comm⟩
theorem Sub.swap (a b d : List Addr) : Sub (a ++ (b ++ d)) (b ++ (a ++ d)) := .perm (by
  rw [← List.append_assoc, ← List.append_assoc]
  exact List.perm_append_comm.append_right _)
/-- the state anew, over a part of the places -/
theorem Rp.of {fe ft all : List Addr} (f : Fr c F H) (e : REnv c.K F H c.ps env σ fe) (t : ROs c.K F H ts us ft) (s : Sub (fe ++ ft) all) (nd : all.Nodup) (nw : ∀ a ∈ all, c.Hs a = none ∨ a ∈ c.P) : Rp c env σ ts us H :=
  ⟨F, fe, ft, f, e, t, s.nodup nd, fun a z => nw a (s.mem a z)⟩
theorem Rp.slot {i : Nat} {d : PyData} (R : Rp c env σ ts us H) (h : env[i]? = some (.v (.dat d)) ∨ env[i]? = some (.io (.dat d))) : ∃ v, σ[i]? = some (some v) ∧ Rp c env σ (.dat d :: ts) (v :: us) H := by
  obtain ⟨F, fe, ft, f, e, t, nd, nw⟩ := R
  obtain ⟨v, fo, fr, e1, r, pm, _, _⟩ := e.at h
  refine ⟨v, e1, F, fe, ft, f, e, ?_, nd, nw⟩
  cases r with
  | dat r => exact .cons (f1 := []) (.dat r) t
theorem Rp.take {i : Nat} {o : O} (R : Rp c env σ ts us H) (h : env[i]? = some (.v o)) : ∃ v, σ[i]? = some (some v) ∧ Rp c (env.set i .no) σ (o :: ts) (v :: us) H := by
  obtain ⟨F, fe, ft, f, e, t, nd, nw⟩ := R
  obtain ⟨v, fo, fr, e1, r, pm, _, k⟩ := e.at (.inl h)
  have st : Stay fr F H F H := ⟨Ex.refl F, fun a z => (e.own a (pm.mem_iff.mpr (List.mem_append_right _ z))).1, fun _ _ => rfl⟩
  obtain ⟨fp', pm', e'⟩ := k .no [] F H st (.inl rfl) (fun _ => rfl)
  refine ⟨v, e1, Rp.of f e' (.cons r t) (all := fe ++ ft) ?_ nd nw⟩
  exact ((Sub.perm pm').app (.refl _)).trans ((Sub.swap fr fo ft).trans (by
    rw [← List.append_assoc]
    exact .perm (pm.symm.append_right ft)))
theorem Rp.takeIo {i : Nat} {o : O} (R : Rp c env σ ts us H) (h : env[i]? = some (.io o)) : ∃ v, σ[i]? = some (some v) ∧ Rp c (env.set i .mv) σ (o :: ts) (v :: us) H := by
  obtain ⟨F, fe, ft, f, e, t, nd, nw⟩ := R
  obtain ⟨v, fo, fr, e1, r, pm, _, k⟩ := e.at (.inr h)
  have st : Stay fr F H F H := ⟨Ex.refl F, fun a z => (e.own a (pm.mem_iff.mpr (List.mem_append_right _ z))).1, fun _ _ => rfl⟩
  obtain ⟨fp', pm', e'⟩ := k .mv [] F H st (.inr (.inl ⟨rfl, h⟩)) (fun _ => rfl)
  refine ⟨v, e1, Rp.of f e' (.cons r t) (all := fe ++ ft) ?_ nd nw⟩
  exact ((Sub.perm pm').app (.refl _)).trans ((Sub.swap fr fo ft).trans (by
    rw [← List.append_assoc]
    exact .perm (pm.symm.append_right ft)))
end
/-- a slot is stored -/
theorem REnv.store {K : Frag} {F H : Hp} {ps : List (Option V)} {env : Env} {σ : L2.St} {fp : List Addr} (h : REnv K F H ps env σ fp) {o : O} {v : V} {fo : List Addr} (r : RO K F H o v fo) : ∀ {i : Nat}, (env[i]? = some .no ∨ ∃ o', env[i]? = some (.v o')) →
    ∃ fp', Sub fp' (fo ++ fp) ∧ REnv K F H ps (env.set i (.v o)) (σ.set i (some v)) fp' := by
  induction h with
  | nil => intro i q; rcases q with q | ⟨o', q⟩ <;> simp at q
  | @no p ps env x σ fp h ih =>
    intro i q
    cases i with
    | zero => exact ⟨fo ++ fp, .refl _, .v r h⟩
    | succ i =>
      obtain ⟨fp', s, e⟩ := ih (i := i) (by simpa using q)
      exact ⟨fp', s, .no e⟩
  | @mv ps v0 env σ fp h ih =>
    intro i q
    cases i with
    | zero => rcases q with q | ⟨o', q⟩ <;> simp at q
    | succ i =>
      obtain ⟨fp', s, e⟩ := ih (i := i) (by simpa using q)
      exact ⟨fp', s, .mv e⟩
  | @v p ps o0 v0 env σ f1 f2 r0 h ih =>
    intro i q
    cases i with
    | zero => exact ⟨fo ++ f2, (Sub.refl fo).app (Sub.right f1 f2), .v r h⟩
    | succ i =>
      obtain ⟨fp', s, e⟩ := ih (i := i) (by simpa using q)
      exact ⟨f1 ++ fp', ((Sub.refl f1).app s).trans (Sub.swap f1 fo f2), .v r0 e⟩
  | @io ps o0 v0 env σ f1 f2 r0 h ih =>
    intro i q
    cases i with
    | zero => rcases q with q | ⟨o', q⟩ <;> simp at q
    | succ i =>
      obtain ⟨fp', s, e⟩ := ih (i := i) (by simpa using q)
      exact ⟨f1 ++ fp', ((Sub.refl f1).app s).trans (Sub.swap f1 fo f2), .io r0 e⟩
/-- a tree comes back to its slot -/
def putBack (env : Env) (i : Nat) (o : O) : Env := match env[i]? with
  | some .mv => env.set i (.io o)
  | some .no => env.set i (.v o)
  | _ => env
theorem REnv.back {K : Frag} {F H : Hp} {ps : List (Option V)} {env : Env} {σ : L2.St} {fp : List Addr} (h : REnv K F H ps env σ fp) {o : O} {v : V} {fo : List Addr} (r : RO K F H o v fo) : ∀ {i : Nat}, σ[i]? = some (some v) →
    ∃ fp', Sub fp' (fo ++ fp) ∧ REnv K F H ps (putBack env i o) σ fp' := by
  induction h with
  | nil => intro i q; simp at q
  | @no p ps env x σ fp h ih =>
    intro i q
    cases i with
    | zero =>
      have e : x = some v := by simpa using q
      subst e
      exact ⟨fo ++ fp, .refl _, .v r h⟩
    | succ i =>
      obtain ⟨fp', s, e⟩ := ih (i := i) (by simpa using q)
      refine ⟨fp', s, ?_⟩
      have z : putBack (.no :: env) (i + 1) o = .no :: putBack env i o := by
        unfold putBack
        simp only [List.getElem?_cons_succ]
        cases env[i]? with
        | none => rfl
        | some s => cases s <;> rfl
      rw [z]
      exact .no e
  | @mv ps v0 env σ fp h ih =>
    intro i q
    cases i with
    | zero =>
      have e : v0 = v := by simpa using q
      subst e
      exact ⟨fo ++ fp, .refl _, .io r h⟩
    | succ i =>
      obtain ⟨fp', s, e⟩ := ih (i := i) (by simpa using q)
      refine ⟨fp', s, ?_⟩
      have z : putBack (.mv :: env) (i + 1) o = .mv :: putBack env i o := by
        unfold putBack
        simp only [List.getElem?_cons_succ]
        cases env[i]? with
        | none => rfl
        | some s => cases s <;> rfl
      rw [z]
      exact .mv e
  | @v p ps o0 v0 env σ f1 f2 r0 h ih =>
    intro i q
    cases i with
    | zero => exact ⟨f1 ++ f2, Sub.right fo _, .v r0 h⟩
    | succ i =>
      obtain ⟨fp', s, e⟩ := ih (i := i) (by simpa using q)
      refine ⟨f1 ++ fp', ((Sub.refl f1).app s).trans (Sub.swap f1 fo f2), ?_⟩
      have z : putBack (.v o0 :: env) (i + 1) o = .v o0 :: putBack env i o := by
        unfold putBack
        simp only [List.getElem?_cons_succ]
        cases env[i]? with
        | none => rfl
        | some s => cases s <;> rfl
      rw [z]
      exact .v r0 e
  | @io ps o0 v0 env σ f1 f2 r0 h ih =>
    intro i q
    cases i with
    | zero => exact ⟨f1 ++ f2, Sub.right fo _, .io r0 h⟩
    | succ i =>
      obtain ⟨fp', s, e⟩ := ih (i := i) (by simpa using q)
      refine ⟨f1 ++ fp', ((Sub.refl f1).app s).trans (Sub.swap f1 fo f2), ?_⟩
      have z : putBack (.io o0 :: env) (i + 1) o = .io o0 :: putBack env i o := by
        unfold putBack
        simp only [List.getElem?_cons_succ]
        cases env[i]? with
        | none => rfl
        | some s => cases s <;> rfl
      rw [z]
      exact .io r0 e
section
variable {c : Fc} {env : Env} {σ : L2.St} {ts : List O} {us : List V} {F H H' : Hp}
theorem Rp.store {i : Nat} {o : O} {v : V} (R : Rp c env σ (o :: ts) (v :: us) H) (h : env[i]? = some .no ∨ ∃ o', env[i]? = some (.v o')) : Rp c (env.set i (.v o)) (σ.set i (some v)) ts us H := by
  obtain ⟨F, fe, ft, f, e, t, nd, nw⟩ := R
  cases t with
  | cons r t =>
    rename_i f1 f2
    obtain ⟨fp', s, e'⟩ := e.store r h
    refine Rp.of f e' t (all := fe ++ (f1 ++ f2)) ((s.app (.refl f2)).trans ?_) nd nw
    rw [List.append_assoc]
    exact Sub.swap f1 fe f2
theorem Rp.back {i : Nat} {o : O} {v : V} (R : Rp c env σ (o :: ts) (v :: us) H) (h : σ[i]? = some (some v)) : Rp c (putBack env i o) σ ts us H := by
  obtain ⟨F, fe, ft, f, e, t, nd, nw⟩ := R
  cases t with
  | cons r t =>
    rename_i f1 f2
    obtain ⟨fp', s, e'⟩ := e.back r h
    refine Rp.of f e' t (all := fe ++ (f1 ++ f2)) ((s.app (.refl f2)).trans ?_) nd nw
    rw [List.append_assoc]
    exact Sub.swap f1 fe f2
/-- a slot is forgotten -/
theorem Rp.forget {i : Nat} (R : Rp c env σ ts us H) (h : env[i]? = some .no ∨ ∃ o', env[i]? = some (.v o')) : Rp c (env.set i .no) σ ts us H := by
  rcases h with h | ⟨o, h⟩
  · have : env.set i .no = env := by
      obtain ⟨hi, e⟩ := List.getElem?_eq_some_iff.mp h
      rw [← e]
      exact List.set_getElem_self hi
    rw [this]; exact R
  · obtain ⟨v, _, R'⟩ := R.take h
    exact R'.pop
end
section
variable {X : Cx} {c : Fc}
theorem de_var {i : Nat} {e : Expr} (h : PE X e (tVar i)) : DE X c true e (kVar i) := by
  refine ⟨fun _ env o env' h => ?_, h.weak fun σ H Q ⟨env, ts, us, R, q⟩ => ?_⟩
  · unfold kVar at h
    split at h
    · cases h; rfl
    · cases h; rfl
    · cases h
  · unfold kVar at q
    split at q
    · rename_i d e
      obtain ⟨v, e1, R'⟩ := R.slot (.inl e)
      exact ⟨v, e1, q v H R' fun _ => Ex.refl H⟩
    · rename_i d e
      obtain ⟨v, e1, R'⟩ := R.slot (.inr e)
      exact ⟨v, e1, q v H R' fun _ => Ex.refl H⟩
    · exact q.elim
theorem Pu.no {α : Type} {f : Env → RE α} : Pu false f := fun h => Bool.noConfusion h
theorem de_mov {i : Nat} {e : Expr} (h : PE X e (tVar i)) : DE X c false e (kMov i) := by
  refine ⟨Pu.no, h.weak fun σ H Q ⟨env, ts, us, R, q⟩ => ?_⟩
  unfold kMov at q
  split at q
  · rename_i d e
    obtain ⟨v, e1, R'⟩ := R.slot (.inl e)
    exact ⟨v, e1, q v H R' fun z => nomatch z⟩
  · rename_i o _ e
    obtain ⟨v, e1, R'⟩ := R.take e
    exact ⟨v, e1, q v H R' fun z => nomatch z⟩
  · rename_i o e
    obtain ⟨v, e1, R'⟩ := R.takeIo e
    exact ⟨v, e1, q v H R' fun z => nomatch z⟩
  · exact q.elim
theorem set_self_eq {σ : L2.St} {i : Nat} {v : V} (h : σ[i]? = some (some v)) : σ.set i (some v) = σ := by
  obtain ⟨hi, e⟩ := List.getElem?_eq_some_iff.mp h
  rw [← e]
  exact List.set_getElem_self hi
theorem de_frz {i : Nat} {e : Expr} (h : PE X e (tVar i)) : DE X c false e (kFrz i) := by
  refine ⟨Pu.no, h.weak fun σ H Q ⟨env, ts, us, R, q⟩ => ?_⟩
  unfold kFrz at q
  split at q
  · rename_i o e
    split at q
    · rename_i d ed
      obtain ⟨v, e1, R'⟩ := R.take e
      have R2 := (R'.freeze ed).store (i := i) (.inl (by
        rw [List.getElem?_set_self (List.getElem?_eq_some_iff.mp e).1]))
      rw [set_self_eq e1, List.set_set] at R2
      obtain ⟨v', e1', R3⟩ := R2.slot (i := i) (d := d) (.inl (List.getElem?_set_self (List.getElem?_eq_some_iff.mp e).1))
      exact ⟨v', e1', q v' H R3 fun z => nomatch z⟩
    · exact q.elim
  · rename_i d e
    obtain ⟨v, e1, R'⟩ := R.slot (.inr e)
    exact ⟨v, e1, q v H R' fun z => nomatch z⟩
  · exact q.elim
/-! ### argument lists -/
def kMark (i : Nat) : EF := fun env => match env[i]? with
  | some (.v _) => .ok .any env
  | some (.io _) => .ok .any env
  | _ => .no
def kNil : Env → RE (List O) := fun env => .ok [] env
def kCons (f : EF) (g : Env → RE (List O)) : Env → RE (List O) := fun env => (f env).bind fun o env1 => (g env1).bind fun os env2 => .ok (o :: os) env2
theorem da_nil : DA X c true [] [] kNil := ⟨fun _ env o env' h => by cases h; rfl, pa_nil.weak fun σ H Q ⟨env, ts, us, R, q⟩ => q [] H R rfl rfl (fun k i z => by simp at z) fun _ => Ex.refl H⟩
theorem and_ex {p1 p2 : Bool} {H H1 H2 : Hp} (a : p1 = true → Ex H H1) (b : p2 = true → Ex H1 H2) : (p1 && p2) = true → Ex H H2 := fun h => by
  cases p1 <;> cases p2 <;> simp at h
  exact (a rfl).trans (b rfl)
theorem pu_cons {p1 p2 : Bool} {f : EF} {g : Env → RE (List O)} (hf : Pu p1 f) (hg : Pu p2 g) : Pu (p1 && p2) (kCons f g) := fun h env o env' q => by
  cases p1 <;> cases p2 <;> simp at h
  unfold kCons RE.bind at q
  cases e1 : f env with
  | no => rw [e1] at q; cases q
  | err x en => rw [e1] at q; cases q
  | ok o1 en1 =>
    rw [e1] at q
    have z1 := hf rfl _ _ _ e1
    subst z1
    simp only at q
    cases e2 : g en1 with
    | no => rw [e2] at q; cases q
    | err x en => rw [e2] at q; cases q
    | ok o2 en2 =>
      rw [e2] at q
      have z2 := hg rfl _ _ _ e2
      subst z2
      cases q
      rfl
/-- e and the rest, e of any kind: what is known of its value beside -/
theorem da_cons0 {p1 p2 : Bool} {e : Expr} {es : List Expr} {f : EF} {g : Env → RE (List O)} {ios : List (Option Nat)} {w : Option Nat} {te : TE} (hp : Pu p1 f) (he : PE X e te)
    (hte : ∀ σ H Q, (∃ env ts us, Rp c env σ ts us H ∧ PostE c p1 σ ts us H (fun v H' => (∀ i, w = some i → σ[i]? = some (some v)) → Q v H') (f env)) → te σ H Q)
    (h2 : DA X c p2 ios es g) (hs : starEach (e :: es) X.env = (false, eval e X.env) :: starEach es X.env) : DA X c (p1 && p2) (w :: ios) (e :: es) (kCons f g) := by
  refine ⟨pu_cons hp h2.pure, (pa_cons he h2.run hs).weak fun σ H Q ⟨env, ts, us, R, q⟩ => ?_⟩
  refine hte σ H _ ⟨env, ts, us, R, ?_⟩
  unfold kCons RE.bind at q
  cases e1 : f env with
  | no => rw [e1] at q; exact q.elim
  | err x en => rw [e1] at q; exact q
  | ok o1 en1 =>
    rw [e1] at q
    intro v H1 R1 x1 hw
    refine ⟨en1, o1 :: ts, v :: us, R1, ?_⟩
    simp only at q
    cases e2 : g en1 with
    | no => rw [e2] at q; exact q.elim
    | err x en =>
      rw [e2] at q
      exact fun H2 R2 => q H2 R2.pop
    | ok os en2 =>
      rw [e2] at q
      intro vs H2 R2 hl hli hw2 x2
      refine q (v :: vs) H2 (R2.turn hl) (by simp [hl]) (by simp [hli]) (fun k i z => ?_) (and_ex x1 x2)
      cases k with
      | zero =>
        have z' : w = some i := by simpa using z
        simpa using hw i z'
      | succ k => simpa using hw2 k i (by simpa using z)
theorem da_cons {p1 p2 : Bool} {e : Expr} {es : List Expr} {f : EF} {g : Env → RE (List O)} {ios : List (Option Nat)} (h1 : DE X c p1 e f) (h2 : DA X c p2 ios es g) (hs : starEach (e :: es) X.env = (false, eval e X.env) :: starEach es X.env := by rfl) :
    DA X c (p1 && p2) (none :: ios) (e :: es) (kCons f g) :=
  da_cons0 h1.pure h1.run (fun σ H Q ⟨env, ts, us, R, q⟩ => ⟨env, ts, us, R, by
    cases e1 : f env with
    | no => rw [e1] at q; exact q.elim
    | err x en => rw [e1] at q; exact q
    | ok o1 en1 => rw [e1] at q; exact fun v H1 R1 x1 => q v H1 R1 x1 fun i z => nomatch z⟩) h2 hs
/-- a name whose tree is lent: it is taken when the call comes -/
def kAny : EF := fun env => .ok .any env
theorem Rp.top {c : Fc} {env : Env} {σ : L2.St} {ts : List O} {us : List V} {H : Hp} {v : V} (R : Rp c env σ ts us H) : Rp c env σ (.any :: ts) (v :: us) H := by
  obtain ⟨F, fe, ft, f, e, t, nd, nw⟩ := R
  exact ⟨F, fe, ft, f, e, .cons (f1 := []) .any t, nd, nw⟩
theorem da_lend {p2 : Bool} {i : Nat} {e : Expr} {es : List Expr} {g : Env → RE (List O)} {ios : List (Option Nat)} (h1 : PE X e (tVar i)) (h2 : DA X c p2 ios es g) (hs : starEach (e :: es) X.env = (false, eval e X.env) :: starEach es X.env := by rfl) :
    DA X c (false && p2) (some i :: ios) (e :: es) (kCons (kMark i) g) :=
  da_cons0 Pu.no h1 (fun σ H Q ⟨env, ts, us, R, q⟩ => by
    unfold kMark at q
    split at q
    · rename_i o e
      obtain ⟨v, e1, _⟩ := R.take e
      exact ⟨v, e1, q v H R.top (fun z => nomatch z) fun j z => by cases z; exact e1⟩
    · rename_i o e
      obtain ⟨v, e1, _⟩ := R.takeIo e
      exact ⟨v, e1, q v H R.top (fun z => nomatch z) fun j z => by cases z; exact e1⟩
    · exact q.elim) h2 hs
/-! ### displays -/
/-- a tuple is frozen where it can be -/
def O.fz : O → O
  | .node .tup xs => match O.toDs xs with
    | some ds => .dat (.tuple ds)
    | none => .node .tup xs
  | o => o
theorem Rp.fz {c : Fc} {env : Env} {σ : L2.St} {ts : List O} {us : List V} {H : Hp} {o : O} {v : V} (R : Rp c env σ (o :: ts) (v :: us) H) : Rp c env σ (O.fz o :: ts) (v :: us) H := by
  unfold O.fz
  split
  · split
    · rename_i xs ds e
      exact R.freeze (by rw [O.toD, e]; rfl)
    · exact R
  · exact R
def kMk (s : Shp) (g : Env → RE (List O)) : EF := fun env => (g env).bind fun os env1 => if os.length ≤ 1000000 then .ok (O.fz (.node s os)) env1 else .no
theorem sz_ok {n : Nat} (h : n ≤ 1000000) : n ≤ sizeLine := Nat.le_trans h (by decide)
theorem pu_mk {p : Bool} {s : Shp} {g : Env → RE (List O)} (hg : Pu p g) : Pu p (kMk s g) := fun h env o env' q => by
  unfold kMk RE.bind at q
  cases e1 : g env with
  | no => rw [e1] at q; cases q
  | err x en => rw [e1] at q; cases q
  | ok o1 en1 =>
    rw [e1] at q
    have z1 := hg h _ _ _ e1
    subst z1
    simp only at q
    split at q
    · cases q; rfl
    · cases q
theorem disp {p : Bool} {s : Shp} {g : Env → RE (List O)} {ios : List (Option Nat)} {mk : List V → HO} (ho : ∀ vs, s.ho vs (mk vs)) {σ : L2.St} {H : Hp} {Q : VK} (h : tE c p (kMk s g) σ H Q) :
    tAq c p ios g σ H fun vs H1 => vs.length ≤ sizeLine ∧ ∀ q, H1 q = none → Q (.ref q) (upd H1 q (mk vs)) := by
  obtain ⟨env, ts, us, R, q⟩ := h
  refine ⟨env, ts, us, R, ?_⟩
  unfold kMk RE.bind at q
  cases e1 : g env with
  | no => rw [e1] at q; exact q.elim
  | err x en => rw [e1] at q; exact q
  | ok os en1 =>
    rw [e1] at q
    simp only at q
    intro vs H1 R1 hl _ _ x1
    split at q
    · rename_i hz
      exact ⟨sz_ok (hl ▸ hz), fun p0 hp => q _ _ (R1.mk hl hp (ho vs)).fz fun z => (x1 z).trans (Ex.new hp)⟩
    · exact q.elim
theorem de_tup {p : Bool} {ios : List (Option Nat)} {es : List Expr} {g : Env → RE (List O)} {k pos} (h : DA X c p ios es g) : DE X c p (.Tuple es k pos) (kMk .tup g) :=
  ⟨pu_mk h.pure, (pe_tup h.run).weak fun σ H Q q => disp (s := .tup) (mk := .tup) (fun _ => rfl) q⟩
theorem de_lst {p : Bool} {ios : List (Option Nat)} {es : List Expr} {g : Env → RE (List O)} {pos} (h : DA X c p ios es g) : DE X c p (.List es pos) (kMk .lst g) :=
  ⟨pu_mk h.pure, (pe_lst h.run).weak fun σ H Q q => disp (s := .lst) (mk := .lst) (fun _ => rfl) q⟩
end
end DP
end

section
namespace DP
open PySem PySem.Spec PyProof.Rows L2
/-- a result: a tree, new (or out of the places fo), the frozen part grown by new places -/
def Res (K : Frag) (F H : Hp) (fo : List Addr) (z : O) (Q : VK) : Prop := ∀ v H' F' fp, Grow F H F' H' → RO K F' H' z v fp → fp.Nodup → (∀ a ∈ fp, H a = none ∨ a ∈ fo) → Q v H'
theorem Res.sc {K : Frag} {F H : Hp} {fo : List Addr} {d : PyData} {v : V} {Q : VK} (q : Res K F H fo (.dat d) Q) (s : Ex F H) (h : DR K F v d) : Q v H := q v H F [] (Grow.of s (Ex.refl H)) (.dat h) List.nodup_nil fun _ z => nomatch z
/-- a new tuple, frozen at once -/
theorem Res.tup {K : Frag} {F H : Hp} {fo : List Addr} {ds : List PyData} {vs : List V} {Q : VK} (q : Res K F H fo (.dat (.tuple ds)) Q) (s : Ex F H) (h : DRs K F vs ds) {p : Addr} (hp : H p = none) : Q (.ref p) (upd H p (.tup vs)) := by
  have fp : F p = none := s.free hp
  refine q _ _ (upd F p (.tup vs)) [] ⟨Ex.new hp, Ex.new fp, fun a o e => ?_, fun a z => ?_⟩ (.dat (.tup (SqT.of upd_same) ((Ex.new fp).dpAll _ _ h))) List.nodup_nil fun _ z => nomatch z
  · by_cases z : a = p
    · subst z; rw [upd_same] at e; rw [upd_same]; exact e
    · rw [upd_ne z] at e; rw [upd_ne z]; exact s a o e
  · by_cases y : a = p
    · exact .inr (y ▸ hp)
    · rw [upd_ne y] at z; exact .inl z
/-- a new list of frozen data -/
theorem Res.lst {K : Frag} {F H : Hp} {fo : List Addr} {ds : List PyData} {vs : List V} {Q : VK} (q : Res K F H fo (.node .lst (ds.map .dat)) Q) (s : Ex F H) (h : DRs K F vs ds) {p : Addr} (hp : H p = none) : Q (.ref p) (upd H p (.lst vs)) := by
  have r : ROs K F (upd H p (.lst vs)) (ds.map .dat) vs [] := dpAll_os h
  exact q _ _ F [p] (Grow.of s (Ex.new hp)) (.node (s.free hp) upd_same rfl r) (by simp) fun a z => .inl (by rw [List.mem_singleton.mp z]; exact hp)
/-- two-place operations on data -/
def Op2 (K : Frag) (r : R2) (g : PyData → PyData → Option O) : Prop := ∀ F H x y d1 d2 z, Ex F H → DR K F x d1 → DR K F y d2 → g d1 d2 = some z → ∀ Q, Res K F H [] z Q → r x y H Q
def Op1 (K : Frag) (r : V → Hp → VK → Prop) (g : PyData → Option O) : Prop := ∀ F H x d z, Ex F H → DR K F x d → g d = some z → ∀ Q, Res K F H [] z Q → r x H Q
def Opn (K : Frag) (r : List V → Hp → VK → Prop) (g : List PyData → Option O) : Prop := ∀ F H xs ds z, Ex F H → DRs K F xs ds → g ds = some z → ∀ Q, Res K F H [] z Q → r xs H Q
def k2 (g : PyData → PyData → Option O) (f1 f2 : EF) : EF := fun env => (f1 env).bind fun o1 e1 => (f2 e1).bind fun o2 e2 => match o1.toD, o2.toD with
  | some d1, some d2 => match g d1 d2 with
    | some z => .ok z e2
    | none => .no
  | _, _ => .no
def k1 (g : PyData → Option O) (f1 : EF) : EF := fun env => (f1 env).bind fun o1 e1 => match o1.toD with
  | some d1 => match g d1 with
    | some z => .ok z e1
    | none => .no
  | _ => .no
def kn (g : List PyData → Option O) (f : Env → RE (List O)) : EF := fun env => (f env).bind fun os e1 => match O.toDs os with
  | some ds => match g ds with
    | some z => .ok z e1
    | none => .no
  | _ => .no
section
variable {X : Cx} {c : Fc} {p1 p2 : Bool} {f1 f2 : EF} {σ : L2.St} {H : Hp} {Q : VK}
theorem pu_2 {g : PyData → PyData → Option O} (h1 : Pu p1 f1) (h2 : Pu p2 f2) : Pu (p1 && p2) (k2 g f1 f2) := fun h env o env' q => by
  cases p1 <;> cases p2 <;> simp at h
  unfold k2 RE.bind at q
  cases e1 : f1 env with
  | no => rw [e1] at q; cases q
  | err x en => rw [e1] at q; cases q
  | ok o1 en1 =>
    rw [e1] at q
    have z1 := h1 rfl _ _ _ e1
    subst z1
    simp only at q
    cases e2 : f2 en1 with
    | no => rw [e2] at q; cases q
    | err x en => rw [e2] at q; cases q
    | ok o2 en2 =>
      rw [e2] at q
      have z2 := h2 rfl _ _ _ e2
      subst z2
      simp only at q
      split at q
      · split at q
        · cases q; rfl
        · cases q
      · cases q
theorem pu_1 {g : PyData → Option O} (h1 : Pu p1 f1) : Pu p1 (k1 g f1) := fun h env o env' q => by
  unfold k1 RE.bind at q
  cases e1 : f1 env with
  | no => rw [e1] at q; cases q
  | err x en => rw [e1] at q; cases q
  | ok o1 en1 =>
    rw [e1] at q
    have z1 := h1 h _ _ _ e1
    subst z1
    simp only at q
    split at q
    · split at q
      · cases q; rfl
      · cases q
    · cases q
theorem pu_n {g : List PyData → Option O} {f : Env → RE (List O)} (h1 : Pu p1 f) : Pu p1 (kn g f) := fun h env o env' q => by
  unfold kn RE.bind at q
  cases e1 : f env with
  | no => rw [e1] at q; cases q
  | err x en => rw [e1] at q; cases q
  | ok o1 en1 =>
    rw [e1] at q
    have z1 := h1 h _ _ _ e1
    subst z1
    simp only at q
    split at q
    · split at q
      · cases q; rfl
      · cases q
    · cases q
/-- two temporaries of data on top: an operation on them -/
theorem Rp.op2 {env : Env} {ts : List O} {us : List V} {r : R2} {g : PyData → PyData → Option O} {o1 o2 z : O} {d1 d2 : PyData} {x y : V} (hr : Op2 c.K r g) (R : Rp c env σ (o2 :: o1 :: ts) (y :: x :: us) H) (e1 : o1.toD = some d1) (e2 : o2.toD = some d2) (e : g d1 d2 = some z)
    (q : ∀ v H', Rp c env σ (z :: ts) (v :: us) H' → Ex H H' → Q v H') : r x y H Q := by
  have R1 := (Rp.turn (xs := [.dat d2]) (vs := [y]) (R.freeze e2) rfl).freeze e1
  obtain ⟨F, fe, ft, f, en, t, nd, nw⟩ := R1
  cases t with
  | cons ra t =>
    cases t with
    | cons rb t =>
      cases ra with
      | dat ra =>
        cases rb with
        | dat rb =>
          refine hr F H x y d1 d2 z f.sub ra rb e Q fun v H' F' fp gr ro nf hf => q v H' (Rp.grow (fo := []) f en t nd nw gr ro nf hf) gr.h
theorem Rp.op1 {env : Env} {ts : List O} {us : List V} {r : V → Hp → VK → Prop} {g : PyData → Option O} {o1 z : O} {d1 : PyData} {x : V} (hr : Op1 c.K r g) (R : Rp c env σ (o1 :: ts) (x :: us) H) (e1 : o1.toD = some d1) (e : g d1 = some z)
    (q : ∀ v H', Rp c env σ (z :: ts) (v :: us) H' → Ex H H' → Q v H') : r x H Q := by
  obtain ⟨F, fe, ft, f, en, t, nd, nw⟩ := R.freeze e1
  cases t with
  | cons ra t =>
    cases ra with
    | dat ra =>
      refine hr F H x d1 z f.sub ra e Q fun v H' F' fp gr ro nf hf => q v H' (Rp.grow (fo := []) f en t nd nw gr ro nf hf) gr.h
/-- all the first trees are frozen -/
theorem Rp.freezes {env : Env} : ∀ {os : List O} {vs : List V} {ds : List PyData} {ts : List O} {us : List V}, Rp c env σ (os ++ ts) (vs ++ us) H → os.length = vs.length → O.toDs os = some ds → Rp c env σ (ds.map .dat ++ ts) (vs ++ us) H
  | [], [], ds, ts, us, R, _, e => by
    rw [O.toDs] at e
    cases e
    exact R
  | o :: os, v :: vs, ds, ts, us, R, hl, e => by
    rw [O.toDs] at e
    cases q1 : o.toD with
    | none => rw [q1] at e; cases e
    | some d =>
      cases q2 : O.toDs os with
      | none => rw [q1, q2] at e; cases e
      | some ds' =>
        rw [q1, q2] at e
        cases e
        have hl' : os.length = vs.length := by simpa using hl
        have R1 : Rp c env σ (.dat d :: (os ++ ts)) (v :: (vs ++ us)) H := Rp.freeze (o := o) R q1
        have R2 : Rp c env σ (os ++ .dat d :: ts) (vs ++ v :: us) H := by
          obtain ⟨F, fe, ft, f, en, t, nd, nw⟩ := R1
          cases t with
          | cons r t =>
            cases r with
            | dat r =>
              obtain ⟨f1, f2, rfl, t1, t2⟩ := t.split' hl'
              exact ⟨F, fe, _, f, en, t1.app (.cons (f1 := []) (.dat r) t2), by simpa using nd, by simpa using nw⟩
        exact Rp.turn (Rp.freezes R2 hl' q2) (by rw [List.length_map]; exact (toDs_len q2).trans hl')
  | [], _ :: _, _, _, _, _, hl, _ => by simp at hl
  | _ :: _, [], _, _, _, _, hl, _ => by simp at hl
where toDs_len : ∀ {os : List O} {ds : List PyData}, O.toDs os = some ds → ds.length = os.length
  | [], _, e => by rw [O.toDs] at e; cases e; rfl
  | o :: os, _, e => by
    rw [O.toDs] at e
    cases q1 : o.toD with
    | none => rw [q1] at e; cases e
    | some d =>
      cases q2 : O.toDs os with
      | none => rw [q1, q2] at e; cases e
      | some ds' =>
        rw [q1, q2] at e
        cases e
        simp [toDs_len q2]
theorem drs_of {K : Frag} {F H : Hp} : ∀ {ds : List PyData} {vs : List V} {fp : List Addr}, ROs K F H (ds.map .dat) vs fp → DRs K F vs ds ∧ fp = []
  | [], _, _, h => by cases h; exact ⟨.nil, rfl⟩
  | d :: ds, _, _, h => by
    cases h with
    | cons h1 h2 =>
      cases h1 with
      | dat h1 =>
        obtain ⟨a, b⟩ := drs_of h2
        subst b
        exact ⟨.cons h1 a, rfl⟩
theorem Rp.opn {env : Env} {ts : List O} {us : List V} {r : List V → Hp → VK → Prop} {g : List PyData → Option O} {os : List O} {z : O} {ds : List PyData} {vs : List V} (hr : Opn c.K r g) (R : Rp c env σ (os ++ ts) (vs ++ us) H) (hl : os.length = vs.length) (e1 : O.toDs os = some ds) (e : g ds = some z)
    (q : ∀ v H', Rp c env σ (z :: ts) (v :: us) H' → Ex H H' → Q v H') : r vs H Q := by
  obtain ⟨F, fe, ft, f, en, t, nd, nw⟩ := R.freezes hl e1
  obtain ⟨fa, fb, rfl, ta, tb⟩ := t.split' (by rw [List.length_map]; exact (Rp.freezes.toDs_len e1).trans hl)
  obtain ⟨ra, rfl⟩ := drs_of ta
  exact hr F H vs ds z f.sub ra e Q fun v H' F' fp gr ro nf hf => q v H' (Rp.grow (fo := []) f en tb nd nw gr ro nf hf) gr.h
theorem t_op2 {r : R2} {g : PyData → PyData → Option O} (hr : Op2 c.K r g) (h : tE c (p1 && p2) (k2 g f1 f2) σ H Q) : tOp r (tE c p1 f1) (tE c p2 f2) σ H Q := by
  obtain ⟨env, ts, us, R, q⟩ := h
  refine ⟨env, ts, us, R, ?_⟩
  unfold k2 RE.bind at q
  cases e1 : f1 env with
  | no => rw [e1] at q; exact q.elim
  | err x en => rw [e1] at q; exact q
  | ok o1 en1 =>
    rw [e1] at q
    intro x H1 R1 x1
    refine ⟨en1, o1 :: ts, x :: us, R1, ?_⟩
    simp only at q
    cases e2 : f2 en1 with
    | no => rw [e2] at q; exact q.elim
    | err x en =>
      rw [e2] at q
      exact fun H2 R2 => q H2 R2.pop
    | ok o2 en2 =>
      rw [e2] at q
      intro y H2 R2 x2
      simp only at q
      split at q
      · rename_i d1 d2 z1 z2
        split at q
        · rename_i z ez
          exact R2.op2 hr z1 z2 ez fun v H' R3 x3 => q v H' R3 fun h => (and_ex x1 x2 h).trans x3
        · exact q.elim
      · exact q.elim
theorem t_op1 {r : V → Hp → VK → Prop} {g : PyData → Option O} (hr : Op1 c.K r g) (h : tE c p1 (k1 g f1) σ H Q) : tUn r (tE c p1 f1) σ H Q := by
  obtain ⟨env, ts, us, R, q⟩ := h
  refine ⟨env, ts, us, R, ?_⟩
  unfold k1 RE.bind at q
  cases e1 : f1 env with
  | no => rw [e1] at q; exact q.elim
  | err x en => rw [e1] at q; exact q
  | ok o1 en1 =>
    rw [e1] at q
    intro x H1 R1 x1
    simp only at q
    split at q
    · rename_i d1 z1
      split at q
      · rename_i z ez
        exact R1.op1 hr z1 ez fun v H' R3 x3 => q v H' R3 fun h => (x1 h).trans x3
      · exact q.elim
    · exact q.elim
theorem t_opn {r : List V → Hp → VK → Prop} {g : List PyData → Option O} {f : Env → RE (List O)} {ios : List (Option Nat)} (hr : Opn c.K r g) (h : tE c p1 (kn g f) σ H Q) : tCB r (tAq c p1 ios f) σ H Q := by
  obtain ⟨env, ts, us, R, q⟩ := h
  refine ⟨env, ts, us, R, ?_⟩
  unfold kn RE.bind at q
  cases e1 : f env with
  | no => rw [e1] at q; exact q.elim
  | err x en => rw [e1] at q; exact q
  | ok os en1 =>
    rw [e1] at q
    intro vs H1 R1 hl _ _ x1
    simp only at q
    split at q
    · rename_i ds z1
      split at q
      · rename_i z ez
        exact R1.opn hr hl z1 ez fun v H' R3 x3 => q v H' R3 fun h => (x1 h).trans x3
      · exact q.elim
    · exact q.elim
/-- a op b -/
theorem de_op {op : Operator} {a b : Expr} {r : R2} {g : PyData → PyData → Option O} {pos : Pos} (ho : OpR X (binaryOp op) r) (hr : Op2 c.K r g) (h1 : DE X c p1 a f1) (h2 : DE X c p2 b f2) : DE X c (p1 && p2) (.BinOp a op b pos) (k2 g f1 f2) :=
  ⟨pu_2 h1.pure h2.pure, (pe_op ho h1.run h2.run).weak fun _ _ _ q => t_op2 hr q⟩
theorem de_un {op : UnaryOp} {a : Expr} {r : V → Hp → VK → Prop} {g : PyData → Option O} {pos : Pos} (ho : UnR X (unaryOp op) r) (hr : Op1 c.K r g) (h1 : DE X c p1 a f1) : DE X c p1 (.UnaryOp op a pos) (k1 g f1) :=
  ⟨pu_1 h1.pure, (pe_un ho h1.run).weak fun _ _ _ q => t_op1 hr q⟩
theorem de_cmp {op : CmpOp} {a b : Expr} {r : R2} {g : PyData → PyData → Option O} {pos : Pos} (ho : OpR X (compareOp op) r) (hr : Op2 c.K r g) (h1 : DE X c p1 a f1) (h2 : DE X c p2 b f2) (hm : behindInMarks op b = false) : DE X c (p1 && p2) (.Compare a [op] [b] pos) (k2 g f1 f2) :=
  ⟨pu_2 h1.pure h2.pure, (pe_cmpR ho h1.run h2.run hm).weak fun _ _ _ q => t_op2 hr q⟩
theorem de_ix {a b : Expr} {r : R2} {g : PyData → PyData → Option O} {pos : Pos} (ho : IxR X r) (hr : Op2 c.K r g) (h1 : DE X c p1 a f1) (h2 : DE X c p2 b f2) (hs : PlainIx b) : DE X c (p1 && p2) (.Subscript a b pos) (k2 g f1 f2) :=
  ⟨pu_2 h1.pure h2.pure, (pe_ix ho h1.run h2.run hs).weak fun _ _ _ q => t_op2 hr q⟩
theorem de_cb {id : String} {x : Str} {e : Expr} {es : List Expr} {r : List V → Hp → VK → Prop} {g : List PyData → Option O} {f : Env → RE (List O)} {ios : List (Option Nat)} {p pos : Pos} (hc : CallR X (.builtin id) r) (hr : Opn c.K r g) (hg : Gl X x) (hm : X.mg x = none) (hv : bootBuiltins x = some (.builtin id))
    (ha : DA X c p1 ios (e :: es) f) (hn : x ≠ "__name__" := by decide) (hdb : (x == ("__debug__" : Str)) = false := by decide)
    (he : starEach (e :: es) X.env = (false, eval e X.env) :: starEach es X.env := by rfl) (hpl : (backTo pos (starEach es X.env)).any (·.1) = false := by rfl) :
    DE X c p1 (.Call (.Name x p) (e :: es) [] pos) (kn g f) :=
  ⟨pu_n ha.pure, (pe_callB hc hg hm hv ha.run hn hdb he hpl).weak fun _ _ _ q => t_opn hr q⟩
theorem de_ct {T : String} {x : Str} {e : Expr} {es : List Expr} {r : List V → Hp → VK → Prop} {g : List PyData → Option O} {f : Env → RE (List O)} {ios : List (Option Nat)} {p pos : Pos} (hc : CallR X (.type T) r) (hr : Opn c.K r g) (hg : Gl X x) (hm : X.mg x = none) (hv : bootBuiltins x = some (.type T))
    (ha : DA X c p1 ios (e :: es) f) (hn : x ≠ "__name__" := by decide) (hdb : (x == ("__debug__" : Str)) = false := by decide)
    (he : starEach (e :: es) X.env = (false, eval e X.env) :: starEach es X.env := by rfl) (hpl : (backTo pos (starEach es X.env)).any (·.1) = false := by rfl) :
    DE X c p1 (.Call (.Name x p) (e :: es) [] pos) (kn g f) :=
  ⟨pu_n ha.pure, (pe_callTy hc hg hm hv ha.run hn hdb he hpl).weak fun _ _ _ q => t_opn hr q⟩
end
end DP
end

section
namespace DP
open PySem PySem.Spec PyProof.Rows L2
/-! ### tests -/
def kB (f : EF) : Env → RE Bool := fun env => (f env).bind fun o e1 => match o with
  | .dat (.bool b) => .ok b e1
  | _ => .no
def kAnd (f g : Env → RE Bool) : Env → RE Bool := fun env => (f env).bind fun b e1 => if b = true then g e1 else .ok false e1
def kOr (f g : Env → RE Bool) : Env → RE Bool := fun env => (f env).bind fun b e1 => if b = true then .ok true e1 else g e1
def kNot (f : Env → RE Bool) : Env → RE Bool := fun env => (f env).bind fun b e1 => .ok (!b) e1
def kAndV (f g : EF) : EF := fun env => (f env).bind fun o e1 => match o with
  | .dat (.bool true) => g e1
  | .dat (.bool false) => .ok (.dat (.bool false)) e1
  | _ => .no
def kOrV (f g : EF) : EF := fun env => (f env).bind fun o e1 => match o with
  | .dat (.bool true) => .ok (.dat (.bool true)) e1
  | .dat (.bool false) => g e1
  | _ => .no
def kNotV (f : EF) : EF := fun env => (f env).bind fun o e1 => match o with
  | .dat (.bool b) => .ok (.dat (.bool !b)) e1
  | _ => .no
def kIte (t : Env → RE Bool) (f g : EF) : EF := fun env => (t env).bind fun b e1 => if b = true then f e1 else g e1
theorem Rp.bl {c : Fc} {env : Env} {σ : L2.St} {ts : List O} {us : List V} {H : Hp} {b : Bool} {v : V} (R : Rp c env σ (.dat (.bool b) :: ts) (v :: us) H) : v = .bl b := by
  obtain ⟨F, fe, ft, f, e, t, nd, nw⟩ := R
  cases t with
  | cons r t =>
    cases r with
    | dat r => cases r; rfl
theorem Rp.bpush {c : Fc} {env : Env} {σ : L2.St} {ts : List O} {us : List V} {H : Hp} {b : Bool} (R : Rp c env σ ts us H) : Rp c env σ (.dat (.bool b) :: ts) (.bl b :: us) H := R.push fun _ _ => .bl b
section
variable {X : Cx} {c : Fc} {p1 p2 p3 : Bool} {f1 f2 f3 : EF} {g1 g2 : Env → RE Bool} {σ : L2.St} {H : Hp} {a b : Expr} {rest : List Expr} {pos : Pos}
theorem pu_bind {α β : Type} {f : Env → RE α} {g : α → Env → RE β} (h1 : Pu p1 f) (h2 : ∀ a, Pu p2 (g a)) : Pu (p1 && p2) (fun env => (f env).bind g) := fun h env o env' q => by
  cases p1 <;> cases p2 <;> simp at h
  unfold RE.bind at q
  cases e1 : f env with
  | no => simp only [e1] at q; cases q
  | err x en => simp only [e1] at q; cases q
  | ok o1 en1 =>
    simp only [e1] at q
    have z1 := h1 rfl _ _ _ e1
    subst z1
    exact h2 o1 rfl _ _ _ q
theorem pu_ok {α : Type} {p : Bool} {a : α} : Pu p (fun env => RE.ok a env) := fun _ env o env' h => by cases h; rfl
theorem pu_no {α : Type} {p : Bool} : Pu (α := α) p (fun env => RE.no) := fun _ env o env' h => by cases h
theorem pu_true (p : Bool) : (p && true) = p := by cases p <;> rfl
theorem pu_kB (h : Pu p1 f1) : Pu p1 (kB f1) := by
  have := pu_bind (p2 := true) h (g := fun o e1 => match o with | .dat (.bool b) => .ok b e1 | _ => .no) fun o => by
    intro _ env o' env' q
    split at q <;> first | (cases q; rfl) | cases q
  rw [pu_true] at this
  exact this
/-- an expression's bool, as a test -/
theorem t_kB {Q : Bool → Hp → Prop} (h : tBq c p1 (kB f1) σ H Q) : tE c p1 f1 σ H fun x H1 => ∃ k, x = .bl k ∧ Q k H1 := by
  obtain ⟨env, ts, us, R, q⟩ := h
  refine ⟨env, ts, us, R, ?_⟩
  unfold kB RE.bind at q
  cases e1 : f1 env with
  | no => rw [e1] at q; exact q.elim
  | err x en => rw [e1] at q; exact q
  | ok o en =>
    rw [e1] at q
    simp only at q
    intro v H1 R1 x1
    split at q
    · rename_i b
      obtain rfl := R1.bl
      exact ⟨b, rfl, q H1 R1.pop x1⟩
    · exact q.elim
theorem dt_val (h : DE X c p1 a f1) (he : ∀ whole, isTrue a X.env whole = (do let v ← whole; standAt a.pos; holding [v] (truthy v)) := by intro _; rfl) : DT X c p1 a (kB f1) :=
  ⟨pu_kB h.pure, (pt_val h.run he).weak fun _ _ _ q => t_kB q⟩
theorem dt_cmp {op : CmpOp} {r : R2} {g : PyData → PyData → Option O} (ho : OpR X (compareOp op) r) (hr : Op2 c.K r g) (h1 : DE X c p1 a f1) (h2 : DE X c p2 b f2) (hm : behindInMarks op b = false) : DT X c (p1 && p2) (.Compare a [op] [b] pos) (kB (k2 g f1 f2)) :=
  ⟨pu_kB (pu_2 h1.pure h2.pure), (pt_cmpR ho h1.run h2.run hm).weak fun _ _ _ q => t_op2 hr (t_kB q)⟩
theorem dw_and1 (h : DT X c p1 a g1) : DW X c p1 (.BoolOp .And [a] pos) g1 := ⟨h.pure, pw_and1 h.run⟩
theorem dw_or1 (h : DT X c p1 a g1) : DW X c p1 (.BoolOp .Or [a] pos) g1 := ⟨h.pure, pw_or1 h.run⟩
theorem pu_ite {α : Type} {c : Prop} [Decidable c] {p : Bool} {f g : Env → RE α} (hf : Pu p f) (hg : Pu p g) : Pu p (fun e => if c then f e else g e) := by
  intro h env o env' q
  simp only at q
  split at q
  · exact hf h _ _ _ q
  · exact hg h _ _ _ q
theorem pu_ff (x : Bool) : (x && true) = x := by cases x <;> rfl
theorem dw_and (h1 : DT X c p1 a g1) (h2 : DW X c p2 (.BoolOp .And (b :: rest) pos) g2) : DW X c (p1 && p2) (.BoolOp .And (a :: b :: rest) pos) (kAnd g1 g2) := by
  refine ⟨pu_bind h1.pure fun x => pu_ite h2.pure pu_ok, (pw_and h1.run h2.run).weak fun σ H Q ⟨env, ts, us, R, q⟩ => ?_⟩
  refine ⟨env, ts, us, R, ?_⟩
  unfold kAnd RE.bind at q
  cases e1 : g1 env with
  | no => rw [e1] at q; exact q.elim
  | err x en => rw [e1] at q; exact q
  | ok o en =>
    rw [e1] at q
    simp only at q
    intro H1 R1 x1
    cases o with
    | true =>
      rw [if_pos rfl] at q ⊢
      refine ⟨en, ts, us, R1, ?_⟩
      cases e2 : g2 en with
      | no => rw [e2] at q; exact q.elim
      | err x en => rw [e2] at q; exact q
      | ok o2 en2 =>
        rw [e2] at q
        exact fun H2 R2 x2 => q H2 R2 (and_ex x1 x2)
    | false =>
      rw [if_neg Bool.false_ne_true] at q ⊢
      exact q H1 R1 fun h => x1 (by cases p1 <;> simp at h; rfl)
theorem dw_or (h1 : DT X c p1 a g1) (h2 : DW X c p2 (.BoolOp .Or (b :: rest) pos) g2) : DW X c (p1 && p2) (.BoolOp .Or (a :: b :: rest) pos) (kOr g1 g2) := by
  refine ⟨pu_bind h1.pure fun x => pu_ite pu_ok h2.pure, (pw_or h1.run h2.run).weak fun σ H Q ⟨env, ts, us, R, q⟩ => ?_⟩
  refine ⟨env, ts, us, R, ?_⟩
  unfold kOr RE.bind at q
  cases e1 : g1 env with
  | no => rw [e1] at q; exact q.elim
  | err x en => rw [e1] at q; exact q
  | ok o en =>
    rw [e1] at q
    simp only at q
    intro H1 R1 x1
    cases o with
    | false =>
      rw [if_neg Bool.false_ne_true] at q ⊢
      refine ⟨en, ts, us, R1, ?_⟩
      cases e2 : g2 en with
      | no => rw [e2] at q; exact q.elim
      | err x en => rw [e2] at q; exact q
      | ok o2 en2 =>
        rw [e2] at q
        exact fun H2 R2 x2 => q H2 R2 (and_ex x1 x2)
    | true =>
      rw [if_pos rfl] at q ⊢
      exact q H1 R1 fun h => x1 (by cases p1 <;> simp at h; rfl)
theorem dt_bool {e : Expr} (h : DW X c p1 e g1) : DT X c p1 e g1 := ⟨h.pure, h.run.pt⟩
theorem dt_not (h : DT X c p1 a g1) : DT X c p1 (.UnaryOp .Not a pos) (kNot g1) := by
  refine ⟨pu_true p1 ▸ pu_bind (p2 := true) h.pure (g := fun b e1 => .ok (!b) e1) fun x => pu_ok, (pt_not h.run).weak fun σ H Q ⟨env, ts, us, R, q⟩ => ?_⟩
  refine ⟨env, ts, us, R, ?_⟩
  unfold kNot RE.bind at q
  cases e1 : g1 env with
  | no => rw [e1] at q; exact q.elim
  | err x en => rw [e1] at q; exact q
  | ok o en => rw [e1] at q; exact q
/-! .. as values -/
theorem de_one {op} (h : DE X c p1 a f1) : DE X c p1 (.BoolOp op [a] pos) f1 := ⟨h.pure, pe_one h.run⟩
theorem de_and (h1 : DE X c p1 a f1) (h2 : DE X c p2 (.BoolOp .And (b :: rest) pos) f2) : DE X c (p1 && p2) (.BoolOp .And (a :: b :: rest) pos) (kAndV f1 f2) := by
  refine ⟨pu_bind h1.pure fun o => ?_, (pe_and h1.run h2.run).weak fun σ H Q ⟨env, ts, us, R, q⟩ => ?_⟩
  · intro h env o' env' q
    split at q
    · exact h2.pure h _ _ _ q
    · cases q; rfl
    · cases q
  · refine ⟨env, ts, us, R, ?_⟩
    unfold kAndV RE.bind at q
    cases e1 : f1 env with
    | no => rw [e1] at q; exact q.elim
    | err x en => rw [e1] at q; exact q
    | ok o en =>
      rw [e1] at q
      simp only at q
      intro v H1 R1 x1
      split at q
      · obtain rfl := R1.bl
        refine ⟨true, rfl, ?_⟩
        rw [if_pos rfl]
        refine ⟨en, ts, us, R1.pop, ?_⟩
        cases e2 : f2 en with
        | no => rw [e2] at q; exact q.elim
        | err x en => rw [e2] at q; exact q
        | ok o2 en2 =>
          rw [e2] at q
          exact fun v2 H2 R2 x2 => q v2 H2 R2 (and_ex x1 x2)
      · obtain rfl := R1.bl
        refine ⟨false, rfl, ?_⟩
        rw [if_neg Bool.false_ne_true]
        exact q _ H1 R1 fun h => x1 (by cases p1 <;> simp at h; rfl)
      · exact q.elim
theorem de_or (h1 : DE X c p1 a f1) (h2 : DE X c p2 (.BoolOp .Or (b :: rest) pos) f2) : DE X c (p1 && p2) (.BoolOp .Or (a :: b :: rest) pos) (kOrV f1 f2) := by
  refine ⟨pu_bind h1.pure fun o => ?_, (pe_or h1.run h2.run).weak fun σ H Q ⟨env, ts, us, R, q⟩ => ?_⟩
  · intro h env o' env' q
    split at q
    · cases q; rfl
    · exact h2.pure h _ _ _ q
    · cases q
  · refine ⟨env, ts, us, R, ?_⟩
    unfold kOrV RE.bind at q
    cases e1 : f1 env with
    | no => rw [e1] at q; exact q.elim
    | err x en => rw [e1] at q; exact q
    | ok o en =>
      rw [e1] at q
      simp only at q
      intro v H1 R1 x1
      split at q
      · obtain rfl := R1.bl
        refine ⟨true, rfl, ?_⟩
        rw [if_pos rfl]
        exact q _ H1 R1 fun h => x1 (by cases p1 <;> simp at h; rfl)
      · obtain rfl := R1.bl
        refine ⟨false, rfl, ?_⟩
        rw [if_neg Bool.false_ne_true]
        refine ⟨en, ts, us, R1.pop, ?_⟩
        cases e2 : f2 en with
        | no => rw [e2] at q; exact q.elim
        | err x en => rw [e2] at q; exact q
        | ok o2 en2 =>
          rw [e2] at q
          exact fun v2 H2 R2 x2 => q v2 H2 R2 (and_ex x1 x2)
      · exact q.elim
theorem de_not (h : DE X c p1 a f1) : DE X c p1 (.UnaryOp .Not a pos) (kNotV f1) := by
  refine ⟨?_, (pe_not h.run).weak fun σ H Q ⟨env, ts, us, R, q⟩ => ?_⟩
  · have := pu_bind (p2 := true) h.pure (g := fun o e1 => match o with | .dat (.bool b) => RE.ok (O.dat (.bool !b)) e1 | _ => .no) fun o => by
      intro _ env o' env' q
      split at q <;> first | (cases q; rfl) | cases q
    rw [pu_true] at this
    exact this
  · refine ⟨env, ts, us, R, ?_⟩
    unfold kNotV RE.bind at q
    cases e1 : f1 env with
    | no => rw [e1] at q; exact q.elim
    | err x en => rw [e1] at q; exact q
    | ok o en =>
      rw [e1] at q
      simp only at q
      intro v H1 R1 x1
      split at q
      · rename_i b
        obtain rfl := R1.bl
        exact ⟨b, rfl, q _ H1 R1.pop.bpush x1⟩
      · exact q.elim
theorem de_ifx {t : Expr} (ht : DT X c p1 t g1) (h1 : DE X c p2 a f1) (h2 : DE X c p2 b f2) : DE X c (p1 && p2) (.IfExp t a b pos) (kIte g1 f1 f2) := by
  refine ⟨pu_bind ht.pure fun x => pu_ite h1.pure h2.pure, (pe_ifExp ht.run h1.run h2.run).weak fun σ H Q ⟨env, ts, us, R, q⟩ => ?_⟩
  refine ⟨env, ts, us, R, ?_⟩
  unfold kIte RE.bind at q
  cases e1 : g1 env with
  | no => rw [e1] at q; exact q.elim
  | err x en => rw [e1] at q; exact q
  | ok o en =>
    rw [e1] at q
    simp only at q
    intro H1 R1 x1
    cases o with
    | true =>
      rw [if_pos rfl] at q ⊢
      refine ⟨en, ts, us, R1, ?_⟩
      cases e2 : f1 en with
      | no => rw [e2] at q; exact q.elim
      | err x en => rw [e2] at q; exact q
      | ok o2 en2 =>
        rw [e2] at q
        exact fun v2 H2 R2 x2 => q v2 H2 R2 (and_ex x1 x2)
    | false =>
      rw [if_neg Bool.false_ne_true] at q ⊢
      refine ⟨en, ts, us, R1, ?_⟩
      cases e2 : f2 en with
      | no => rw [e2] at q; exact q.elim
      | err x en => rw [e2] at q; exact q
      | ok o2 en2 =>
        rw [e2] at q
        exact fun v2 H2 R2 x2 => q v2 H2 R2 (and_ex x1 x2)
/-- a purity flag is forgotten -/
theorem DE.any (h : DE X c p1 a f1) : DE X c false a f1 := ⟨Pu.no, h.run.weak fun σ H Q ⟨env, ts, us, R, q⟩ => ⟨env, ts, us, R, by
  cases e : f1 env with
  | no => rw [e] at q; exact q.elim
  | err x en => rw [e] at q; exact q
  | ok o en => rw [e] at q; exact fun v H' R' _ => q v H' R' fun z => nomatch z⟩⟩
/-- a op b op' d -/
def kCh (g g' : PyData → PyData → Option O) (f1 f2 f3 : EF) : EF := fun env => (f1 env).bind fun o1 e1 => (f2 e1).bind fun o2 e2 => match o1.toD, o2.toD with
  | some d1, some d2 => match g d1 d2 with
    | some (.dat (.bool true)) => (f3 e2).bind fun o3 e3 => match o3.toD with
      | some d3 => match g' d2 d3 with
        | some (.dat (.bool b)) => .ok (.dat (.bool b)) e3
        | _ => .no
      | none => .no
    | some (.dat (.bool false)) => .ok (.dat (.bool false)) e2
    | _ => .no
  | _, _ => .no
theorem t_chain {r r' : R2} {g g' : PyData → PyData → Option O} {Q : VK} (hr : Op2 c.K r g) (hr' : Op2 c.K r' g') (h : tE c false (kCh g g' f1 f2 f3) σ H Q) : tChain r r' (tE c p1 f1) (tE c p2 f2) (tE c p3 f3) σ H Q := by
  obtain ⟨env, ts, us, R, q⟩ := h
  refine ⟨env, ts, us, R, ?_⟩
  unfold kCh RE.bind at q
  cases e1 : f1 env with
  | no => rw [e1] at q; exact q.elim
  | err x en => rw [e1] at q; exact q
  | ok o1 en1 =>
    rw [e1] at q
    intro x H1 R1 x1
    refine ⟨en1, o1 :: ts, x :: us, R1, ?_⟩
    simp only at q
    cases e2 : f2 en1 with
    | no => rw [e2] at q; exact q.elim
    | err x en =>
      rw [e2] at q
      exact fun H2 R2 => q H2 R2.pop
    | ok o2 en2 =>
      rw [e2] at q
      intro y H2 R2 x2
      simp only at q
      split at q
      · rename_i d1 d2 z1 z2
        -- keep the middle one below
        have R2' : Rp c en2 σ (.dat d2 :: o1 :: .dat d2 :: ts) (y :: x :: y :: us) H2 := by
          have R3 := Rp.turn (xs := [.dat d2]) (vs := [y]) (R2.freeze z2) rfl
          obtain ⟨F, fe, ft, f, en, t, nd, nw⟩ := R3
          cases t with
          | cons ra t =>
            cases t with
            | cons rb t =>
              cases rb with
              | dat rb =>
                exact ⟨F, fe, _, f, en, .cons (f1 := []) (.dat rb) (.cons ra (.cons (f1 := []) (.dat rb) t)), nd, nw⟩
        split at q
        · rename_i ez
          refine Rp.op2 hr R2' z1 rfl ez fun v H3 R3 x3 => ?_
          obtain rfl := R3.bl
          refine ⟨true, rfl, ?_⟩
          rw [if_pos rfl]
          refine ⟨en2, .dat d2 :: ts, y :: us, R3.pop, ?_⟩
          cases e3 : f3 en2 with
          | no => rw [e3] at q; exact q.elim
          | err x en =>
            rw [e3] at q
            exact fun H2 R2 => q H2 R2.pop
          | ok o3 en3 =>
            rw [e3] at q
            simp only at q
            intro w H4 R4 x4
            split at q
            · rename_i d3 z3
              split at q
              · rename_i b eb
                exact Rp.op2 hr' R4 rfl z3 eb fun v H5 R5 _ => q v H5 R5 fun z => nomatch z
              · exact q.elim
            · exact q.elim
        · rename_i ez
          refine Rp.op2 hr R2' z1 rfl ez fun v H3 R3 x3 => ?_
          obtain rfl := R3.bl
          refine ⟨false, rfl, ?_⟩
          rw [if_neg Bool.false_ne_true]
          exact q _ H3 R3.pop.pop.bpush fun z => nomatch z
        · exact q.elim
      · exact q.elim
theorem de_chain {op op' : CmpOp} {r r' : R2} {d : Expr} {g g' : PyData → PyData → Option O} (ho : OpR X (compareOp op) r) (ho' : OpR X (compareOp op') r') (hr : Op2 c.K r g) (hr' : Op2 c.K r' g') (h1 : DE X c p1 a f1) (h2 : DE X c p2 b f2) (h3 : DE X c p3 d f3)
    (hm : lastMarks [op, op'] [b, d] = false := by with_unfolding_all rfl) : DE X c false (.Compare a [op, op'] [b, d] pos) (kCh g g' f1 f2 f3) :=
  ⟨Pu.no, (pe_chain ho ho' h1.run h2.run h3.run hm).weak fun _ _ _ q => t_chain hr hr' q⟩
theorem dt_chain {op op' : CmpOp} {r r' : R2} {d : Expr} {g g' : PyData → PyData → Option O} (ho : OpR X (compareOp op) r) (ho' : OpR X (compareOp op') r') (hr : Op2 c.K r g) (hr' : Op2 c.K r' g') (h1 : DE X c p1 a f1) (h2 : DE X c p2 b f2) (h3 : DE X c p3 d f3)
    (hm : lastMarks [op, op'] [b, d] = false := by with_unfolding_all rfl) : DT X c false (.Compare a [op, op'] [b, d] pos) (kB (kCh g g' f1 f2 f3)) :=
  ⟨Pu.no, (pt_chain ho ho' h1.run h2.run h3.run hm).weak fun _ _ _ q => t_chain hr hr' (t_kB q)⟩
end
end DP
end

section
namespace DP
open PySem PySem.Spec PyProof.Rows L2
/-! ### statements -/
inductive RS where
  | nx (env : Env)
  | rt (o : O) (env : Env)
  | bk (env : Env)
  | ct (env : Env)
  | err (x : Str) (env : Env)
  | no
def PostS (c : Fc) (ts : List O) (us : List V) (D : Ends) : RS → Prop
  | .nx env => ∀ σ' H', Rp c env σ' ts us H' → D.nx σ' H'
  | .rt o env => ∀ v σ' H', Rp c env σ' (o :: ts) (v :: us) H' → D.rt v H'
  | .bk env => ∀ σ' H', Rp c env σ' ts us H' → D.bk σ' H'
  | .ct env => ∀ σ' H', Rp c env σ' ts us H' → D.ct σ' H'
  | .err x env => ∀ σ' H', Rp c env σ' ts us H' → c.W (c.cls x) none σ' H'
  | .no => False
def tSq (c : Fc) (g : Env → RS) : TS := fun D σ H => ∃ env ts us, Rp c env σ ts us H ∧ PostS c ts us D (g env)
structure DS (X : Cx) (c : Fc) (st : Stmt) (g : Env → RS) : Prop where
  run : PS X st (tSq c g)
structure DSs (X : Cx) (c : Fc) (st : List Stmt) (g : Env → RS) : Prop where
  run : PSs X st (tSq c g)
def RE.st {α : Type} (r : RE α) (f : α → Env → RS) : RS := match r with
  | .ok a env => f a env
  | .err x env => .err x env
  | .no => .no
def RS.sq (r : RS) (g : Env → RS) : RS := match r with
  | .nx env => g env
  | r => r
def kSq (f g : Env → RS) : Env → RS := fun env => (f env).sq g
def kNx : Env → RS := fun env => .nx env
def kEx (f : EF) : Env → RS := fun env => (f env).st fun _ e => .nx e
def kRt (f : EF) : Env → RS := fun env => (f env).st fun o e => .rt o e
def kIf (t : Env → RE Bool) (f g : Env → RS) : Env → RS := fun env => (t env).st fun b e => if b = true then f e else g e
abbrev GF := O → Env → Option Env
def hName (i : Nat) : GF := fun o env => match env[i]? with
  | some s => if s.w = true then some (env.set i (.v o)) else none
  | none => none
theorem w_cases {s : Sl} (h : s.w = true) : s = .no ∨ ∃ o, s = .v o := by
  cases s with
  | no => exact .inl rfl
  | v o => exact .inr ⟨o, rfl⟩
  | io o => cases h
  | mv => cases h
def kAs (f : EF) (h : GF) : Env → RS := fun env => (f env).st fun o e => match h o e with
  | some e' => .nx e'
  | none => .no
def hNil : List O → Env → Option Env := fun os env => match os with
  | [] => some env
  | _ => none
def hCons (h : GF) (hs : List O → Env → Option Env) : List O → Env → Option Env := fun os env => match os with
  | o :: r => match h o env with
    | some e => hs r e
    | none => none
  | [] => none
def hTup (n : Nat) (hs : List O → Env → Option Env) : GF := fun o env => match o with
  | .dat (.tuple ds) => if ds.length = n then hs (ds.map .dat) env else none
  | .node .tup os => if os.length = n then hs os env else none
  | _ => none
def PostG (c : Fc) (gs : List Nat) (σ : L2.St) (ts : List O) (us : List V) (Q : L2.St → Hp → Prop) : Option Env → Prop
  | some env => ∀ σ' H', Rp c env σ' ts us H' → σ'.length = σ.length → (∀ j, j ∉ gs → σ'[j]? = σ[j]?) → Q σ' H'
  | none => False
def tGq (c : Fc) (gs : List Nat) (h : GF) : TG := fun v σ H Q => ∃ env ts us o, Rp c env σ (o :: ts) (v :: us) H ∧ PostG c gs σ ts us Q (h o env)
def tGsq (c : Fc) (gs : List Nat) (h : List O → Env → Option Env) : TGs := fun vs σ H Q => ∃ env ts us os, Rp c env σ (os ++ ts) (vs ++ us) H ∧ os.length = vs.length ∧ PostG c gs σ ts us Q (h os env)
structure DG (X : Cx) (c : Fc) (gs : List Nat) (tg : Expr) (h : GF) : Prop where
  run : PG X tg (tGq c gs h)
structure DGs (X : Cx) (c : Fc) (gs : List Nat) (tgs : List Expr) (h : List O → Env → Option Env) : Prop where
  run : PGs X tgs (tGsq c gs h)
theorem _root_.L2.PG.weak {X : Cx} {e : Expr} {t t' : TG} (h : PG X e t) (w : ∀ v σ H Q, t' v σ H Q → t v σ H Q) : PG X e t' := ⟨fun pins s σ H v u Q I r q => h.run pins s σ H v u Q I r (w v σ H Q q)⟩
theorem _root_.L2.PGs.weak {X : Cx} {es : List Expr} {t t' : TGs} (h : PGs X es t) (w : ∀ v σ H Q, t' v σ H Q → t v σ H Q) : PGs X es t' := ⟨fun pins s σ H v u Q I r q => h.run pins s σ H v u Q I r (w v σ H Q q)⟩
theorem _root_.L2.PI.weak {X : Cx} {tg e : Expr} {t t' : TI} (h : PI X tg e t) (w : ∀ σ H Q, t' σ H Q → t σ H Q) : PI X tg e t' := ⟨fun pins s σ H R I q => h.run pins s σ H R I (w σ H R q)⟩
theorem _root_.L2.PTs.weak {X : Cx} {es : List Expr} {t t' : TT} (h : PTs X es t) (w : ∀ σ H Q, t' σ H Q → t σ H Q) : PTs X es t' := ⟨fun pins s σ H Q I q => h.run pins s σ H Q I (w σ H Q q)⟩
section
variable {c : Fc} {env : Env} {σ : L2.St} {ts : List O} {us : List V} {H : Hp}
/-- a tuple's items come on top -/
theorem Rp.items {ds : List PyData} {v : V} (R : Rp c env σ (.dat (.tuple ds) :: ts) (v :: us) H) : ∃ a vs, v = .ref a ∧ SqT c.K H a vs ∧ ds.length = vs.length ∧ Rp c env σ (ds.map .dat ++ ts) (vs ++ us) H := by
  obtain ⟨F, fe, ft, f, e, t, nd, nw⟩ := R
  cases t with
  | cons r t =>
    cases r with
    | dat r =>
      cases r with
      | tup hs ha =>
        have ro := dpAll_os (F := F) (H := H) ha
        exact ⟨_, _, rfl, f.sub.t hs, by have := ro.length; simpa using this, F, fe, _, f, e, ro.app t, by simpa using nd, by simpa using nw⟩
theorem Rp.kids {os : List O} {v : V} (R : Rp c env σ (.node .tup os :: ts) (v :: us) H) : ∃ a vs, v = .ref a ∧ SqT c.K H a vs ∧ os.length = vs.length ∧ Rp c env σ (os ++ ts) (vs ++ us) H := by
  obtain ⟨F, fe, ft, f, e, t, nd, nw⟩ := R
  cases t with
  | cons r t =>
    cases r with
    | node h1 h2 h3 h4 =>
      rename_i f2 p vs h fp
      have h3' : h = .tup vs := h3
      subst h3'
      refine ⟨_, _, rfl, SqT.of h2, h4.length, Rp.of f e (h4.app t) (all := fe ++ (p :: fp ++ f2)) ?_ nd nw⟩
      refine (Sub.refl fe).app ?_
      exact ⟨[p], by
        show (fp ++ f2 ++ [p]).Perm (p :: (fp ++ f2))
        exact List.perm_append_comm⟩
/-- what is dropped from below the top -/
theorem Rp.under {o : O} {v : V} {xs : List O} {vs : List V} (R : Rp c env σ (o :: (xs ++ ts)) (v :: (vs ++ us)) H) (hl : xs.length = vs.length) : Rp c env σ (o :: ts) (v :: us) H := by
  obtain ⟨F, fe, ft, f, e, t, nd, nw⟩ := R
  cases t with
  | cons r t =>
    rename_i f1 f2
    obtain ⟨f3, f4, rfl, t1, t2⟩ := t.split' hl
    exact Rp.of f e (.cons r t2) (all := fe ++ (f1 ++ (f3 ++ f4))) ((Sub.refl fe).app ((Sub.refl f1).app (Sub.right f3 f4))) nd nw
end
section
variable {X : Cx} {c : Fc} {p1 p2 p3 : Bool} {f1 f2 f3 : EF} {t1 : Env → RE Bool} {g1 g2 : Env → RS} {a b : Expr} {st : Stmt} {rest : List Stmt} {pos : Pos}
theorem ds_nil : DSs X c [] kNx := ⟨pss_nil.weak fun D σ H ⟨env, ts, us, R, q⟩ => q σ H R⟩
theorem PostS.mono {c : Fc} {ts : List O} {us : List V} {D D' : Ends} (h1 : ∀ σ H, D.nx σ H → D'.nx σ H) (h2 : ∀ v H, D.rt v H → D'.rt v H) (h3 : ∀ σ H, D.bk σ H → D'.bk σ H) (h4 : ∀ σ H, D.ct σ H → D'.ct σ H) : ∀ {r : RS}, PostS c ts us D r → PostS c ts us D' r
  | .nx _, q => fun σ H R => h1 σ H (q σ H R)
  | .rt _ _, q => fun v σ H R => h2 v H (q v σ H R)
  | .bk _, q => fun σ H R => h3 σ H (q σ H R)
  | .ct _, q => fun σ H R => h4 σ H (q σ H R)
  | .err _ _, q => q
  | .no, q => q
theorem ds_cons (h1 : DS X c st g1) (h2 : DSs X c rest g2) : DSs X c (st :: rest) (kSq g1 g2) := by
  refine ⟨(pss_cons h1.run h2.run).weak fun D σ H ⟨env, ts, us, R, q⟩ => ?_⟩
  refine ⟨env, ts, us, R, ?_⟩
  unfold kSq RS.sq at q
  cases e : g1 env with
  | nx en => rw [e] at q; exact fun σ' H' R' => ⟨en, ts, us, R', q⟩
  | rt o en => rw [e] at q; exact q
  | bk en => rw [e] at q; exact q
  | ct en => rw [e] at q; exact q
  | err x en => rw [e] at q; exact q
  | no => rw [e] at q; exact q
theorem ds_one (h1 : DS X c st g1) : DSs X c [st] g1 := ⟨pss_one h1.run⟩
theorem ds_pass : DS X c (.Pass pos) kNx := ⟨ps_pass.weak fun D σ H ⟨env, ts, us, R, q⟩ => q σ H R⟩
theorem ds_break : DS X c (.Break pos) (fun env => .bk env) := ⟨ps_break.weak fun D σ H ⟨env, ts, us, R, q⟩ => q σ H R⟩
theorem ds_continue : DS X c (.Continue pos) (fun env => .ct env) := ⟨ps_continue.weak fun D σ H ⟨env, ts, us, R, q⟩ => q σ H R⟩
theorem ds_expr (h : DE X c p1 a f1) (hs : swapsWith a none pos.line X.env = pure false := by rfl) : DS X c (.Expr a pos) (kEx f1) := by
  refine ⟨(ps_expr h.run hs).weak fun D σ H ⟨env, ts, us, R, q⟩ => ?_⟩
  refine ⟨env, ts, us, R, ?_⟩
  unfold kEx RE.st at q
  cases e : f1 env with
  | no => rw [e] at q; exact q.elim
  | err x en => rw [e] at q; exact fun H' R' => q σ H' R'
  | ok o en => rw [e] at q; exact fun v H' R' _ => q σ H' R'.pop
theorem ds_ret (h : DE X c p1 a f1) : DS X c (.Return (some a) pos) (kRt f1) := by
  refine ⟨(ps_ret h.run).weak fun D σ H ⟨env, ts, us, R, q⟩ => ?_⟩
  refine ⟨env, ts, us, R, ?_⟩
  unfold kRt RE.st at q
  cases e : f1 env with
  | no => rw [e] at q; exact q.elim
  | err x en => rw [e] at q; exact fun H' R' => q σ H' R'
  | ok o en => rw [e] at q; exact fun v H' R' _ => q v σ H' R'
theorem ds_retN : DS X c (.Return none pos) (fun env => .rt (.dat .none) env) := ⟨ps_retN.weak fun D σ H ⟨env, ts, us, R, q⟩ => q .non σ H (R.push fun _ _ => .non)⟩
theorem ds_if {tb fb : List Stmt} (ht : DT X c p1 a t1) (h1 : DSs X c tb g1) (h2 : DSs X c fb g2) : DS X c (.If a tb fb pos) (kIf t1 g1 g2) := by
  refine ⟨(ps_if ht.run h1.run h2.run).weak fun D σ H ⟨env, ts, us, R, q⟩ => ?_⟩
  refine ⟨env, ts, us, R, ?_⟩
  unfold kIf RE.st at q
  cases e : t1 env with
  | no => rw [e] at q; exact q.elim
  | err x en => rw [e] at q; exact fun H' R' => q σ H' R'
  | ok o en =>
    rw [e] at q
    simp only at q
    intro H' R' _
    cases o with
    | true => rw [if_pos rfl] at q ⊢; exact ⟨en, ts, us, R', q⟩
    | false => rw [if_neg Bool.false_ne_true] at q ⊢; exact ⟨en, ts, us, R', q⟩
theorem post_name {i : Nat} {env : Env} {σ : L2.St} {ts : List O} {us : List V} {H : Hp} {o : O} {v : V} {Q : L2.St → Hp → Prop} (R : Rp c env σ (o :: ts) (v :: us) H) (q : PostG c [i] σ ts us Q (hName i o env)) : Q (σ.set i (some v)) H := by
  unfold hName at q
  have other : ∀ j, j ∉ [i] → (σ.set i (some v))[j]? = σ[j]? := fun j hj => List.getElem?_set_ne (fun e => hj (by simp [e]))
  split at q
  · rename_i s e
    split at q
    · rename_i hw
      rcases w_cases hw with rfl | ⟨o', rfl⟩
      · exact q _ H (R.store (.inl e)) (by simp) other
      · exact q _ H (R.store (.inr ⟨_, e⟩)) (by simp) other
    · exact q.elim
  · exact q.elim
theorem dg_name {i : Nat} {e : Expr} (h : PG X e (gName i)) : DG X c [i] e (hName i) := ⟨h.weak fun v σ H Q ⟨env, ts, us, o, R, q⟩ => post_name R q⟩
theorem dgs_nil : DGs X c [] [] hNil := ⟨pgs_nil.weak fun vs σ H Q ⟨env, ts, us, os, R, hl, q⟩ => by
  cases os with
  | nil =>
    have e : vs = [] := List.eq_nil_of_length_eq_zero hl.symm
    subst e
    exact ⟨rfl, q σ H R rfl fun _ _ => rfl⟩
  | cons o os => exact q.elim⟩
theorem dgs_cons {gs gs' : List Nat} {e : Expr} {es : List Expr} {h : GF} {hs : List O → Env → Option Env} (h1 : DG X c gs e h) (h2 : DGs X c gs' es hs)
    (hq : (assignEach (e :: es) X.env).map (·.2) = assign e X.env :: (assignEach es X.env).map (·.2) := by rfl) : DGs X c (gs ++ gs') (e :: es) (hCons h hs) := by
  refine ⟨(pgs_cons h1.run h2.run hq).weak fun vs σ H Q ⟨env, ts, us, os, R, hl, q⟩ => ?_⟩
  cases os with
  | nil => exact q.elim
  | cons o os =>
    cases vs with
    | nil => simp at hl
    | cons v vs =>
      refine ⟨v, vs, rfl, env, os ++ ts, vs ++ us, o, R, ?_⟩
      unfold hCons at q
      simp only at q
      split at q
      · rename_i en e1
        rw [e1]
        refine fun σ1 H1 R1 l1 k1 => ⟨en, ts, us, os, R1, by simpa using hl, ?_⟩
        cases e2 : hs os en with
        | none => rw [e2] at q; exact q.elim
        | some en2 =>
          rw [e2] at q
          exact fun σ2 H2 R2 l2 k2 => q σ2 H2 R2 (l2.trans l1) fun j hj => (k2 j fun z => hj (List.mem_append_right _ z)).trans (k1 j fun z => hj (List.mem_append_left _ z))
      · exact q.elim
theorem dg_tup {gs : List Nat} {es : List Expr} {k : Nat} {hs : List O → Env → Option Env} {n : Nat} (hc : X.calm = true) (hK : X.K = c.K) (h : DGs X c gs es hs)
    (hn : (assignEach es X.env).length = n := by rfl) (hst : (assignEach es X.env).findIdx? (·.1) = none := by rfl) : DG X c gs (.Tuple es k pos) (hTup n hs) := by
  refine ⟨(pg_tup hc h.run hn hst).weak fun v σ H Q ⟨env, ts, us, o, R, q⟩ => ?_⟩
  unfold hTup at q
  split at q
  · split at q
    · rename_i ds hl
      obtain ⟨a, vs, e, hs', hl', R'⟩ := R.items
      exact ⟨a, vs, e, hK ▸ hs', hl' ▸ hl, env, ts, us, _, R', by simpa using hl', q⟩
    · exact q.elim
  · split at q
    · rename_i os hl
      obtain ⟨a, vs, e, hs', hl', R'⟩ := R.kids
      exact ⟨a, vs, e, hK ▸ hs', hl' ▸ hl, env, ts, us, _, R', hl', q⟩
    · exact q.elim
  · exact q.elim
theorem t_as {gs : List Nat} {h : GF} {D : Ends} {σ : L2.St} {H : Hp} (q : tSq c (kAs f1 h) D σ H) : tAsg (tE c p1 f1) (tGq c gs h) D σ H := by
  obtain ⟨env, ts, us, R, q⟩ := q
  refine ⟨env, ts, us, R, ?_⟩
  unfold kAs RE.st at q
  cases e : f1 env with
  | no => rw [e] at q; exact q.elim
  | err x en => rw [e] at q; exact fun H' R' => q σ H' R'
  | ok o en =>
    rw [e] at q
    simp only at q
    intro v H' R' _
    refine ⟨en, ts, us, o, R', ?_⟩
    cases e2 : h o en with
    | none => rw [e2] at q; exact q.elim
    | some en2 => rw [e2] at q; exact fun σ2 H2 R2 _ _ => q σ2 H2 R2
theorem ds_asg {gs : List Nat} {tg : Expr} {h : GF} (h1 : DE X c p1 a f1) (h2 : DG X c gs tg h) (hs : swapsWithSole [tg] a pos.line X.env = pure false := by rfl) (hw : swappedStores [tg] a X.env = pure none := by rfl)
    (h3 : (assignEach [tg] X.env).map (·.2) = [assign tg X.env] := by rfl) : DS X c (.Assign [tg] a pos) (kAs f1 h) := ⟨(ps_asg h1.run h2.run hs hw h3).weak fun _ _ _ q => t_as q⟩
theorem t_set {i : Nat} {D : Ends} {σ : L2.St} {H : Hp} (q : tSq c (kAs f1 (hName i)) D σ H) : tAsg (tE c p1 f1) (gName i) D σ H := by
  obtain ⟨env, ts, us, R, q⟩ := q
  refine ⟨env, ts, us, R, ?_⟩
  unfold kAs RE.st at q
  cases e : f1 env with
  | no => rw [e] at q; exact q.elim
  | err x en => rw [e] at q; exact fun H' R' => q σ H' R'
  | ok o en =>
    rw [e] at q
    simp only at q
    intro v H' R' _
    refine post_name (Q := D.nx) R' ?_
    cases e2 : hName i o en with
    | none => rw [e2] at q; exact q.elim
    | some en2 => rw [e2] at q; exact fun σ2 H2 R2 _ _ => q σ2 H2 R2
theorem ds_set {i : Nat} {x : Str} {pos' : Pos} (hN : X.N.Nodup) (hi : X.N[i]? = some x) (hx : Loc X.env.scope x) (h1 : DE X c p1 a f1) (hs : swapsWith a (some (.Name x pos')) pos.line X.env = pure false := by rfl)
    (hf : X.fn x = true ∨ X.env.scope.names.lookup x = some .local := by first | exact .inl rfl | exact .inr rfl | assumption) : DS X c (.Assign [.Name x pos'] a pos) (kAs f1 (hName i)) :=
  ⟨(ps_set hN hi hx h1.run hs hf).weak fun _ _ _ q => t_set q⟩
/-- a, b = e1, e2 -/
def kPar (i j : Nat) (g : Env → RE (List O)) : Env → RS := fun env => (g env).st fun os e => match os with
  | [o1, o2] => match hName i o1 e with
    | some e1 => match hName j o2 e1 with
      | some e2 => .nx e2
      | none => .no
    | none => .no
  | _ => .no
theorem ds_par {i j : Nat} {x y : Str} {px py pt : Pos} {kt k2 pt2} {ios : List (Option Nat)} {g : Env → RE (List O)} (hc : X.calm = true) (hN : X.N.Nodup) (hi : X.N[i]? = some x) (hj : X.N[j]? = some y) (hij : i ≠ j)
    (hx : X.env.scope.names.lookup x = some .local) (hy : X.env.scope.names.lookup y = some .local) (ha : DA X c p1 ios [a, b] g)
    (hw : swappedStores [.Tuple [.Name x px, .Name y py] kt pt] (.Tuple [a, b] k2 pt2) X.env = pure (some [x, y]))
    (hs : swapsWithSole [.Tuple [.Name x px, .Name y py] kt pt] (.Tuple [a, b] k2 pt2) pos.line X.env = pure false := by rfl) :
    DS X c (.Assign [.Tuple [.Name x px, .Name y py] kt pt] (.Tuple [a, b] k2 pt2) pos) (kPar i j g) := by
  refine ⟨(ps_par hc hN hi hj hij hx hy ha.run hw hs).weak fun D σ H ⟨env, ts, us, R, q⟩ => ?_⟩
  refine ⟨env, ts, us, R, ?_⟩
  unfold kPar RE.st at q
  cases e : g env with
  | no => rw [e] at q; exact q.elim
  | err x en => rw [e] at q; exact fun H' R' => q σ H' R'
  | ok os en =>
    rw [e] at q
    simp only at q
    intro vs H' R' hl _ _ _
    split at q
    · rename_i o1 o2
      obtain ⟨v1, v2, rfl⟩ : ∃ v1 v2, vs = [v1, v2] := by
        cases vs with
        | nil => simp at hl
        | cons v1 vs =>
          cases vs with
          | nil => simp at hl
          | cons v2 vs =>
            cases vs with
            | nil => exact ⟨_, _, rfl⟩
            | cons v3 vs => simp at hl
      refine ⟨v1, v2, rfl, ?_⟩
      split at q
      · rename_i e1 z1
        split at q
        · rename_i e2 z2
          have R' : Rp c en σ (o1 :: o2 :: ts) (v1 :: v2 :: us) H' := R'
          refine post_name (Q := fun σ1 H1 => D.nx (σ1.set j (some v2)) H1) R' ?_
          rw [z1]
          intro σ1 H1 R1 _ _
          refine post_name (Q := D.nx) R1 ?_
          rw [z2]
          exact fun σ2 H2 R2 _ _ => q σ2 H2 R2
        · exact q.elim
      · exact q.elim
    · exact q.elim
end
end DP
end

section
namespace DP
open PySem PySem.Spec PyProof.Rows L2
/-! ### what is walked -/
/-- the walk of data: turn by turn, over the temporaries ts2 -/
def Walk (c : Fc) (ds : List PyData) (ts2 : List O) (us2 : List V) (J : It) : Prop :=
  (∀ (i : Nat) d, ds[i]? = some d → ∀ env σ ts us H, Rp c env σ (ts2 ++ ts) (us2 ++ us) H → J.go i H ∧ ∀ x H', J.yld i H x H' → Rp c env σ (.dat d :: (ts2 ++ ts)) (x :: (us2 ++ us)) H') ∧
  ∀ env σ ts us H, Rp c env σ (ts2 ++ ts) (us2 ++ us) H → J.stop ds.length H
def PostI (c : Fc) (σ : L2.St) (ts : List O) (us : List V) (R : It → Hp → Prop) : RE (List PyData) → Prop
  | .ok ds env => ∀ J H' ts2 us2, Rp c env σ (ts2 ++ ts) (us2 ++ us) H' → ts2.length = us2.length → Walk c ds ts2 us2 J → R J H'
  | .err x env => ∀ H', Rp c env σ ts us H' → c.W (c.cls x) none σ H'
  | .no => False
abbrev IF := Env → RE (List PyData)
def tIq (c : Fc) (h : IF) : TI := fun σ H R => ∃ env ts us, Rp c env σ ts us H ∧ PostI c σ ts us R (h env)
structure DI (X : Cx) (c : Fc) (tg iter : Expr) (h : IF) : Prop where
  run : PI X tg iter (tIq c h)
/-! ### for -/
def loopS (hg : GF) (body : Env → RS) : List PyData → Env → RS
  | [], env => .nx env
  | d :: ds, env => match hg (.dat d) env with
    | none => .no
    | some e1 => match body e1 with
      | .nx e2 => loopS hg body ds e2
      | .ct e2 => loopS hg body ds e2
      | .bk e2 => .nx e2
      | r => r
def kFor (h : IF) (hg : GF) (body : Env → RS) : Env → RS := fun env => (h env).st fun ds e => loopS hg body ds e
section
variable {X : Cx} {c : Fc} {p1 p2 p3 : Bool} {h : IF} {hg : GF} {gs : List Nat} {body : Env → RS}
theorem t_for {D : Ends} {σ : L2.St} {H : Hp} (q : tSq c (kFor h hg body) D σ H) : tFor (tIq c h) (tGq c gs hg) (tSq c body) D σ H := by
  obtain ⟨env, ts, us, R, q⟩ := q
  refine ⟨env, ts, us, R, ?_⟩
  unfold kFor RE.st at q
  cases e : h env with
  | no => rw [e] at q; exact q.elim
  | err x en => rw [e] at q; exact fun H' R' => q σ H' R'
  | ok ds en =>
    rw [e] at q
    simp only at q
    intro J H1 ts2 us2 R1 hl2 w
    obtain ⟨wg, ws⟩ := w
    refine ⟨fun i m σ' H' => m = ds.length - i ∧ i ≤ ds.length ∧ ∃ env', Rp c env' σ' (ts2 ++ ts) (us2 ++ us) H' ∧ PostS c ts us D (loopS hg body (ds.drop i) env'), ⟨ds.length, by simp, Nat.zero_le _, en, R1, q⟩, ?_⟩
    rintro i m σ' H' ⟨rfl, hi, env', R', q'⟩
    by_cases hlt : i < ds.length
    · have e1 : ds.drop i = ds[i] :: ds.drop (i + 1) := List.drop_eq_getElem_cons hlt
      obtain ⟨g1, g2⟩ := wg i ds[i] (List.getElem?_eq_getElem hlt) _ _ _ _ _ R'
      refine .inr ⟨g1, fun σ2 H2 => i + 1 ≤ ds.length ∧ ∃ env2, Rp c env2 σ2 (ts2 ++ ts) (us2 ++ us) H2 ∧ PostS c ts us D (loopS hg body (ds.drop (i + 1)) env2), fun σ2 H2 n => ⟨ds.length - (i + 1), by omega, rfl, n⟩, fun x H2 y => ?_⟩
      rw [e1, loopS] at q'
      refine ⟨env', ts2 ++ ts, us2 ++ us, _, g2 x H2 y, ?_⟩
      cases e2 : hg (.dat ds[i]) env' with
      | none => rw [e2] at q'; exact q'.elim
      | some en1 =>
        rw [e2] at q'
        simp only at q'
        intro σ3 H3 R3 _ _
        refine ⟨en1, ts2 ++ ts, us2 ++ us, R3, ?_⟩
        cases e3 : body en1 with
        | nx en2 => rw [e3] at q'; exact fun σ4 H4 R4 => ⟨hlt, en2, R4, q'⟩
        | ct en2 => rw [e3] at q'; exact fun σ4 H4 R4 => ⟨hlt, en2, R4, q'⟩
        | bk en2 => rw [e3] at q'; exact fun σ4 H4 R4 => q' σ4 H4 (R4.drop hl2)
        | rt o en2 => rw [e3] at q'; exact fun v σ4 H4 R4 => q' v σ4 H4 (R4.under hl2)
        | err x en2 => rw [e3] at q'; exact fun σ4 H4 R4 => q' σ4 H4 (R4.drop hl2)
        | no => rw [e3] at q'; exact q'.elim
    · have e1 : i = ds.length := by omega
      subst e1
      rw [List.drop_length, loopS] at q'
      exact .inl ⟨ws _ _ _ _ _ R', q' σ' H' (R'.drop hl2)⟩
theorem ds_for {tg iter : Expr} {bd : List Stmt} {pos : Pos} (hp : PassesOwn (model X.prog X.w) X.A X.env X.xe) (hc : X.calm = true) (h1 : DI X c tg iter h) (h2 : DG X c gs tg hg) (h3 : DSs X c bd body) (hs : ∀ x, foldedSetIterable iter X.env x = pure x := by intro _; rfl) : DS X c (.For tg iter bd [] pos) (kFor h hg body) :=
  ⟨(ps_for hp hc h1.run h2.run h3.run hs).weak fun _ _ _ q => t_for q⟩
/-! ### while -/
/-- n turns at most -/
def loopW (t : Env → RE Bool) (body : Env → RS) : Nat → Env → RS
  | 0, _ => .no
  | n + 1, env => (t env).st fun b e => if b = true then match body e with
      | .nx e2 => loopW t body n e2
      | .ct e2 => loopW t body n e2
      | .bk e2 => .nx e2
      | r => r
    else .nx e
theorem ds_while {n : Nat} {t : Expr} {bd : List Stmt} {pos : Pos} {g : Env → RE Bool} (hp : PassesOwn (model X.prog X.w) X.A X.env X.xe) (h1 : DT X c p1 t g) (h2 : DSs X c bd body) : DS X c (.While t bd [] pos) (loopW g body n) := by
  refine ⟨(ps_while hp h1.run h2.run).weak fun D σ H ⟨env, ts, us, R, q⟩ => ?_⟩
  refine ⟨fun m σ' H' => ∃ env', Rp c env' σ' ts us H' ∧ PostS c ts us D (loopW g body m env'), ⟨n, env, R, q⟩, ?_⟩
  rintro m σ' H' ⟨env', R', q'⟩
  cases m with
  | zero => exact q'.elim
  | succ m =>
    unfold loopW RE.st at q'
    refine ⟨env', ts, us, R', ?_⟩
    cases e : g env' with
    | no => rw [e] at q'; exact q'.elim
    | err x en => rw [e] at q'; exact fun H2 R2 => q' σ' H2 R2
    | ok b en =>
      rw [e] at q'
      simp only at q'
      intro H2 R2 _
      cases b with
      | false =>
        rw [if_neg Bool.false_ne_true] at q' ⊢
        exact q' σ' H2 R2
      | true =>
        rw [if_pos rfl] at q' ⊢
        refine ⟨fun σ3 H3 => ∃ env3, Rp c env3 σ3 ts us H3 ∧ PostS c ts us D (loopW g body m env3), fun σ3 H3 n3 => ⟨m, Nat.lt_succ_self m, n3⟩, en, ts, us, R2, ?_⟩
        cases e3 : body en with
        | nx en2 => rw [e3] at q'; exact fun σ4 H4 R4 => ⟨en2, R4, q'⟩
        | ct en2 => rw [e3] at q'; exact fun σ4 H4 R4 => ⟨en2, R4, q'⟩
        | bk en2 => rw [e3] at q'; exact q'
        | rt o en2 => rw [e3] at q'; exact q'
        | err x en2 => rw [e3] at q'; exact q'
        | no => rw [e3] at q'; exact q'.elim
end
/-! ### comprehensions -/
/-- the own names' slots are forgotten -/
def wipeE : List Nat → Env → Option Env
  | [], env => some env
  | i :: is, env => match wipeE is env with
    | some e => match e[i]? with
      | some s => if s.w = true then some (e.set i .no) else none
      | none => none
    | none => none
def compL (own : List Nat) (hg : GF) (t : Env → RE Bool) (f : EF) : List PyData → Env → List O → RE (List O)
  | [], env, acc => .ok acc env
  | d :: ds, env, acc => match hg (.dat d) env with
    | none => .no
    | some e1 => (match t e1 with
      | .ok true e2 => (match f e2 with
        | .ok o e3 => (match wipeE own e3 with
          | some e4 => if acc.length < 1000000 then compL own hg t f ds e4 (acc ++ [o]) else .no
          | none => .no)
        | _ => .no)
      | .ok false e2 => (match wipeE own e2 with
        | some e4 => compL own hg t f ds e4 acc
        | none => .no)
      | _ => .no)
def lcEnd : RE (List O) → RE O
  | .ok acc e => .ok (.node .lst acc) e
  | .err x e => .err x e
  | .no => .no
def kLc (own : List Nat) (h : IF) (hg : GF) (t : Env → RE Bool) (f : EF) : EF := fun env => (h env).bind fun ds e => match wipeE own e with
  | some e' => lcEnd (compL own hg t f ds e' [])
  | none => .no
def Fc.still (c : Fc) : Fc := { c with W := fun _ _ _ _ => False }
theorem Rp.still {c : Fc} {env : Env} {σ : L2.St} {ts : List O} {us : List V} {H : Hp} : Rp c.still env σ ts us H ↔ Rp c env σ ts us H := by
  constructor <;> rintro ⟨F, fe, ft, ⟨a, b, d, e⟩, q⟩ <;> exact ⟨F, fe, ft, ⟨a, b, d, e⟩, q⟩
theorem REnv.loose {K : Frag} {F H : Hp} {ps : List (Option V)} {env : Env} {σ : L2.St} {fp : List Addr} (h : REnv K F H ps env σ fp) : ∀ {i : Nat} (x : Option V), env[i]? = some .no → REnv K F H ps env (σ.set i x) fp := by
  induction h with
  | nil => intro i x q; simp at q
  | no h ih =>
    intro i x q
    cases i with
    | zero => exact .no h
    | succ i => exact .no (ih x (by simpa using q))
  | mv h ih =>
    intro i x q
    cases i with
    | zero => simp at q
    | succ i => exact .mv (ih x (by simpa using q))
  | v r h ih =>
    intro i x q
    cases i with
    | zero => simp at q
    | succ i => exact .v r (ih x (by simpa using q))
  | io r h ih =>
    intro i x q
    cases i with
    | zero => simp at q
    | succ i => exact .io r (ih x (by simpa using q))
section
variable {c : Fc} {env : Env} {σ : L2.St} {ts : List O} {us : List V} {H : Hp}
theorem Rp.loose {i : Nat} (x : Option V) (R : Rp c env σ ts us H) (h : env[i]? = some .no) : Rp c env (σ.set i x) ts us H := by
  obtain ⟨F, fe, ft, f, e, q⟩ := R
  exact ⟨F, fe, ft, f, e.loose x h, q⟩
theorem wipeE_no : ∀ {vs : List Nat} {env e' : Env}, wipeE vs env = some e' → e'.length = env.length ∧ ∀ i ∈ vs, e'[i]? = some .no
  | [], env, e', h => by cases h; exact ⟨rfl, fun i z => nomatch z⟩
  | v :: vs, env, e', h => by
    unfold wipeE at h
    cases e1 : wipeE vs env with
    | none => rw [e1] at h; cases h
    | some e =>
      rw [e1] at h
      obtain ⟨l, k⟩ := wipeE_no e1
      simp only at h
      have go : e.set v .no = e' → (∃ s, e[v]? = some s) → e'.length = env.length ∧ ∀ i ∈ v :: vs, e'[i]? = some .no := fun q ⟨s, qs⟩ => by
        subst q
        refine ⟨by simpa using l, fun i hi => ?_⟩
        by_cases z : v = i
        · subst z
          exact List.getElem?_set_self (List.getElem?_eq_some_iff.mp qs).1
        · rw [List.getElem?_set_ne z]
          rcases List.mem_cons.mp hi with y | y
          · exact absurd y.symm z
          · exact k i y
      split at h
      · rename_i q
        split at h
        · cases h; exact go rfl ⟨_, q⟩
        · cases h
      · cases h
theorem Rp.wipe : ∀ {vs : List Nat} {env e' : Env}, Rp c env σ ts us H → wipeE vs env = some e' → Rp c e' (L2.wipe σ vs) ts us H
  | [], env, e', R, h => by cases h; exact R
  | v :: vs, env, e', R, h => by
    unfold wipeE at h
    cases e1 : wipeE vs env with
    | none => rw [e1] at h; cases h
    | some e =>
      rw [e1] at h
      have R1 := Rp.wipe (vs := vs) R e1
      simp only at h
      show Rp c e' ((L2.wipe σ vs).set v none) ts us H
      split at h
      · rename_i q
        split at h
        · rename_i hw
          cases h
          rcases w_cases hw with rfl | ⟨o', rfl⟩
          · exact (R1.forget (.inl q)).loose none (List.getElem?_set_self (List.getElem?_eq_some_iff.mp q).1)
          · exact (R1.forget (.inr ⟨_, q⟩)).loose none (List.getElem?_set_self (List.getElem?_eq_some_iff.mp q).1)
        · cases h
      · cases h
/-- the slots as they were -/
theorem Rp.unwipe : ∀ {vs : List Nat}, Rp c env (L2.wipe σ vs) ts us H → (∀ i ∈ vs, env[i]? = some .no) → Rp c env σ ts us H
  | [], R, _ => R
  | v :: vs, R, h => by
    have R' : Rp c env ((L2.wipe σ vs).set v none) ts us H := R
    refine Rp.unwipe (vs := vs) ?_ fun i z => h i (List.mem_cons_of_mem _ z)
    by_cases hv : v < (L2.wipe σ vs).length
    · have R2 := R'.loose ((L2.wipe σ vs)[v]) (h v List.mem_cons_self)
      rw [List.set_set, List.set_getElem_self hv] at R2
      exact R2
    · rw [List.set_eq_of_length_le (by omega)] at R'
      exact R'
theorem wipe_eq : ∀ {vs : List Nat} {σ σ' : L2.St}, σ'.length = σ.length → (∀ j, j ∉ vs → σ'[j]? = σ[j]?) → L2.wipe σ' vs = L2.wipe σ vs := by
  intro vs σ σ' hl h
  have len : (L2.wipe σ' vs).length = (L2.wipe σ vs).length := by rw [wipe_length, wipe_length, hl]
  refine List.ext_getElem? fun i => ?_
  by_cases hi : i ∈ vs
  · have key : ∀ (ws : List Nat) (τ : L2.St), i ∈ ws → (L2.wipe τ ws)[i]? = if i < τ.length then some none else none := by
      intro ws
      induction ws with
      | nil => intro τ z; cases z
      | cons w ws ih =>
        intro τ z
        show ((L2.wipe τ ws).set w none)[i]? = _
        by_cases q : w = i
        · subst q
          by_cases y : w < τ.length
          · rw [List.getElem?_set_self (by rw [wipe_length]; exact y), if_pos y]
          · rw [List.getElem?_eq_none (by rw [List.length_set, wipe_length]; omega), if_neg y]
        · rw [List.getElem?_set_ne q]
          rcases List.mem_cons.mp z with y | y
          · exact absurd y.symm q
          · exact ih τ y
    rw [key vs σ' hi, key vs σ hi, hl]
  · rw [L2.wipe_out hi, L2.wipe_out hi, h i hi]
/-- an item is put at the end of the list on top but one -/
theorem Rp.append {o : O} {y : V} {D : Addr} {acc : List O} (R : Rp c env σ (o :: .node .lst acc :: ts) (y :: .ref D :: us) H) : ∃ vs, H D = some (.lst vs) ∧ vs.length = acc.length ∧ Rp c env σ (.node .lst (acc ++ [o]) :: ts) (.ref D :: us) (upd H D (.lst (vs ++ [y]))) := by
  obtain ⟨F, fe, ft, f, e, t, nd, nw⟩ := R
  cases t with
  | cons r t =>
    cases t with
    | cons rn t =>
      cases rn with
      | node h1 h2 h3 h4 =>
        rename_i f1 f2 vs h fp
        have h3' : h = .lst vs := h3
        subst h3'
        obtain ⟨n1, n2, n3⟩ := List.nodup_append.mp nd
        obtain ⟨n4, n5, n6⟩ := List.nodup_append.mp n2
        obtain ⟨n7, n8, n9⟩ := List.nodup_append.mp n5
        obtain ⟨n10, n11⟩ := List.nodup_cons.mp n7
        have stay : ∀ fp : List Addr, (∀ a ∈ fp, F a = none) → D ∉ fp → Stay fp F H F (upd H D (.lst (vs ++ [y]))) := fun fp k n => ⟨Ex.refl F, k, fun a z => upd_ne fun q => n (q ▸ z)⟩
        refine ⟨vs, h2, h4.length.symm, Rp.of (F := F) (all := fe ++ (f1 ++ (D :: fp ++ f2))) ⟨f.up, fun a o q => ?_, f.nw, fun a o q z => ?_⟩ (e.stay (stay fe (fun a z => (e.own a z).1) fun z => n3 D z D (List.mem_append_right _ (List.mem_append_left _ List.mem_cons_self)) rfl))
          (.cons (.node h1 upd_same rfl ((h4.stay _ _ _ (stay fp (fun a z => (h4.own _ _ _ a z).1) n10)).app (.cons (r.stay _ _ _ (stay f1 (fun a z => (r.own _ _ _ a z).1) fun z => n6 D z D (List.mem_append_left _ List.mem_cons_self) rfl)) .nil)))
            (t.stay _ _ _ (stay f2 (fun a z => (t.own _ _ _ a z).1) fun z => n9 D List.mem_cons_self D z rfl))) ?_ nd nw⟩
        · by_cases z : a = D
          · subst z; rw [h1] at q; cases q
          · rw [upd_ne z]; exact f.sub a o q
        · have ne : a ≠ D := fun y => by
            subst y
            rcases nw a (List.mem_append_right _ (List.mem_append_right _ (List.mem_append_left _ List.mem_cons_self))) with w | w
            · rw [w] at q; cases q
            · exact z w
          rw [upd_ne ne]
          exact f.kp a o q z
        · refine (Sub.refl fe).app (.perm ?_)
          rw [List.append_nil]
          show (D :: (fp ++ f1 ++ f2)).Perm (f1 ++ (D :: (fp ++ f2)))
          refine List.Perm.trans ?_ List.perm_middle.symm
          refine List.Perm.cons D ?_
          rw [← List.append_assoc]
          exact List.perm_append_comm.append_right _
end
section
variable {X : Cx} {c : Fc} {p1 p2 p3 : Bool} {h : IF} {hg : GF} {gs own : List Nat} {f : EF} {t : Env → RE Bool}
theorem t_lc {σ : L2.St} {H : Hp} {Q : VK} (hgs : ∀ j ∈ gs, j ∈ own) (q : tE c false (kLc own h hg t f) σ H Q) : tLc (tIq c h) (tGq c.still gs hg) (tBq c.still p1 t) (tE c.still p2 f) own σ H Q := by
  obtain ⟨env, ts, us, R, q⟩ := q
  refine ⟨env, ts, us, R, ?_⟩
  unfold kLc RE.bind at q
  cases e : h env with
  | no => rw [e] at q; exact q.elim
  | err x en => rw [e] at q; exact q
  | ok ds en =>
    rw [e] at q
    simp only at q
    intro J H1 ts2 us2 R1 hl2 w D hD
    obtain ⟨wg, ws⟩ := w
    cases ew : wipeE own en with
    | none => rw [ew] at q; exact q.elim
    | some en' =>
      rw [ew] at q
      simp only at q
      have R2 : Rp c en' (L2.wipe σ own) (.node .lst [] :: (ts2 ++ ts)) (.ref D :: (us2 ++ us)) (upd H1 D (.lst [])) := Rp.mk (xs := []) (vs := []) (R1.wipe ew) rfl hD rfl
      -- the list goes below what is walked
      have sw : ∀ {env' σ' H'} {l : List O}, Rp c env' σ' (.node .lst l :: (ts2 ++ ts)) (.ref D :: (us2 ++ us)) H' → Rp c env' σ' (ts2 ++ .node .lst l :: ts) (us2 ++ .ref D :: us) H' := fun {env' σ' H' l} R => by
        obtain ⟨F, fe, ft, f, e, t, nd, nw⟩ := R
        cases t with
        | cons r t =>
          rename_i f1 f2
          obtain ⟨f3, f4, rfl, t1, t2⟩ := t.split' hl2
          exact Rp.of f e (t1.app (.cons r t2)) (all := fe ++ (f1 ++ (f3 ++ f4))) ((Sub.refl fe).app (Sub.swap f3 f1 f4)) nd nw
      refine ⟨fun i m H' => m = ds.length - i ∧ i ≤ ds.length ∧ ∃ env' acc, (∀ j ∈ own, env'[j]? = some .no) ∧ Rp c env' (L2.wipe σ own) (.node .lst acc :: (ts2 ++ ts)) (.ref D :: (us2 ++ us)) H' ∧
        PostE c false σ ts us H Q (lcEnd (compL own hg t f (ds.drop i) env' acc)), ⟨ds.length, by simp, Nat.zero_le _, en', [], (wipeE_no ew).2, R2, q⟩, ?_⟩
      rintro i m H' ⟨rfl, hi, env', acc, hno, R', q'⟩
      by_cases hlt : i < ds.length
      · have e1 : ds.drop i = ds[i] :: ds.drop (i + 1) := List.drop_eq_getElem_cons hlt
        obtain ⟨g1, g2⟩ := wg i ds[i] (List.getElem?_eq_getElem hlt) _ _ _ _ _ (sw R')
        refine .inr ⟨g1, fun H2 => i + 1 ≤ ds.length ∧ ∃ env' acc, (∀ j ∈ own, env'[j]? = some .no) ∧ Rp c env' (L2.wipe σ own) (.node .lst acc :: (ts2 ++ ts)) (.ref D :: (us2 ++ us)) H2 ∧
          PostE c false σ ts us H Q (lcEnd (compL own hg t f (ds.drop (i + 1)) env' acc)), fun H2 n => ⟨ds.length - (i + 1), by omega, rfl, n⟩, fun x H2 y => ?_⟩
        rw [e1, compL] at q'
        have G2 := g2 x H2 y
        -- the list comes up again, below the item
        have up : ∀ {env' σ' H'} {l : List O}, Rp c env' σ' (ts2 ++ .node .lst l :: ts) (us2 ++ .ref D :: us) H' → Rp c env' σ' (.node .lst l :: (ts2 ++ ts)) (.ref D :: (us2 ++ us)) H' := fun {env' σ' H' l} R => R.turn hl2
        refine ⟨env', ts2 ++ .node .lst acc :: ts, us2 ++ .ref D :: us, _, Rp.still.mpr G2, ?_⟩
        cases e2 : hg (.dat ds[i]) env' with
        | none => rw [e2] at q'; exact q'.elim
        | some en1 =>
          rw [e2] at q'
          simp only at q'
          intro σ3 H3 R3 l3 k3
          have w3 : L2.wipe σ3 own = L2.wipe σ own := by
            have a : L2.wipe σ3 own = L2.wipe (L2.wipe σ own) own := wipe_eq l3 fun j hj => k3 j fun z => hj (hgs j z)
            rw [a]
            exact wipe_eq (by rw [wipe_length]) fun j hj => L2.wipe_out hj
          rw [w3]
          refine ⟨by rw [← w3], en1, ts2 ++ .node .lst acc :: ts, us2 ++ .ref D :: us, R3, ?_⟩
          cases e3 : t en1 with
          | no => rw [e3] at q'; exact q'.elim
          | err x en => rw [e3] at q'; exact q'.elim
          | ok b en2 =>
            rw [e3] at q'
            intro H4 R4 _
            cases b with
            | false =>
              rw [if_neg Bool.false_ne_true]
              simp only at q'
              cases e5 : wipeE own en2 with
              | none => rw [e5] at q'; exact q'.elim
              | some en4 =>
                rw [e5] at q'
                have R5 := (Rp.still.mp R4).wipe e5
                rw [w3] at R5
                exact ⟨hlt, en4, acc, (wipeE_no e5).2, up R5, q'⟩
            | true =>
              rw [if_pos rfl]
              simp only at q'
              refine ⟨en2, ts2 ++ .node .lst acc :: ts, us2 ++ .ref D :: us, R4, ?_⟩
              cases e4 : f en2 with
              | no => rw [e4] at q'; exact q'.elim
              | err x en => rw [e4] at q'; exact q'.elim
              | ok o en3 =>
                rw [e4] at q'
                simp only at q'
                intro y5 H5 R5 _
                cases e5 : wipeE own en3 with
                | none => rw [e5] at q'; exact q'.elim
                | some en4 =>
                  rw [e5] at q'
                  simp only at q'
                  split at q'
                  · rename_i hz
                    have R6 := (Rp.still.mp R5).wipe e5
                    rw [w3] at R6
                    have R7 : Rp c en4 (L2.wipe σ own) (o :: .node .lst acc :: (ts2 ++ ts)) (y5 :: .ref D :: (us2 ++ us)) H5 := by
                      obtain ⟨F, fe, ft, f, e, t, nd, nw⟩ := R6
                      cases t with
                      | cons r t =>
                        rename_i f1 f2
                        obtain ⟨f3, f4, rfl, t1, t2⟩ := t.split' hl2
                        cases t2 with
                        | cons r2 t2 =>
                          rename_i f5 f6
                          exact Rp.of f e (.cons r (.cons r2 (t1.app t2))) (all := fe ++ (f1 ++ (f3 ++ (f5 ++ f6)))) ((Sub.refl fe).app ((Sub.refl f1).app (Sub.swap f5 f3 f6))) nd nw
                    obtain ⟨vs, hv, lv, R8⟩ := R7.append
                    exact ⟨vs, hv, Nat.lt_of_lt_of_le (lv ▸ hz) (by decide), hlt, en4, acc ++ [o], (wipeE_no e5).2, R8, q'⟩
                  · exact q'.elim
      · have e1 : i = ds.length := by omega
        subst e1
        rw [List.drop_length, compL] at q'
        refine .inl ⟨ws _ _ _ _ _ (sw R'), ?_⟩
        refine q' _ H' (Rp.under (xs := ts2) (vs := us2) ?_ hl2) fun z => nomatch z
        exact R'.unwipe hno
/-- what stands in a comprehension's block -/
abbrev BlkE (X : Cx) (scope : Scope) (P : Cx → Prop) : Prop := ∀ (s : Shared) (H : Hp) (C : Addr) (cl : List (Str × Addr)) (fp : List Addr), P (X.blk s H scope (compEnvC scope cl C X.env) fp)
def kYes : Env → RE Bool := fun env => .ok true env
structure DTs (X : Cx) (c : Fc) (pu : Bool) (ifs : List Expr) (t : Env → RE Bool) : Prop where
  run : PTs X ifs (tBq c pu t)
theorem dts_nil : DTs X c true [] kYes := ⟨pts_nil.weak fun σ H Q ⟨env, ts, us, R, q⟩ => q H R fun _ => Ex.refl H⟩
theorem dts_one {e : Expr} (h : DT X c p1 e t) : DTs X c p1 [e] t := ⟨pts_one h.run⟩
theorem de_lc {elt tg iter : Expr} {ifs : List Expr} {scope : Scope} {own : List (Str × Nat)} {pos : Pos} (hc : X.calm = true) (hN : X.N.Nodup) (h1 : DI X c tg iter h) (ok : BlkOk X.N X.env.scope scope own) (hgs : ∀ j ∈ gs, j ∈ own.map (·.2))
    (h2 : BlkE X scope fun Y => DG Y c.still gs tg hg) (h3 : BlkE X scope fun Y => DTs Y c.still p1 ifs t) (h4 : BlkE X scope fun Y => DE Y c.still p2 elt f) (hs : ∀ x, foldedSetIterable iter X.env x = pure x := by intro _; rfl) :
    DE X c false (.ListComp elt [⟨tg, iter, ifs, 0⟩] scope pos) (kLc (own.map (·.2)) h hg t f) :=
  ⟨Pu.no, (pe_lc hc hN h1.run ok (fun s H C cl fp => (h2 s H C cl fp).run) (fun s H C cl fp => (h3 s H C cl fp).run) (fun s H C cl fp => (h4 s H C cl fp).run) hs).weak fun _ _ _ q => t_lc hgs q⟩
theorem ds_setLc {i : Nat} {y : Str} {py : Pos} {elt tg iter : Expr} {ifs : List Expr} {scope : Scope} {own : List (Str × Nat)} {pos spos : Pos} (hc : X.calm = true) (hN : X.N.Nodup) (hy : X.N[i]? = some y) (hyl : X.env.scope.names.lookup y = some .local)
    (hsw : swapsWith (.ListComp elt [⟨tg, iter, ifs, 0⟩] scope pos) (some (.Name y py)) spos.line X.env = pure true) (h1 : DI X c tg iter h) (ok : BlkOk X.N X.env.scope scope own) (hgs : ∀ j ∈ gs, j ∈ own.map (·.2))
    (h2 : BlkE X scope fun Y => DG Y c.still gs tg hg) (h3 : BlkE X scope fun Y => DTs Y c.still p1 ifs t) (h4 : BlkE X scope fun Y => DE Y c.still p2 elt f) (hs : ∀ x, foldedSetIterable iter X.env x = pure x := by intro _; rfl) :
    DS X c (.Assign [.Name y py] (.ListComp elt [⟨tg, iter, ifs, 0⟩] scope pos) spos) (kAs (kLc (own.map (·.2)) h hg t f) (hName i)) := by
  refine ⟨(ps_setLc hc hN hy hyl hsw h1.run ok (fun s H C cl fp => (h2 s H C cl fp).run) (fun s H C cl fp => (h3 s H C cl fp).run) (fun s H C cl fp => (h4 s H C cl fp).run) hs).weak fun D σ H q => ?_⟩
  exact t_lc (gs := gs) hgs (t_set (p1 := false) q)
end
end DP
end

section
namespace DP
open PySem PySem.Spec PyProof.Rows L2
/-! ### defs and calls -/
inductive RF where
  | ok (o : O) (outs : List O)
  | err (x : Str) (outs : List O)
  | no
/-- the values of the parameters that are given back -/
def ioVals : List Bool → List V → List V
  | true :: io, v :: vs => v :: ioVals io vs
  | false :: io, _ :: vs => ioVals io vs
  | _, _ => []
structure After (K : Frag) (F H : Hp) (fp : List Addr) (F' H' : Hp) : Prop where
  f : Ex F F'
  sub : Ex F' H'
  nw : ∀ a, F' a ≠ none → F a ≠ none ∨ H a = none ∨ a ∈ fp
  kp : ∀ a o, H a = some o → a ∉ fp → H' a = some o
def PostF (K : Frag) (cls : Str → Value) (io : List Bool) (F H : Hp) (vs : List V) (fp : List Addr) (Q : VK) (E : XK) : RF → Prop
  | .ok o outs => ∀ v H' F' fr fo, After K F H fp F' H' → RO K F' H' o v fr → ROs K F' H' outs (ioVals io vs) fo → (fr ++ fo).Nodup → (∀ a ∈ fr ++ fo, H a = none ∨ a ∈ fp) → Q v H'
  | .err x outs => ∀ H' F' fo, After K F H fp F' H' → ROs K F' H' outs (ioVals io vs) fo → fo.Nodup → (∀ a ∈ fo, H a = none ∨ a ∈ fp) → E (cls x) none H'
  | .no => False
/-- THE PROMISE of a def: on trees it reckons what den says -/
def spD (K : Frag) (cls : Str → Value) (io : List Bool) (den : List O → RF) : Sp := fun vs H Q E => ∃ F os fp, Ex F H ∧ ROs K F H os vs fp ∧ fp.Nodup ∧ os.length = io.length ∧ PostF K cls io F H vs fp Q E (den os)
def startE : List Bool → List O → Nat → Env
  | true :: io, o :: os, n + 1 => .io o :: startE io os n
  | false :: io, o :: os, n + 1 => .v o :: startE io os n
  | _, _, n => List.replicate n .no
def startP : List Bool → List V → Nat → List (Option V)
  | b :: io, v :: vs, n + 1 => (if b = true then some v else none) :: startP io vs n
  | _, _, n => List.replicate n none
def outsOf : List Bool → Env → Option (List O)
  | true :: io, .io o :: env => (outsOf io env).map (o :: ·)
  | true :: _, _ => none
  | false :: io, _ :: env => outsOf io env
  | false :: _, [] => none
  | [], _ => some []
/-- a def's worth by its body's -/
def finF (io : List Bool) : RS → RF
  | .nx env => match outsOf io env with
    | some l => .ok (.dat .none) l
    | none => .no
  | .rt o env => match outsOf io env with
    | some l => .ok o l
    | none => .no
  | .err x env => match outsOf io env with
    | some l => .err x l
    | none => .no
  | _ => .no
theorem rep_env {K : Frag} {F H : Hp} : ∀ n : Nat, REnv K F H (List.replicate n none) (List.replicate n .no) (List.replicate n none) []
  | 0 => .nil
  | n + 1 => .no (rep_env n)
theorem start_env {K : Frag} {F H : Hp} : ∀ {io : List Bool} {os : List O} {vs : List V} {fp : List Addr} (n : Nat), ROs K F H os vs fp → os.length = io.length → os.length ≤ n →
    REnv K F H (startP io vs n) (startE io os n) (vs.map some ++ List.replicate (n - vs.length) none) fp
  | [], [], vs, fp, n, r, _, _ => by
    cases r
    cases n <;> exact rep_env _
  | b :: io, o :: os, vs, fp, n, r, hl, hn => by
    cases r with
    | cons r1 r2 =>
      rename_i v f1 vs f2
      cases n with
      | zero => simp at hn
      | succ n =>
        have ih := start_env (io := io) n r2 (by simpa using hl) (by simpa using hn)
        have e : n + 1 - (v :: vs).length = n - vs.length := by simp
        rw [e]
        cases b with
        | true => exact .io r1 ih
        | false => exact .v r1 ih
  | [], _ :: _, _, _, _, _, hl, _ => by simp at hl
  | _ :: _, [], _, _, _, _, hl, _ => by simp at hl
theorem outs_env {K : Frag} {F H : Hp} : ∀ {io : List Bool} {env : Env} {vs : List V} {n : Nat} {σ : L2.St} {fe : List Addr} {l : List O}, outsOf io env = some l → vs.length = io.length → REnv K F H (startP io vs n) env σ fe → ∃ fo, ROs K F H l (ioVals io vs) fo ∧ Sub fo fe
  | [], env, vs, n, σ, fe, l, h, hl, e => by
    have : l = [] := by unfold outsOf at h; cases h; rfl
    subst this
    exact ⟨[], .nil, fe, by simp⟩
  | b :: io, env, vs, n, σ, fe, l, h, hl, e => by
    cases vs with
    | nil => simp at hl
    | cons v vs =>
      cases n with
      | zero =>
        have z : startP (b :: io) (v :: vs) 0 = [] := rfl
        rw [z] at e
        cases e
        cases b <;> simp [outsOf] at h
      | succ n =>
        have z : startP (b :: io) (v :: vs) (n + 1) = (if b = true then some v else none) :: startP io vs n := rfl
        rw [z] at e
        cases b with
        | true =>
          cases env with
          | nil => simp [outsOf] at h
          | cons s env =>
            cases s with
            | io o =>
              unfold outsOf at h
              cases q : outsOf io env with
              | none => rw [q] at h; cases h
              | some l' =>
                rw [q] at h
                cases h
                rw [if_pos rfl] at e
                cases e with
                | io r e =>
                  obtain ⟨fo, ro, s⟩ := outs_env q (by simpa using hl) e
                  exact ⟨_ ++ fo, .cons r ro, (Sub.refl _).app s⟩
            | no => simp [outsOf] at h
            | v o => simp [outsOf] at h
            | mv => simp [outsOf] at h
        | false =>
          cases env with
          | nil => simp [outsOf] at h
          | cons s env =>
            have h' : outsOf io env = some l := h
            rw [if_neg Bool.false_ne_true] at e
            cases e with
            | no e =>
              obtain ⟨fo, ro, s⟩ := outs_env h' (by simpa using hl) e
              exact ⟨fo, ro, s⟩
            | v r e =>
              obtain ⟨fo, ro, s⟩ := outs_env h' (by simpa using hl) e
              exact ⟨fo, ro, s.trans (Sub.right _ _)⟩
/-- a body as a def's worth -/
theorem fn_body {K : Frag} {cls : Str → Value} {io : List Bool} {den : List O → RF} {N ps : List Str} {vs : List V} {H : Hp} {Q : VK} {E : XK} {X : Cx} {body : List Stmt} {g : Env → RS} (hN : ps.length ≤ N.length) (hio : io.length = ps.length)
    (h : ∀ F fp, DSs X ⟨K, F, H, fp, startP io vs N.length, fun cls d _ H => E cls d H, cls⟩ body g) (hd : ∀ os, os.length = ps.length → den os = finF io (g (startE io os N.length))) (hsp : spD K cls io den vs H Q E) :
    ∃ t, PSs X body t ∧ t { nx := fun _ H' => Q .non H', rt := Q } (start N vs) H := by
  obtain ⟨F, os, fp, x, r, nd, hl, q⟩ := hsp
  refine ⟨_, (h F fp).run, startE io os N.length, [], [], ⟨F, fp, [], ⟨Ex.refl F, x, fun a z => .inl z, fun a o z _ => z⟩, start_env N.length r hl (by omega), .nil, by simpa using nd, fun a z => .inr (by simpa using z)⟩, ?_⟩
  rw [hd os (hl.trans hio)] at q
  have lv : vs.length = io.length := r.length.symm.trans hl
  cases e : g (startE io os N.length) with
  | no => rw [e] at q; exact q.elim
  | bk en => rw [e] at q; exact q.elim
  | ct en => rw [e] at q; exact q.elim
  | nx en =>
    rw [e] at q
    unfold finF at q
    simp only at q
    intro σ' H' R
    obtain ⟨F', fe, ft, f, en', t, nd', nw⟩ := R
    cases e2 : outsOf io en with
    | none => rw [e2] at q; exact q.elim
    | some l =>
      rw [e2] at q
      obtain ⟨fo, ro, s⟩ := outs_env e2 lv en'
      cases t
      rw [List.append_nil] at nd' nw
      exact q .non H' F' [] fo ⟨f.up, f.sub, f.nw, f.kp⟩ (.dat .non) ro (s.nodup nd') fun a z => nw a (s.mem a z)
  | rt o en =>
    rw [e] at q
    unfold finF at q
    simp only at q
    intro v σ' H' R
    obtain ⟨F', fe, ft, f, en', t, nd', nw⟩ := R
    cases e2 : outsOf io en with
    | none => rw [e2] at q; exact q.elim
    | some l =>
      rw [e2] at q
      obtain ⟨fo, ro, s⟩ := outs_env e2 lv en'
      cases t with
      | cons r1 t =>
        cases t
        rename_i f1
        have s2 : Sub (f1 ++ fo) (fe ++ (f1 ++ [])) := by
          rw [List.append_nil]
          exact ((Sub.refl f1).app s).trans (.perm List.perm_append_comm)
        exact q v H' F' f1 fo ⟨f.up, f.sub, f.nw, f.kp⟩ r1 ro (s2.nodup nd') fun a z => nw a (s2.mem a z)
  | err x en =>
    rw [e] at q
    unfold finF at q
    simp only at q
    intro σ' H' R
    obtain ⟨F', fe, ft, f, en', t, nd', nw⟩ := R
    cases e2 : outsOf io en with
    | none => rw [e2] at q; exact q.elim
    | some l =>
      rw [e2] at q
      obtain ⟨fo, ro, s⟩ := outs_env e2 lv en'
      cases t
      rw [List.append_nil] at nd' nw
      exact q H' F' fo ⟨f.up, f.sub, f.nw, f.kp⟩ ro (s.nodup nd') fun a z => nw a (s.mem a z)
/-- the context of a def's body -/
abbrev fcOf (K : Frag) (cls : Str → Value) (io : List Bool) (N : List Str) (vs : List V) (H : Hp) (E : XK) (F : Hp) (fp : List Addr) : Fc := ⟨K, F, H, fp, startP io vs N.length, fun cls d _ H => E cls d H, cls⟩
section
variable {P : Program} {w : World} {K : Frag} {mg : Str → Option Value} {base : Heap}
theorem fn_ok {x qual : Str} {st : Stmt} {f : Addr} {fd : FuncData} {N ps : List Str} {k : Nat} {cls : Str → Value} {io : List Bool} {den : List O → RF} {g : Env → RS} (F : Fun K x qual st f fd) (S : FnScope N ps (defScope st)) (hN : ps.length ≤ N.length) (hio : io.length = ps.length)
    (hd : ∀ os, os.length = ps.length → den os = finF io (g (startE io os N.length)))
    (h : ∀ (cdv : Value) (A : Around) (outer : List PySem.Env) (s : Shared) (H : Hp) (vs : List V) (E : XK), Room k (A.deeper (envOfC qual (defScope st) s.heap.objs.size f cdv)) → ∀ F fp,
      DSs (cxOf (L2.CX P w) P w K mg base N qual (defScope st) f cdv A outer s H E) (fcOf K cls io N vs H E F fp) (defBody st) g) : FnOk P w K mg base (L2.CX P w) (k + 1) f fd ps (spD K cls io den) := by
  refine F.okX S (fun vs H Q E q => ?_) fun cdv A outer s H vs Q E hr q => fn_body hN hio (fun F fp => h cdv A outer s H vs E hr F fp) hd q
  obtain ⟨F, os, fp, x, r, nd, hl, _⟩ := q
  rw [← r.length, hl, hio]
end
/-! calls -/
def backs : List Bool → List (Option Nat) → List O → Env → Env
  | true :: io, some i :: ios, o :: outs, e => backs io ios outs (putBack e i o)
  | true :: io, none :: ios, _ :: outs, e => backs io ios outs e
  | false :: io, _ :: ios, outs, e => backs io ios outs e
  | _, _, _, e => e
/-- the lent trees are taken -/
def takeO (env : Env) (i : Nat) : Option (O × Env) := match env[i]? with
  | some (.v o) => some (o, env.set i .no)
  | some (.io o) => some (o, env.set i .mv)
  | _ => none
def lendIn : List (Option Nat) → List O → Env → Option (List O × Env)
  | some i :: ios, _ :: os, e => match takeO e i with
    | some (o, e1) => match lendIn ios os e1 with
      | some (os', e2) => some (o :: os', e2)
      | none => none
    | none => none
  | none :: ios, o :: os, e => match lendIn ios os e with
    | some (os', e2) => some (o :: os', e2)
    | none => none
  | _, os, e => some (os, e)
theorem Rp.unturn {c : Fc} {env : Env} {σ : L2.St} {ts : List O} {us : List V} {H : Hp} {o : O} {v : V} {xs : List O} {vs : List V} (R : Rp c env σ (o :: (xs ++ ts)) (v :: (vs ++ us)) H) (hl : xs.length = vs.length) : Rp c env σ (xs ++ o :: ts) (vs ++ v :: us) H := by
  obtain ⟨F, fe, ft, f, e, t, nd, nw⟩ := R
  cases t with
  | cons r t =>
    rename_i f1 f2
    obtain ⟨f3, f4, rfl, t1, t2⟩ := t.split' hl
    exact Rp.of f e (t1.app (.cons r t2)) (all := fe ++ (f1 ++ (f3 ++ f4))) ((Sub.refl fe).app (Sub.swap f3 f1 f4)) nd nw
theorem Rp.lend {c : Fc} {σ : L2.St} {H : Hp} : ∀ {ios : List (Option Nat)} {os os' : List O} {vs : List V} {ts : List O} {us : List V} {env env' : Env}, ios.length = vs.length → os.length = vs.length → (∀ (k i : Nat), ios[k]? = some (some i) → σ[i]? = some vs[k]?) →
    lendIn ios os env = some (os', env') → Rp c env σ (os ++ ts) (vs ++ us) H → os'.length = vs.length ∧ Rp c env' σ (os' ++ ts) (vs ++ us) H
  | [], os, os', vs, ts, us, env, env', h1, h2, hw, e, R => by
    have : vs = [] := List.eq_nil_of_length_eq_zero h1.symm
    subst this
    have : os = [] := List.eq_nil_of_length_eq_zero h2
    subst this
    unfold lendIn at e
    cases e
    exact ⟨rfl, R⟩
  | w :: ios, os, os', vs, ts, us, env, env', h1, h2, hw, e, R => by
    cases vs with
    | nil => simp at h1
    | cons v vs =>
      cases os with
      | nil => simp at h2
      | cons o os =>
        have hw' : ∀ (k i : Nat), ios[k]? = some (some i) → σ[i]? = some vs[k]? := fun k i z => by simpa using hw (k + 1) i (by simpa using z)
        have l1 : ios.length = vs.length := by simpa using h1
        have l2 : os.length = vs.length := by simpa using h2
        have R' : Rp c env σ (o :: (os ++ ts)) (v :: (vs ++ us)) H := R
        cases w with
        | none =>
          unfold lendIn at e
          cases e1 : lendIn ios os env with
          | none => rw [e1] at e; cases e
          | some q =>
            obtain ⟨os2, e2⟩ := q
            rw [e1] at e
            cases e
            obtain ⟨a, b⟩ := Rp.lend l1 l2 hw' e1 (R'.unturn l2)
            exact ⟨by simp [a], b.turn a⟩
        | some i =>
          unfold lendIn at e
          cases e0 : takeO env i with
          | none => rw [e0] at e; cases e
          | some q0 =>
            obtain ⟨o1, en1⟩ := q0
            rw [e0] at e
            simp only at e
            cases e1 : lendIn ios os en1 with
            | none => rw [e1] at e; cases e
            | some q =>
              obtain ⟨os2, e2⟩ := q
              rw [e1] at e
              cases e
              have ev : σ[i]? = some (some v) := by simpa using hw 0 i rfl
              have R2 : Rp c en1 σ (o1 :: (os ++ ts)) (v :: (vs ++ us)) H := by
                unfold takeO at e0
                split at e0
                · rename_i z
                  cases e0
                  obtain ⟨v', ev', R3⟩ := R'.pop.take z
                  rw [ev] at ev'
                  cases ev'
                  exact R3
                · rename_i z
                  cases e0
                  obtain ⟨v', ev', R3⟩ := R'.pop.takeIo z
                  rw [ev] at ev'
                  cases ev'
                  exact R3
                · cases e0
              obtain ⟨a, b⟩ := Rp.lend l1 l2 hw' e1 (R2.unturn l2)
              exact ⟨by simp [a], b.turn a⟩
def kCall (io : List Bool) (ios : List (Option Nat)) (den : List O → RF) (fa : Env → RE (List O)) : EF := fun env => (fa env).bind fun os0 e0 => match lendIn ios os0 e0 with
  | some (os, e) => if os.length = io.length then match den os with
    | .ok o outs => .ok o (backs io ios outs e)
    | .err x outs => .err x (backs io ios outs e)
    | .no => .no
    else .no
  | none => .no
theorem Rp.backs {c : Fc} {σ : L2.St} {ts : List O} {us : List V} {H : Hp} : ∀ {io : List Bool} {ios : List (Option Nat)} {outs : List O} {vs : List V} {env : Env}, io.length = vs.length → ios.length = vs.length → outs.length = (ioVals io vs).length →
    (∀ (k i : Nat), ios[k]? = some (some i) → σ[i]? = some vs[k]?) → Rp c env σ (outs ++ ts) (ioVals io vs ++ us) H → Rp c (DP.backs io ios outs env) σ ts us H
  | [], ios, outs, vs, env, h1, h2, h3, hw, R => by
    have : vs = [] := List.eq_nil_of_length_eq_zero h1.symm
    subst this
    have : outs = [] := List.eq_nil_of_length_eq_zero h3
    subst this
    exact R
  | b :: io, ios, outs, vs, env, h1, h2, h3, hw, R => by
    cases vs with
    | nil => simp at h1
    | cons v vs =>
      cases ios with
      | nil => simp at h2
      | cons w ios =>
        have hw' : ∀ (k i : Nat), ios[k]? = some (some i) → σ[i]? = some vs[k]? := fun k i z => by simpa using hw (k + 1) i (by simpa using z)
        cases b with
        | false => exact Rp.backs (io := io) (vs := vs) (by simpa using h1) (by simpa using h2) h3 hw' R
        | true =>
          cases outs with
          | nil => simp [ioVals] at h3
          | cons o outs =>
            have R' : Rp c env σ (o :: (outs ++ ts)) (v :: (ioVals io vs ++ us)) H := R
            cases w with
            | none => exact Rp.backs (io := io) (vs := vs) (by simpa using h1) (by simpa using h2) (by simpa [ioVals] using h3) hw' R'.pop
            | some i =>
              have e : σ[i]? = some (some v) := by simpa using hw 0 i rfl
              exact Rp.backs (io := io) (vs := vs) (by simpa using h1) (by simpa using h2) (by simpa [ioVals] using h3) hw' (R'.back e)
theorem Rp.after {c : Fc} {env : Env} {σ : L2.St} {ts : List O} {us : List V} {F H F' H' : Hp} {fe f1 f2 fo : List Addr} {outs : List O} {ws : List V} (f : Fr c F H) (e : REnv c.K F H c.ps env σ fe) (t : ROs c.K F H ts us f2) (nd : (fe ++ (f1 ++ f2)).Nodup) (nw : ∀ a ∈ fe ++ (f1 ++ f2), c.Hs a = none ∨ a ∈ c.P)
    (af : After c.K F H f1 F' H') (r : ROs c.K F' H' outs ws fo) (no : fo.Nodup) (ho : ∀ a ∈ fo, H a = none ∨ a ∈ f1) : Rp c env σ (outs ++ ts) (ws ++ us) H' := by
  obtain ⟨n1, n2, n3⟩ := List.nodup_append.mp nd
  obtain ⟨n4, n5, n6⟩ := List.nodup_append.mp n2
  have st : ∀ fp : List Addr, (∀ a ∈ fp, F a = none ∧ ∃ o, H a = some o) → (∀ a ∈ fp, a ∉ f1) → Stay fp F H F' H' := fun fp k n => by
    refine ⟨af.f, fun a z => ?_, fun a z => ?_⟩
    · obtain ⟨q, o, q2⟩ := k a z
      cases e : F' a with
      | none => rfl
      | some u =>
        rcases af.nw a (by rw [e]; exact fun z => nomatch z) with y | y | y
        · exact absurd q y
        · rw [q2] at y; cases y
        · exact absurd y (n a z)
    · obtain ⟨_, o, q⟩ := k a z
      rw [af.kp a o q (n a z), q]
  refine ⟨F', fe, fo ++ f2, ⟨f.up.trans af.f, af.sub, fun a z => ?_, fun a o z n => ?_⟩, e.stay (st fe e.own fun a z y => n3 a z a (List.mem_append_left _ y) rfl), r.app (t.stay _ _ _ (st f2 (t.own _ _ _) fun a z y => n6 a y a z rfl)), ?_, fun a z => ?_⟩
  · rcases af.nw a z with y | y | y
    · exact f.nw a y
    · exact .inr (f.fresh y)
    · exact .inr (nw a (List.mem_append_right _ (List.mem_append_left _ y)))
  · refine af.kp a o (f.kp a o z n) fun y => ?_
    rcases nw a (List.mem_append_right _ (List.mem_append_left _ y)) with q | q
    · rw [q] at z; cases z
    · exact n q
  · refine List.nodup_append.mpr ⟨n1, List.nodup_append.mpr ⟨no, n5, fun a ha b hb q => ?_⟩, fun a ha b hb q => ?_⟩
    · subst q
      rcases ho a ha with z | z
      · obtain ⟨_, o, q⟩ := t.own _ _ _ a hb; rw [q] at z; cases z
      · exact n6 a z a hb rfl
    · subst q
      rcases List.mem_append.mp hb with hb | hb
      · rcases ho a hb with z | z
        · obtain ⟨_, o, q⟩ := e.own a ha; rw [q] at z; cases z
        · exact n3 a ha a (List.mem_append_left _ z) rfl
      · exact n3 a ha a (List.mem_append_right _ hb) rfl
  · rcases List.mem_append.mp z with y | y
    · exact nw a (List.mem_append_left _ y)
    · rcases List.mem_append.mp y with y | y
      · rcases ho a y with q | q
        · exact f.fresh q
        · exact nw a (List.mem_append_right _ (List.mem_append_left _ q))
      · exact nw a (List.mem_append_right _ (List.mem_append_right _ y))
theorem t_call1 {c : Fc} {io : List Bool} {ios : List (Option Nat)} {den : List O → RF} {en : Env} {os : List O} {σ : L2.St} {H H1 : Hp} {Q : VK} {ts : List O} {us vs : List V} (hl : os.length = vs.length) (hli : ios.length = vs.length) (hw : ∀ (k i : Nat), ios[k]? = some (some i) → σ[i]? = some vs[k]?) (R1 : Rp c en σ (os ++ ts) (vs ++ us) H1) (hio : os.length = io.length)
    (q : PostE c false σ ts us H Q (match den os with | .ok o outs => .ok o (backs io ios outs en) | .err x outs => .err x (backs io ios outs en) | .no => .no)) : spD c.K c.cls io den vs H1 Q (WE c.W σ) := by
      obtain ⟨F, fe, ft, f, e', t, nd, nw⟩ := R1
      obtain ⟨f1, f2, rfl, t1, t2⟩ := t.split' hl
      obtain ⟨n1, n2, n3⟩ := List.nodup_append.mp nd
      refine ⟨F, os, f1, f.sub, t1, (List.nodup_append.mp n2).1, hio, ?_⟩
      cases e2 : den os with
      | no => rw [e2] at q; exact q.elim
      | ok o outs =>
        rw [e2] at q
        intro v H' F' fr fo af ro rs no ho
        have R2 : Rp c en σ ((o :: outs) ++ ts) ((v :: ioVals io vs) ++ us) H' := Rp.after f e' t2 nd nw af (.cons ro rs) no ho
        -- the value goes below, the trees come back
        have R3 : Rp c en σ (outs ++ o :: ts) (ioVals io vs ++ v :: us) H' := by
          obtain ⟨F, fe, ft, f, e, t, nd, nw⟩ := R2
          cases t with
          | cons r t =>
            rename_i f1 f2
            obtain ⟨f3, f4, rfl, t1, t2⟩ := t.split' rs.length
            exact Rp.of f e (t1.app (.cons r t2)) (all := fe ++ (f1 ++ (f3 ++ f4))) ((Sub.refl fe).app (Sub.swap f3 f1 f4)) nd nw
        exact q v H' (Rp.backs (by omega) hli rs.length hw R3) fun z => nomatch z
      | err x outs =>
        rw [e2] at q
        intro H' F' fo af rs no ho
        exact q H' (Rp.backs (by omega) hli rs.length hw (Rp.after f e' t2 nd nw af rs no ho))
theorem t_call {c : Fc} {io : List Bool} {ios : List (Option Nat)} {den : List O → RF} {fa : Env → RE (List O)} {p1 : Bool} {σ : L2.St} {H : Hp} {Q : VK} (q : tE c false (kCall io ios den fa) σ H Q) : tCallS (spD c.K c.cls io den) (WE c.W) (tAq c p1 ios fa) σ H Q := by
  obtain ⟨env, ts, us, R, q⟩ := q
  refine ⟨env, ts, us, R, ?_⟩
  unfold kCall RE.bind at q
  cases e : fa env with
  | no => rw [e] at q; exact q.elim
  | err x en => rw [e] at q; exact q
  | ok os0 en0 =>
    rw [e] at q
    simp only at q
    intro vs H1 R0 hl0 hli hw _
    split at q
    · rename_i os en el
      obtain ⟨hl, R1⟩ := Rp.lend hli hl0 hw el R0
      split at q
      · rename_i hio
        exact t_call1 hl hli hw R1 hio q
      · exact q.elim
    · exact q.elim
theorem de_call {X : Cx} {c : Fc} {p1 : Bool} {k : Nat} {f : Addr} {fd : FuncData} {ps : List Str} {io : List Bool} {ios : List (Option Nat)} {den : List O → RF} {fa : Env → RE (List O)} {x : Str} {p pos : Pos} {e : Expr} {es : List Expr} (G : FnOk X.prog X.w X.K X.mg X.base (L2.CX X.prog X.w) k f fd ps (spD c.K c.cls io den)) (hr : Room k X.A) (hg : Gl X x) (hm : X.mg x = some (.ref f)) (hk : PySem.W.keepIn X.K (.ref f) = true) (hb : Binds X.K fd ps [])
    (hx : ∀ σ, PassesAt (L2.CX X.prog X.w) X σ (WE c.W σ)) (ha : DA X c p1 ios (e :: es) fa) (hdb : (x == ("__debug__" : Str)) = false := by decide) (he : starEach (e :: es) X.env = (false, eval e X.env) :: starEach es X.env := by rfl) (hpl : (backTo pos (starEach es X.env)).any (·.1) = false := by rfl) :
    DE X c false (.Call (.Name x p) (e :: es) [] pos) (kCall io ios den fa) :=
  ⟨Pu.no, (pe_callS G hr hg hm hk hb hx ha.run hdb he hpl).weak fun _ _ _ q => t_call q⟩
/-- what a comprehension's block lets out: nothing -/
theorem pass_still {X : Cx} {c : Fc} (σ : L2.St) : PassesAt (L2.CX X.prog X.w) X σ (WE c.still.W σ) := fun _ _ _ _ _ _ h => by
  obtain ⟨_, _, _, _, _, _, _, _, _, _, _, _, z⟩ := h
  exact z.elim
/-- raise C('..') -/
theorem ds_raise {X : Cx} {c : Fc} {C : Addr} {bmB : List Value} {B newId initId : String} {x m : Str} {j : Nat} {p p2 pos pos2 : Pos} (hc : X.calm = true) (tk : Takes X c.W) (F : ExcBaseFacts B newId initId bmB) (q : PySem.W.excIn X.K C bmB newId = true) (gC : X.mg x = some (.ref C)) (kC : PySem.W.keepIn X.K (.ref C) = true) (r : Raises X (.ref C)) (hg : Gl X x) (hcl : c.cls x = .ref C)
    (hdb : (x == ("__debug__" : Str)) = false := by decide) : DS X c (.Raise (some (.Call (.Name x p) [.Constant (.str m) j p2] [] pos)) none pos2) (fun env => .err x env) := by
  refine ⟨(ps_raise hc tk (pmk_own F q gC kC r hg hdb)).weak fun D σ H ⟨env, ts, us, R, q⟩ => ?_⟩
  have q' := q σ H R
  rw [hcl] at q'
  exact q'
end DP
end

section
namespace DP
open PySem PySem.Spec PyProof.Rows L2
/-! ### zip of three tuples -/
def Itz3 (K : Frag) (a b d : Addr) : It :=
  ⟨fun i H => ∃ xs ys zs x y z, SqT K H a xs ∧ SqT K H b ys ∧ SqT K H d zs ∧ xs[i]? = some x ∧ ys[i]? = some y ∧ zs[i]? = some z,
   fun i H v H' => ∃ T x y z, v = .ref T ∧ H T = none ∧ H' = upd H T (.tup [x, y, z]) ∧ (∀ l, SqT K H a l → l[i]? = some x) ∧ (∀ l, SqT K H b l → l[i]? = some y) ∧ (∀ l, SqT K H d l → l[i]? = some z),
   fun i H => ∃ xs ys zs, SqT K H a xs ∧ SqT K H b ys ∧ SqT K H d zs ∧ i ≤ xs.length ∧ i ≤ ys.length ∧ i ≤ zs.length ∧ (i = xs.length ∨ i = ys.length ∨ i = zs.length)⟩
theorem turn_zip3 {P : Program} {w : World} {K : Frag} {elts : List Expr} {kk : Nat} {tpos : Pos} {a b d z TI TO i1 i2 i3 : Addr} (D : ZipSep3 z TI TO i1 i2 i3 [i1, a] [i2, b] [i3, d]) (na : a ≠ i1) (nb : b ≠ i2) (nd : d ≠ i3) :
    Turn P w K (.Tuple elts kk tpos) (Itz3 K a b d) [z, TI, TO, i1, i2, i3] z (fun i h => IsZip h z TI TO .none ∧ IsTupOf3 h TI (.ref i1) (.ref i2) (.ref i3) ∧ (∃ x y u, IsTupOf3 h TO x y u) ∧ h.IsTupleIter i1 a i ∧ h.IsTupleIter i2 b i ∧ h.IsTupleIter i3 d i) where
  mem := by simp
  obj := fun i h st c hc => by
    obtain ⟨hz, hTI, ⟨x, y, u, hTO⟩, ⟨o1, e1, _, d1⟩, ⟨o2, e2, _, d2⟩, ⟨o3, e3, _, d3⟩⟩ := st
    have e' : c = z ∨ c = TI ∨ c = TO ∨ c = i1 ∨ c = i2 ∨ c = i3 := by simpa using hc
    rcases e' with q | q | q | q | q | q
    · rw [q]; exact ⟨_, hz, fun v q => nomatch q⟩
    · rw [q]; exact ⟨_, hTI, fun v q => nomatch q⟩
    · rw [q]; exact ⟨_, hTO, fun v q => nomatch q⟩
    · rw [q]; exact ⟨o1, e1, fun v q => by rw [d1] at q; cases q⟩
    · rw [q]; exact ⟨o2, e2, fun v q => by rw [d2] at q; cases q⟩
    · rw [q]; exact ⟨o3, e3, fun v q => by rw [d3] at q; cases q⟩
  keep := fun i h h' st k => by
    obtain ⟨hz, hTI, ⟨x, y, u, hTO⟩, h1, h2, h3⟩ := st
    exact ⟨k z (by simp) _ hz, k TI (by simp) _ hTI, ⟨x, y, u, k TO (by simp) _ hTO⟩, h1.at fun o q => k i1 (by simp) o q, h2.at fun o q => k i2 (by simp) o q, h3.at fun o q => k i3 (by simp) o q⟩
  item := by
    intro X hP hw hK hc i pins s σ H E I hf st hg
    subst hP hw hK
    obtain ⟨hz, hTI, ⟨x0, y0, u0, hTO⟩, h1, h2, h3⟩ := st
    obtain ⟨xs, ys, zs, x, y, u, hqx, hqy, hqz, hx, hy, hu⟩ := hg
    obtain ⟨its, rv, p, _⟩ := I.tuple hqx
    obtain ⟨its2, rv2, p2, _⟩ := I.tuple hqy
    obtain ⟨its3, rv3, p3, _⟩ := I.tuple hqz
    obtain ⟨v1, hv1, ru⟩ := rv.get hx
    obtain ⟨v2, hv2, ru2⟩ := rv2.get hy
    obtain ⟨v3, hv3, ru3⟩ := rv3.get hu
    have hh := I.ok.hd hc
    have hzl : z < s.heap.objs.size := Heap.lt_size hz
    have lt1 : i < its.length := (List.getElem?_eq_some_iff.mp hv1).1
    have lt2 : i < its2.length := (List.getElem?_eq_some_iff.mp hv2).1
    have lt3 : i < its3.length := (List.getElem?_eq_some_iff.mp hv3).1
    refine wpAny_pyNext_zipD3_item D (Draws.tuple (A := X.A.in1) hh i1 a na its.toArray) (Draws.tuple (A := X.A.in1) hh i2 b nb its2.toArray) (Draws.tuple (A := X.A.in1) hh i3 d nd its3.toArray) hz hTI hTO ⟨h1, p⟩ ⟨h2, p2⟩ ⟨h3, p3⟩ (by simpa using lt1) (by simpa using lt2) (by simpa using lt3)
      fun x1 x2 x3 h' tk q1 q2 q3 z' TO' s1' s2' s3' hT hsz hk => ?_
    have e1 : x1 = v1 := by
      have : its[i]? = some x1 := by simpa using q1
      rw [hv1] at this; exact (Option.some.inj this).symm
    have e2 : x2 = v2 := by
      have : its2[i]? = some x2 := by simpa using q2
      rw [hv2] at this; exact (Option.some.inj this).symm
    have e3 : x3 = v3 := by
      have : its3[i]? = some x3 := by simpa using q3
      rw [hv3] at this; exact (Option.some.inj this).symm
    subst e1 e2 e3
    refine ⟨_, rfl, wpAny_letOwnedTupleGo_zip (s := { s with heap := h', toks := tk }) z' fun h'' z'' sb => ?_⟩
    have hT2 : h''.get? s.heap.objs.size = some { cls := .type "tuple", data := .seq #[x1, x2, x3] } := (sb.2 _ (Nat.ne_of_gt hzl)).trans hT
    have new : ObjOk X.prog X.w (upd H s.heap.objs.size (.tup [x, y, u])) h'' s.heap.objs.size (.tup [x, y, u]) :=
      ⟨by show 3 ≤ sizeLine; decide, [x1, x2, x3], .cons ru (.cons ru2 (.cons ru3 .nil)), ⟨_, hT2, rfl, _, rfl⟩⟩
    have keep : ∀ c o, c ∉ [z, TI, TO, i1, i2, i3] → s.heap.get? c = some o → h''.get? c = some o := fun c o hb q =>
      (sb.2 c (fun q' => hb (by simp [q']))).trans (hk c o (fun q' => hb (by simp [q'])) (fun q' => hb (by simp [q'])) (fun q' => hb (by simp [q'])) (fun q' => hb (by simp [q'])) (fun q' => hb (by simp [q'])) q)
    have I1 : Inv X pins σ (upd H s.heap.objs.size (.tup [x, y, u])) { s with heap := h'', toks := tk } :=
      I.turnedNew (t' := tk) (ch := [z, TI, TO, i1, i2, i3]) keep hf (Nat.le_refl _) new
    refine ⟨.ref s.heap.objs.size, _, I1, rfl, ⟨_, x, y, u, rfl, I.hok.fresh (Nat.le_refl _), rfl, fun l hl => by rw [I.tuple_inj hl hqx]; exact hx, fun l hl => by rw [I.tuple_inj hl hqy]; exact hy, fun l hl => by rw [I.tuple_inj hl hqz]; exact hu⟩, ⟨z'', ?_, ⟨x1, x2, x3, ?_⟩, ?_, ?_, ?_⟩, fun c hcm => ?_⟩
    · exact (sb.2 _ D.TIz).trans (hk _ _ D.TIz D.TITO D.TIi1 D.TIi2 D.TIi3 hTI)
    · exact (sb.2 _ D.TOz).trans TO'
    · exact s1'.1.at fun o q => (sb.2 _ (fun e => D.zi1 e.symm)).trans q
    · exact s2'.1.at fun o q => (sb.2 _ (fun e => D.zi2 e.symm)).trans q
    · exact s3'.1.at fun o q => (sb.2 _ (fun e => D.zi3 e.symm)).trans q
    · have hlt : c < s.heap.objs.size := by
        have e' : c = z ∨ c = TI ∨ c = TO ∨ c = i1 ∨ c = i2 ∨ c = i3 := by simpa using hcm
        rcases e' with q | q | q | q | q | q
        · rw [q]; exact hzl
        · rw [q]; exact Heap.lt_size hTI
        · rw [q]; exact Heap.lt_size hTO
        · rw [q]; obtain ⟨_, e1, _⟩ := h1; exact Heap.lt_size e1
        · rw [q]; obtain ⟨_, e2, _⟩ := h2; exact Heap.lt_size e2
        · rw [q]; obtain ⟨_, e2, _⟩ := h3; exact Heap.lt_size e2
      rw [upd_ne (Nat.ne_of_lt hlt)]
      exact (hf c hcm).1
  done := by
    intro X hP hw hK hc i pins s σ H E I hf st hg
    subst hP hw hK
    obtain ⟨hz, hTI, ⟨x0, y0, u0, hTO⟩, h1, h2, h3⟩ := st
    obtain ⟨xs, ys, zs, hqx, hqy, hqz, l1, l2, l3, hend⟩ := hg
    obtain ⟨its, rv, p, _⟩ := I.tuple hqx
    obtain ⟨its2, rv2, p2, _⟩ := I.tuple hqy
    obtain ⟨its3, rv3, p3, _⟩ := I.tuple hqz
    have hh := I.ok.hd hc
    have m1 := rv.length
    have m2 := rv2.length
    have m3 := rv3.length
    exact wpAny_pyNext_zipD3_end D (Draws.tuple (A := X.A.in1) hh i1 a na its.toArray) (Draws.tuple (A := X.A.in1) hh i2 b nb its2.toArray) (Draws.tuple (A := X.A.in1) hh i3 d nd its3.toArray) hz hTI hTO ⟨h1, p⟩ ⟨h2, p2⟩ ⟨h3, p3⟩
      (by simp; omega) (by simp; omega) (by simp; omega) (by simp; omega) fun h' tk hk => ⟨rfl, I.turnedL (t' := tk) (ch := [z, TI, TO, i1, i2, i3]) (fun c o hb q =>
      hk c o (fun q' => hb (by simp [q'])) (fun q' => hb (by simp [q'])) (fun q' => hb (by simp [q'])) (fun q' => hb (by simp [q'])) (fun q' => hb (by simp [q'])) q) hf⟩
  self := fun A i s Q E st h => wpAny_pyIter_zip st.1 h
def iZip3 (K : Frag) (ta : TA) : TI := fun σ H R => ta σ H fun vs H1 => ∃ a b d xs ys zs, vs = [.ref a, .ref b, .ref d] ∧ SqT K H1 a xs ∧ SqT K H1 b ys ∧ SqT K H1 d zs ∧ R (Itz3 K a b d) H1
theorem pi_zip3 {X : Cx} {e e2 e3 : Expr} {ta : TA} {p pos tpos : Pos} {elts : List Expr} {kk : Nat} (hg : Gl X "zip") (hm : X.mg "zip" = none) (ha : PA X [e, e2, e3] ta)
    (hs : starEach [e, e2, e3] X.env = (false, eval e X.env) :: starEach [e2, e3] X.env := by rfl) (hpl : (backTo pos (starEach [e2, e3] X.env)).any (·.1) = false := by rfl) :
    PI X (.Tuple elts kk tpos) (.Call (.Name "zip" p) [e, e2, e3] [] pos) (iZip3 X.K ta) := by
  refine ⟨fun pins s σ H R I h => ?_⟩
  refine Call_ (ld_blt I hg hm PyProof.Rows.boot_zip (PyProof.Rows.callWith_type1 (thn (ha.run pos pins s σ H _ I h) fun us s1 ⟨vs, H1, I1, r1, q1⟩ => ?_) hs hpl))
  obtain ⟨a, b, d, xs, ys, zs, ex, hqx, hqy, hqz, q⟩ := q1
  subst ex
  cases r1 with
  | cons r rr =>
    cases rr with
    | cons r' rr =>
      cases rr with
      | cons r'' rr =>
        cases rr
        cases r
        cases r'
        cases r''
        obtain ⟨its, rv, p1, _⟩ := I1.tuple hqx
        obtain ⟨its2, rv2, p2, _⟩ := I1.tuple hqy
        obtain ⟨its3, rv3, p3, _⟩ := I1.tuple hqz
        have la : a < s1.heap.objs.size := p1.lt
        have lb : b < s1.heap.objs.size := p2.lt
        have ld : d < s1.heap.objs.size := p3.lt
        refine zip_begins3 (begins_tuple a its.toArray) (begins_tuple b its2.toArray) (begins_tuple d its3.toArray) p1 p2 p3 fun h' hz hTI hTO g1 g2 g3 hsz hk => wpAny_pyIter_zip hz ?_
        have I2 : Inv X pins σ H1 { s1 with heap := h' } := I1.kept (t' := s1.toks) hk
        refine ⟨s1.heap.objs.size + 5, [s1.heap.objs.size + 5, s1.heap.objs.size + 3, s1.heap.objs.size + 4, s1.heap.objs.size, s1.heap.objs.size + 1, s1.heap.objs.size + 2], _, _, H1, rfl, I2,
          turn_zip3 (zip_sep3 (N := s1.heap.objs.size) (fp1 := [a]) (fp2 := [b]) (fp3 := [d]) (by simpa using la) (by simpa using lb) (by simpa using ld)) (Nat.ne_of_lt la) (Nat.ne_of_lt (Nat.lt_succ_of_lt lb)) (Nat.ne_of_lt (Nat.lt_succ_of_lt (Nat.lt_succ_of_lt ld))), ⟨hz, hTI, ⟨_, _, _, hTO⟩, ⟨_, g1, rfl, rfl⟩, ⟨_, g2, rfl, rfl⟩, ⟨_, g3, rfl, rfl⟩⟩, fun c hcm => ?_, q⟩
        have e' : c = s1.heap.objs.size + 5 ∨ c = s1.heap.objs.size + 3 ∨ c = s1.heap.objs.size + 4 ∨ c = s1.heap.objs.size ∨ c = s1.heap.objs.size + 1 ∨ c = s1.heap.objs.size + 2 := by simpa using hcm
        have hle : s1.heap.objs.size ≤ c := by
          rcases e' with z | z | z | z | z | z <;> rw [z]
          · exact Nat.le_add_right _ _
          · exact Nat.le_add_right _ _
          · exact Nat.le_add_right _ _
          · exact Nat.le_refl _
          · exact Nat.le_add_right _ _
          · exact Nat.le_add_right _ _
        exact I1.fpOk hle (I1.hok.fresh hle)
end DP
end

section
namespace DP
open PySem PySem.Spec PyProof.Rows L2
section
variable {c : Fc} {env : Env} {σ : L2.St} {ts : List O} {us : List V} {H : Hp}
/-- what is known of data on top -/
theorem Rp.dat {d : PyData} {v : V} (R : Rp c env σ (.dat d :: ts) (v :: us) H) : ∃ F, Fr c F H ∧ DR c.K F v d ∧ ∀ d' v', DR c.K F v' d' → Rp c env σ (.dat d' :: .dat d :: ts) (v' :: v :: us) H := by
  obtain ⟨F, fe, ft, f, e, t, nd, nw⟩ := R
  cases t with
  | cons r t =>
    cases r with
    | dat r => exact ⟨F, f, r, fun d' v' r' => ⟨F, fe, _, f, e, .cons (f1 := []) (.dat r') (.cons (f1 := []) (.dat r) t), nd, nw⟩⟩
end
theorem DRs.length {K : Frag} {F : Hp} : ∀ {vs : List V} {ds : List PyData}, DRs K F vs ds → vs.length = ds.length
  | _, _, .nil => rfl
  | _, _, .cons _ t => by simp [DRs.length t]
theorem DRs.get {K : Frag} {F : Hp} : ∀ {vs : List V} {ds : List PyData} {i : Nat} {d : PyData}, DRs K F vs ds → ds[i]? = some d → ∃ v, vs[i]? = some v ∧ DR K F v d
  | _, _, _, _, .nil, e => by simp at e
  | _, _, 0, _, .cons r _, e => by
    have e' := Option.some.inj e
    subst e'
    exact ⟨_, rfl, r⟩
  | _, _, i + 1, d, .cons _ t, e => by
    obtain ⟨v, h1, h2⟩ := DRs.get (i := i) (d := d) t (by simpa using e)
    exact ⟨v, by simpa using h1, h2⟩
theorem DRs.app {K : Frag} {F : Hp} : ∀ {vs vs' : List V} {ds ds' : List PyData}, DRs K F vs ds → DRs K F vs' ds' → DRs K F (vs ++ vs') (ds ++ ds')
  | _, _, _, _, .nil, h => h
  | _, _, _, _, .cons r t, h => .cons r (DRs.app t h)
theorem DRs.take {K : Frag} {F : Hp} : ∀ {vs : List V} {ds : List PyData} (n : Nat), DRs K F vs ds → DRs K F (vs.take n) (ds.take n)
  | _, _, 0, _ => .nil
  | _, _, _ + 1, .nil => .nil
  | _, _, n + 1, .cons r t => .cons r (DRs.take n t)
theorem DRs.drop {K : Frag} {F : Hp} : ∀ {vs : List V} {ds : List PyData} (n : Nat), DRs K F vs ds → DRs K F (vs.drop n) (ds.drop n)
  | _, _, 0, r => r
  | _, _, _ + 1, .nil => .nil
  | _, _, n + 1, .cons _ t => DRs.drop n t
theorem DRs.ints {K : Frag} {F : Hp} : ∀ {vs : List V} {ns : List Int}, DRs K F vs (ns.map .int) → vs = ns.map V.int
  | _, [], h => by cases h; rfl
  | _, n :: ns, h => by
    cases h with
    | cons r t => cases r; rw [DRs.ints t]; rfl
theorem DRs.ofInts {K : Frag} {F : Hp} : ∀ ns : List Int, DRs K F (ns.map V.int) (ns.map .int)
  | [] => .nil
  | n :: ns => .cons (.int n) (DRs.ofInts ns)
theorem DRs.bls {K : Frag} {F : Hp} : ∀ {vs : List V} {bs : List Bool}, DRs K F vs (bs.map .bool) → vs = bs.map V.bl
  | _, [], h => by cases h; rfl
  | _, n :: ns, h => by
    cases h with
    | cons r t => cases r; rw [DRs.bls t]; rfl
/-! ### walks -/
theorem pi_or {X : Cx} {tg e : Expr} {t t' : TI} (h : PI X tg e t) (h' : PI X tg e t') : PI X tg e (fun σ H R => t σ H R ∨ t' σ H R) := ⟨fun pins s σ H R I q => q.elim (h.run pins s σ H R I) (h'.run pins s σ H R I)⟩
def seqD : PyData → Option (List PyData)
  | .list ds => some ds
  | .tuple ds => some ds
  | .dict [(.list ds, .none)] => some ds
  | _ => none
def kIt (f : EF) : IF := fun env => (f env).bind fun o e1 => match o.toD with
  | some d => match seqD d with
    | some ds => .ok ds e1
    | none => .no
  | none => .no
section
variable {X : Cx} {c : Fc} {p1 p2 : Bool} {f1 f2 : EF}
theorem walk_l {ds : List PyData} {d : PyData} {a : Addr} (h : ∀ F, DR c.K F (.ref a) d → ∃ vs, SqL c.K F a vs ∧ DRs c.K F vs ds) (inj : ∀ env σ ts us H, Rp c env σ (.dat d :: ts) (.ref a :: us) H → True) : Walk c ds [.dat d] [.ref a] (Itl c.K a) := by
  refine ⟨fun i d' hd env σ ts us H R => ?_, fun env σ ts us H R => ?_⟩
  · obtain ⟨F, f, r, k⟩ := Rp.dat R
    obtain ⟨vs, hs, hv⟩ := h F r
    obtain ⟨v, e1, rv⟩ := hv.get hd
    refine ⟨⟨vs, v, f.sub.l hs, e1⟩, fun x H' ⟨e2, y⟩ => ?_⟩
    subst e2
    have e3 := y vs (f.sub.l hs)
    rw [e1] at e3
    cases e3
    exact k d' v rv
  · obtain ⟨F, f, r, k⟩ := Rp.dat R
    obtain ⟨vs, hs, hv⟩ := h F r
    exact ⟨vs, f.sub.l hs, Nat.le_of_eq hv.length⟩
theorem walk_t {ds : List PyData} {a : Addr} : Walk c ds [.dat (.tuple ds)] [.ref a] (Itt c.K a) := by
  refine ⟨fun i d' hd env σ ts us H R => ?_, fun env σ ts us H R => ?_⟩
  · obtain ⟨F, f, r, k⟩ := Rp.dat R
    cases r with
    | tup hs hv =>
      rename_i vs
      obtain ⟨v, e1, rv⟩ := hv.get hd
      refine ⟨⟨vs, v, f.sub.t hs, e1⟩, fun x H' ⟨e2, y⟩ => ?_⟩
      subst e2
      have e3 := y vs (f.sub.t hs)
      rw [e1] at e3
      cases e3
      exact k d' v rv
  · obtain ⟨F, f, r, k⟩ := Rp.dat R
    cases r with
    | tup hs hv => exact ⟨_, f.sub.t hs, Nat.le_of_eq hv.length⟩
theorem di_data {tg e : Expr} (hK : X.K = c.K) (h : DE X c p1 e f1) : DI X c tg e (kIt f1) := by
  refine ⟨(pi_or (pi_list h.run) (pi_tup h.run)).weak fun σ H R ⟨env, ts, us, Rr, q⟩ => ?_⟩
  unfold kIt RE.bind at q
  cases e1 : f1 env with
  | no => rw [e1] at q; exact q.elim
  | err x en => rw [e1] at q; exact .inl ⟨env, ts, us, Rr, by rw [e1]; exact q⟩
  | ok o en =>
    rw [e1] at q
    simp only at q
    split at q
    · rename_i d ed
      split at q
      · rename_i ds es
        rw [hK]
        cases d with
        | tuple ds' =>
          cases es
          refine .inr ⟨env, ts, us, Rr, ?_⟩
          rw [e1]
          intro v H' R' _
          have R2 := R'.freeze ed
          obtain ⟨F, f, r, k⟩ := Rp.dat R2
          cases r with
          | tup hs hv => exact ⟨_, rfl, ⟨_, f.sub.t hs⟩, q _ H' _ _ R2 rfl walk_t⟩
        | list ds' =>
          cases es
          refine .inl ⟨env, ts, us, Rr, ?_⟩
          rw [e1]
          intro v H' R' _
          have R2 := R'.freeze ed
          obtain ⟨F, f, r, k⟩ := Rp.dat R2
          cases r with
          | lst hs hv => exact ⟨_, rfl, ⟨_, f.sub.l (SqL.of hs)⟩, q _ H' _ _ R2 rfl (walk_l (fun F r => by cases r with | lst hs hv => exact ⟨_, SqL.of hs, hv⟩) fun _ _ _ _ _ _ => trivial)⟩
        | dict kvs =>
          unfold seqD at es
          split at es
          · rename_i z; cases z
          · rename_i z; cases z
          · rename_i ds' z
            cases z
            cases es
            refine .inl ⟨env, ts, us, Rr, ?_⟩
            rw [e1]
            intro v H' R' _
            have R2 := R'.freeze ed
            obtain ⟨F, f, r, k⟩ := Rp.dat R2
            cases r with
            | ro hs hv => exact ⟨_, rfl, ⟨_, f.sub.l hs⟩, q _ H' _ _ R2 rfl (walk_l (fun F r => by cases r with | ro hs hv => exact ⟨_, hs, hv⟩) fun _ _ _ _ _ _ => trivial)⟩
          · cases es
        | _ => cases es
      · exact q.elim
    · exact q.elim
/-- the ints from lo on -/
def rngD (lo : Int) (n : Nat) : List PyData := (List.range n).map fun (i : Nat) => PyData.int (lo + i)
theorem rngD_get {lo : Int} {n i : Nat} {d : PyData} (h : (rngD lo n)[i]? = some d) : i < n ∧ d = .int (lo + i) := by
  unfold rngD at h
  rw [List.getElem?_map] at h
  by_cases z : i < n
  · rw [List.getElem?_range z] at h
    cases h
    exact ⟨z, rfl⟩
  · rw [List.getElem?_eq_none (by simpa using Nat.le_of_not_lt z)] at h
    cases h
theorem walk_r {lo : Int} {n : Nat} : Walk c (rngD lo n) [] [] (Itr lo n) := by
  refine ⟨fun i d hd env σ ts us H R => ?_, fun env σ ts us H R => ?_⟩
  · obtain ⟨h1, rfl⟩ := rngD_get hd
    refine ⟨h1, fun x H' ⟨e1, e2⟩ => ?_⟩
    subst e1 e2
    exact Rp.push R fun _ _ => .int _
  · show n ≤ (rngD lo n).length
    unfold rngD
    simp
def kRng1 (g : Env → RE (List O)) : IF := fun env => (g env).bind fun os e1 => match os with
  | [.dat (.int j)] => if -4611686018427387904 ≤ j ∧ j < 4611686018427387904 then .ok (rngD 0 j.toNat) e1 else .no
  | _ => .no
def kRng2 (g : Env → RE (List O)) : IF := fun env => (g env).bind fun os e1 => match os with
  | [.dat (.int i), .dat (.int j)] => if -4611686018427387904 ≤ i ∧ i < 4611686018427387904 ∧ -4611686018427387904 ≤ j ∧ j < 4611686018427387904 then .ok (rngD i (j - i).toNat) e1 else .no
  | _ => .no
theorem Rp.ints1 {env : Env} {σ : L2.St} {ts : List O} {us : List V} {H : Hp} {j : Int} {vs : List V} (R : Rp c env σ ([.dat (.int j)] ++ ts) (vs ++ us) H) (hl : ([.dat (.int j)] : List O).length = vs.length) : vs = [.int j] := by
  cases vs with
  | nil => simp at hl
  | cons v vs =>
    cases vs with
    | cons _ _ => simp at hl
    | nil =>
      obtain ⟨F, f, r, k⟩ := Rp.dat (ts := ts) (us := us) R
      cases r; rfl
theorem Rp.ints2 {env : Env} {σ : L2.St} {ts : List O} {us : List V} {H : Hp} {i j : Int} {vs : List V} (R : Rp c env σ ([.dat (.int i), .dat (.int j)] ++ ts) (vs ++ us) H) (hl : ([.dat (.int i), .dat (.int j)] : List O).length = vs.length) : vs = [.int i, .int j] := by
  cases vs with
  | nil => simp at hl
  | cons v vs =>
    have R' : Rp c env σ (.dat (.int i) :: ([.dat (.int j)] ++ ts)) (v :: (vs ++ us)) H := R
    obtain ⟨F, f, r, k⟩ := Rp.dat R'
    cases r
    rw [Rp.ints1 R'.pop (by simp at hl ⊢; exact hl.symm)]
theorem di_range1 {tg a : Expr} {p pos : Pos} {g : Env → RE (List O)} {ios : List (Option Nat)} (hg : Gl X "range") (hm : X.mg "range" = none) (ha : DA X c p1 ios [a] g) (hs : starEach [a] X.env = [(false, eval a X.env)] := by rfl) : DI X c tg (.Call (.Name "range" p) [a] [] pos) (kRng1 g) := by
  refine ⟨(pi_range1 hg hm ha.run hs).weak fun σ H R ⟨env, ts, us, Rr, q⟩ => ⟨env, ts, us, Rr, ?_⟩⟩
  unfold kRng1 RE.bind at q
  cases e1 : g env with
  | no => rw [e1] at q; exact q.elim
  | err x en => rw [e1] at q; exact q
  | ok os en =>
    rw [e1] at q
    simp only at q
    intro vs H' R' hl hli _ _
    split at q
    · rename_i j
      obtain rfl := Rp.ints1 R' hl
      split at q
      · rename_i hz
        exact ⟨j, rfl, hz.1, hz.2, q _ H' [] [] R'.pop rfl walk_r⟩
      · exact q.elim
    · exact q.elim
theorem di_range2 {tg a b : Expr} {p pos : Pos} {g : Env → RE (List O)} {ios : List (Option Nat)} (hg : Gl X "range") (hm : X.mg "range" = none) (ha : DA X c p1 ios [a, b] g) (hs : starEach [a, b] X.env = [(false, eval a X.env), (false, eval b X.env)] := by rfl) (hs2 : starEach [b] X.env = [(false, eval b X.env)] := by rfl) : DI X c tg (.Call (.Name "range" p) [a, b] [] pos) (kRng2 g) := by
  refine ⟨(pi_range2 hg hm ha.run hs hs2).weak fun σ H R ⟨env, ts, us, Rr, q⟩ => ⟨env, ts, us, Rr, ?_⟩⟩
  unfold kRng2 RE.bind at q
  cases e1 : g env with
  | no => rw [e1] at q; exact q.elim
  | err x en => rw [e1] at q; exact q
  | ok os en =>
    rw [e1] at q
    simp only at q
    intro vs H' R' hl hli _ _
    split at q
    · rename_i i j
      obtain rfl := Rp.ints2 R' hl
      split at q
      · rename_i hz
        exact ⟨i, j, rfl, ⟨hz.1, hz.2.1, hz.2.2.1, hz.2.2.2⟩, q _ H' [] [] R'.pop.pop rfl walk_r⟩
      · exact q.elim
    · exact q.elim
/-- a new frozen tuple comes on top -/
theorem Rp.newTup {env : Env} {σ : L2.St} {ts : List O} {us : List V} {H : Hp} {ds : List PyData} {vs : List V} {T : Addr} (R : Rp c env σ (ds.map .dat ++ ts) (vs ++ us) H) (hl : ds.length = vs.length) (hT : H T = none) : Rp c env σ (.dat (.tuple ds) :: ts) (.ref T :: us) (upd H T (.tup vs)) := by
  have R1 := Rp.mk (s := .tup) R (by simpa using hl) hT rfl
  refine R1.freeze ?_
  rw [O.toD]
  have : O.toDs (ds.map .dat) = some ds := by
    clear R R1 hl hT
    induction ds with
    | nil => rfl
    | cons d ds ih =>
      show (match (O.dat d).toD, O.toDs (ds.map .dat) with | some d, some ds => some (d :: ds) | _, _ => none) = _
      rw [ih, O.toD]
  rw [this]
  rfl
/-! zip of three tuples -/
def zip3D : List PyData → List PyData → List PyData → List PyData
  | x :: xs, y :: ys, z :: zs => .tuple [x, y, z] :: zip3D xs ys zs
  | _, _, _ => []
theorem zip3D_get : ∀ {xs ys zs : List PyData} {i : Nat} {d : PyData}, (zip3D xs ys zs)[i]? = some d → ∃ x y z, xs[i]? = some x ∧ ys[i]? = some y ∧ zs[i]? = some z ∧ d = .tuple [x, y, z]
  | [], _, _, _, _, h => by simp [zip3D] at h
  | _ :: _, [], _, _, _, h => by simp [zip3D] at h
  | _ :: _, _ :: _, [], _, _, h => by simp [zip3D] at h
  | x :: xs, y :: ys, z :: zs, 0, d, h => ⟨x, y, z, rfl, rfl, rfl, (by simpa [zip3D] using h.symm)⟩
  | x :: xs, y :: ys, z :: zs, i + 1, d, h => by
    obtain ⟨a, b, e, h1, h2, h3, h4⟩ := zip3D_get (xs := xs) (ys := ys) (zs := zs) (i := i) (d := d) (by simpa [zip3D] using h)
    exact ⟨a, b, e, by simpa using h1, by simpa using h2, by simpa using h3, h4⟩
theorem zip3D_len : ∀ xs ys zs : List PyData, (zip3D xs ys zs).length = min xs.length (min ys.length zs.length)
  | [], _, _ => by simp [zip3D]
  | _ :: _, [], _ => by simp [zip3D]
  | _ :: _, _ :: _, [] => by simp [zip3D]
  | x :: xs, y :: ys, z :: zs => by
    show (zip3D xs ys zs).length + 1 = min (xs.length + 1) (min (ys.length + 1) (zs.length + 1))
    rw [zip3D_len xs ys zs]
    omega
def kZip3 (g : Env → RE (List O)) : IF := fun env => (g env).bind fun os e1 => match O.toDs os with
  | some [.tuple xs, .tuple ys, .tuple zs] => .ok (zip3D xs ys zs) e1
  | _ => .no
theorem walk_z3 {xs ys zs : List PyData} {a b d : Addr} : Walk c (zip3D xs ys zs) [.dat (.tuple xs), .dat (.tuple ys), .dat (.tuple zs)] [.ref a, .ref b, .ref d] (Itz3 c.K a b d) := by
  have look : ∀ {env σ ts us H}, Rp c env σ ([.dat (.tuple xs), .dat (.tuple ys), .dat (.tuple zs)] ++ ts) ([.ref a, .ref b, .ref d] ++ us) H → ∃ F vs ws zz, Fr c F H ∧ SqT c.K F a vs ∧ SqT c.K F b ws ∧ SqT c.K F d zz ∧ DRs c.K F vs xs ∧ DRs c.K F ws ys ∧ DRs c.K F zz zs ∧
      ∀ d' v', DRs c.K F v' d' → Rp c env σ (d'.map .dat ++ ([.dat (.tuple xs), .dat (.tuple ys), .dat (.tuple zs)] ++ ts)) (v' ++ ([.ref a, .ref b, .ref d] ++ us)) H := fun {env σ ts us H} R => by
    obtain ⟨F, fe, ft, f, e, t, nd, nw⟩ := R
    have t0 := t
    cases t with
    | cons r t =>
      cases t with
      | cons r2 t =>
        cases t with
        | cons r3 t =>
          cases r with
          | dat r =>
            cases r2 with
            | dat r2 =>
              cases r3 with
              | dat r3 =>
                cases r with
                | tup h1 g1 =>
                  cases r2 with
                  | tup h2 g2 =>
                    cases r3 with
                    | tup h3 g3 => exact ⟨F, _, _, _, f, h1, h2, h3, g1, g2, g3, fun d' v' r' => ⟨F, fe, _, f, e, (dpAll_os r').app t0, by simpa using nd, by simpa using nw⟩⟩
  refine ⟨fun i dd hd env σ ts us H R => ?_, fun env σ ts us H R => ?_⟩
  · obtain ⟨F, vs, ws, zz, f, h1, h2, h3, g1, g2, g3, k⟩ := look R
    obtain ⟨x, y, z, i1, i2, i3, rfl⟩ := zip3D_get hd
    obtain ⟨v1, j1, r1⟩ := g1.get i1
    obtain ⟨v2, j2, r2⟩ := g2.get i2
    obtain ⟨v3, j3, r3⟩ := g3.get i3
    refine ⟨⟨vs, ws, zz, v1, v2, v3, f.sub.t h1, f.sub.t h2, f.sub.t h3, j1, j2, j3⟩, fun q H' ⟨T, x', y', z', e1, hT, e2, k1, k2, k3⟩ => ?_⟩
    have a1 := k1 vs (f.sub.t h1)
    have a2 := k2 ws (f.sub.t h2)
    have a3 := k3 zz (f.sub.t h3)
    rw [j1] at a1; rw [j2] at a2; rw [j3] at a3
    cases a1; cases a2; cases a3
    subst e1 e2
    exact Rp.newTup (k [x, y, z] [v1, v2, v3] (.cons r1 (.cons r2 (.cons r3 .nil)))) rfl hT
  · obtain ⟨F, vs, ws, zz, f, h1, h2, h3, g1, g2, g3, k⟩ := look R
    have l1 := g1.length
    have l2 := g2.length
    have l3 := g3.length
    have l := zip3D_len xs ys zs
    exact ⟨vs, ws, zz, f.sub.t h1, f.sub.t h2, f.sub.t h3, by omega, by omega, by omega, by omega⟩
theorem three {vs : List V} (h : (3 : Nat) = vs.length) : ∃ a b d, vs = [a, b, d] := by
  match vs, h with
  | [a, b, d], _ => exact ⟨a, b, d, rfl⟩
theorem di_zip3 {a b d : Expr} {p pos tpos : Pos} {elts : List Expr} {kk : Nat} {g : Env → RE (List O)} {ios : List (Option Nat)} (hK : X.K = c.K) (hg : Gl X "zip") (hm : X.mg "zip" = none) (ha : DA X c p1 ios [a, b, d] g)
    (hs : starEach [a, b, d] X.env = (false, eval a X.env) :: starEach [b, d] X.env := by rfl) (hpl : (backTo pos (starEach [b, d] X.env)).any (·.1) = false := by rfl) : DI X c (.Tuple elts kk tpos) (.Call (.Name "zip" p) [a, b, d] [] pos) (kZip3 g) := by
  refine ⟨(pi_zip3 hg hm ha.run hs hpl).weak fun σ H R ⟨env, ts, us, Rr, q⟩ => ⟨env, ts, us, Rr, ?_⟩⟩
  unfold kZip3 RE.bind at q
  cases e1 : g env with
  | no => rw [e1] at q; exact q.elim
  | err x en => rw [e1] at q; exact q
  | ok os en =>
    rw [e1] at q
    simp only at q
    intro vs H' R' hl hli _ _
    split at q
    · rename_i xs ys zs ed
      have R2 := R'.freezes hl ed
      have l3 : (3 : Nat) = vs.length := (Rp.freezes.toDs_len ed).trans hl
      obtain ⟨v1, v2, v3, rfl⟩ := three l3
      have R3 : Rp c en σ (.dat (.tuple xs) :: .dat (.tuple ys) :: .dat (.tuple zs) :: ts) (v1 :: v2 :: v3 :: us) H' := R2
      obtain ⟨F, f, r, k⟩ := Rp.dat R3
      obtain ⟨F2, f2, r2, _⟩ := Rp.dat R3.pop
      obtain ⟨F3, f3, r3, _⟩ := Rp.dat R3.pop.pop
      cases r with
      | tup h1 g1 =>
        cases r2 with
        | tup h2 g2 =>
          cases r3 with
          | tup h3 g3 => 
            rw [hK]
            exact ⟨_, _, _, _, _, _, rfl, f.sub.t h1, f2.sub.t h2, f3.sub.t h3, q _ H' _ _ R3 rfl walk_z3⟩
    · exact q.elim
/-! enumerate of a list -/
def enumD (k : Nat) : List PyData → List PyData
  | [] => []
  | d :: ds => .tuple [.int k, d] :: enumD (k + 1) ds
theorem enumD_get : ∀ {ds : List PyData} {k i : Nat} {d : PyData}, (enumD k ds)[i]? = some d → ∃ x, ds[i]? = some x ∧ d = .tuple [.int (k + i : Nat), x]
  | [], _, _, _, h => by simp [enumD] at h
  | x :: xs, k, 0, d, h => ⟨x, rfl, by simpa [enumD] using h.symm⟩
  | x :: xs, k, i + 1, d, h => by
    obtain ⟨y, h1, h2⟩ := enumD_get (ds := xs) (k := k + 1) (i := i) (d := d) (by simpa [enumD] using h)
    exact ⟨y, by simpa using h1, by rw [h2]; congr 3; omega⟩
theorem enumD_len : ∀ (k : Nat) (ds : List PyData), (enumD k ds).length = ds.length
  | _, [] => rfl
  | k, d :: ds => by simp [enumD, enumD_len (k + 1) ds]
theorem seqD_l {F : Hp} {d : PyData} {ds : List PyData} {a : Addr} (h : DR c.K F (.ref a) d) (hs : seqD d = some ds) : (∃ vs, SqL c.K F a vs ∧ DRs c.K F vs ds) ∨ (∃ vs, SqT c.K F a vs ∧ DRs c.K F vs ds) := by
  cases h with
  | lst h1 h2 => cases hs; exact .inl ⟨_, SqL.of h1, h2⟩
  | tup h1 h2 => cases hs; exact .inr ⟨_, h1, h2⟩
  | ro h1 h2 => cases hs; exact .inl ⟨_, h1, h2⟩
end
end DP
end

section
namespace DP
open PySem PySem.Spec PyProof.Rows L2
/-! ### operations on data -/
def gAdd : PyData → PyData → Option O
  | .int i, .int j => some (.dat (.int (i + j)))
  | .str x, .str y => if x.length + y.length ≤ 1000000 then some (.dat (.str (x ++ y))) else none
  | .tuple xs, .tuple ys => if xs.length + ys.length ≤ 1000000 then some (.dat (.tuple (xs ++ ys))) else none
  | .list xs, .list ys => if xs.length + ys.length ≤ 1000000 then some (.node .lst ((xs ++ ys).map .dat)) else none
  | _, _ => none
def rAddA (K : Frag) : L2.R2 := fun x y H Q => rI0 (fun i j => .int (i + j)) x y H Q ∨ ((∃ i j, x = .str i ∧ y = .str j ∧ i.length + j.length ≤ sizeLine ∧ Q (.str (i ++ j)) H) ∨ (rCatA K x y H Q ∨ rCat x y H Q))
theorem op_addA {X : Cx} : OpR X (binaryOp .Add) (rAddA X.K) := op_add.or (op_add_str.or (op_catA.or op_cat))
theorem o_add {K : Frag} : Op2 K (rAddA K) gAdd := by
  intro F H x y d1 d2 z s r1 r2 g Q q
  unfold gAdd at g
  split at g
  · cases g; cases r1; cases r2
    exact .inl ⟨_, _, rfl, rfl, q.sc s (.int _)⟩
  · split at g
    · rename_i hz
      cases g; cases r1; cases r2
      exact .inr (.inl ⟨_, _, rfl, rfl, sz_ok hz, q.sc s (.str _)⟩)
    · cases g
  · split at g
    · rename_i xs ys hz
      cases g
      cases r1 with
      | tup h1 g1 =>
        cases r2 with
        | tup h2 g2 =>
          rename_i a vs b ws
          refine .inr (.inr (.inl ⟨a, b, vs, ws, rfl, rfl, s.t h1, s.t h2, by rw [g1.length, g2.length]; exact sz_ok hz, fun e => ?_, fun _ e => ?_, fun _ _ p hp => q.tup s (g1.app g2) hp⟩))
          · subst e
            cases g1
            exact q.sc s (.tup h2 g2)
          · subst e
            cases g2
            rw [List.append_nil] at q
            exact q.sc s (.tup h1 g1)
    · cases g
  · split at g
    · rename_i xs ys hz
      cases g
      cases r1 with
      | lst h1 g1 =>
        cases r2 with
        | lst h2 g2 => exact .inr (.inr (.inr ⟨_, _, _, _, rfl, rfl, s _ _ h1, s _ _ h2, by rw [g1.length, g2.length]; exact sz_ok hz, fun p hp => q.lst s (g1.app g2) hp⟩))
    · cases g
  · cases g
def gSub : PyData → PyData → Option O
  | .int i, .int j => some (.dat (.int (i - j)))
  | _, _ => none
theorem o_sub {K : Frag} : Op2 K (rI0 fun i j => .int (i - j)) gSub := by
  intro F H x y d1 d2 z s r1 r2 g Q q
  unfold gSub at g
  split at g
  · cases g; cases r1; cases r2
    exact ⟨_, _, rfl, rfl, q.sc s (.int _)⟩
  · cases g
/-- ints below 2^64 on one side -/
def gMul : PyData → PyData → Option O
  | .int i, .int j => if (-18446744073709551616 < i ∧ i < 18446744073709551616) ∨ (-18446744073709551616 < j ∧ j < 18446744073709551616) then some (.dat (.int (i * j))) else none
  | _, _ => none
theorem o_mul {K : Frag} : Op2 K (rI CMul fun i j => .int (i * j)) gMul := by
  intro F H x y d1 d2 z s r1 r2 g Q q
  unfold gMul at g
  split at g
  · split at g
    · rename_i hc
      cases g; cases r1; cases r2
      exact ⟨_, _, rfl, rfl, hc, q.sc s (.int _)⟩
    · cases g
  · cases g
def gDiv : PyData → PyData → Option O
  | .int i, .int j => if 0 < j ∧ j < 18446744073709551616 then some (.dat (.int (i / j))) else none
  | _, _ => none
theorem o_div {K : Frag} : Op2 K (rI CDivW fun i j => .int (i / j)) gDiv := by
  intro F H x y d1 d2 z s r1 r2 g Q q
  unfold gDiv at g
  split at g
  · split at g
    · rename_i i j hc
      cases g; cases r1; cases r2
      exact ⟨_, _, rfl, rfl, wide_div (b := 64) hc.1 (by have := hc.1; have := hc.2; omega) (by decide) (by decide), q.sc s (.int _)⟩
    · cases g
  · cases g
def gMod : PyData → PyData → Option O
  | .int i, .int j => if 0 < j then some (.dat (.int (i % j))) else none
  | _, _ => none
theorem o_mod {K : Frag} : Op2 K (rI (fun _ j => 0 < j) fun i j => .int (i % j)) gMod := by
  intro F H x y d1 d2 z s r1 r2 g Q q
  unfold gMod at g
  split at g
  · split at g
    · rename_i i j hc
      cases g; cases r1; cases r2
      exact ⟨_, _, rfl, rfl, hc, q.sc s (.int _)⟩
    · cases g
  · cases g
def gPow : PyData → PyData → Option O
  | .int i, .int j => if 0 ≤ j ∧ j ≤ 1000 ∧ -1000000 < i ∧ i < 1000000 then some (.dat (.int (i ^ j.toNat))) else none
  | _, _ => none
theorem o_pow {K : Frag} : Op2 K (rI CPow fun i j => .int (i ^ j.toNat)) gPow := by
  intro F H x y d1 d2 z s r1 r2 g Q q
  unfold gPow at g
  split at g
  · split at g
    · rename_i i j hc
      cases g; cases r1; cases r2
      exact ⟨_, _, rfl, rfl, ⟨hc.1, by omega, by omega⟩, q.sc s (.int _)⟩
    · cases g
  · cases g
def gNeg : PyData → Option O
  | .int i => some (.dat (.int (-i)))
  | _ => none
theorem o_neg {K : Frag} : Op1 K (rU fun i => .int (-i)) gNeg := by
  intro F H x d1 z s r1 g Q q
  unfold gNeg at g
  split at g
  · cases g; cases r1
    exact ⟨_, rfl, q.sc s (.int _)⟩
  · cases g
/-! comparisons of ints -/
def gCmp (p : Int → Int → Bool) : PyData → PyData → Option O
  | .int i, .int j => some (.dat (.bool (p i j)))
  | _, _ => none
theorem o_cmp {K : Frag} {p : Int → Int → Bool} : Op2 K (rI0 fun i j => .bl (p i j)) (gCmp p) := by
  intro F H x y d1 d2 z s r1 r2 g Q q
  unfold gCmp at g
  split at g
  · cases g; cases r1; cases r2
    exact ⟨_, _, rfl, rfl, q.sc s (.bl _)⟩
  · cases g
abbrev gLt := gCmp fun i j => decide (i < j)
abbrev gLe := gCmp fun i j => decide (i ≤ j)
abbrev gGt := gCmp fun i j => decide (j < i)
abbrev gGe := gCmp fun i j => decide (j ≤ i)
/-- == of data without dicts -/
def gEq : PyData → PyData → Option O := fun d e => if SeqAt.shaped d = true ∧ SeqAt.shaped e = true then some (.dat (.bool (PyData.eqv d e))) else none
def gNe : PyData → PyData → Option O := fun d e => if SeqAt.shaped d = true ∧ SeqAt.shaped e = true then some (.dat (.bool (!PyData.eqv d e))) else none
theorem o_eq {K : Frag} : Op2 K (rEqD K) gEq := by
  intro F H x y d1 d2 z s r1 r2 g Q q
  unfold gEq at g
  split at g
  · rename_i hz
    cases g
    exact ⟨d1, d2, (s.dp _ _ r1).dp _ _ (SeqAt.canLay_of_shaped hz.1), (s.dp _ _ r2).dp _ _ (SeqAt.canLay_of_shaped hz.2), hz.1, hz.2, q.sc s (.bl _)⟩
  · cases g
theorem o_ne {K : Frag} : Op2 K (rNeD K) gNe := by
  intro F H x y d1 d2 z s r1 r2 g Q q
  unfold gNe at g
  split at g
  · rename_i hz
    cases g
    exact ⟨d1, d2, (s.dp _ _ r1).dp _ _ (SeqAt.canLay_of_shaped hz.1), (s.dp _ _ r2).dp _ _ (SeqAt.canLay_of_shaped hz.2), hz.1, hz.2, q.sc s (.bl _)⟩
  · cases g
def isN : PyData → Bool
  | .none => true
  | _ => false
theorem isN_dec {K : Frag} {F : Hp} {x : V} {d : PyData} (r : DR K F x d) : decide (x = .non) = isN d := by cases r <;> rfl
def gIs : PyData → PyData → Option O
  | d, .none => some (.dat (.bool (isN d)))
  | _, _ => none
def gIsNot : PyData → PyData → Option O
  | d, .none => some (.dat (.bool (!isN d)))
  | _, _ => none
theorem o_is {K : Frag} : Op2 K (fun x y H Q => y = .non ∧ Q (.bl (decide (x = .non))) H) gIs := by
  intro F H x y d1 d2 z s r1 r2 g Q q
  unfold gIs at g
  split at g
  · cases g; cases r2
    rw [← isN_dec r1] at q
    exact ⟨rfl, q.sc s (.bl _)⟩
  · cases g
theorem o_isnot {K : Frag} : Op2 K (fun x y H Q => y = .non ∧ Q (.bl (!decide (x = .non))) H) gIsNot := by
  intro F H x y d1 d2 z s r1 r2 g Q q
  unfold gIsNot at g
  split at g
  · cases g; cases r2
    rw [← isN_dec r1] at q
    exact ⟨rfl, q.sc s (.bl _)⟩
  · cases g
/-! in, not in: data in a list (deep); flat data in a list or a tuple -/
def flatD : PyData → Bool
  | .none => true
  | .bool _ => true
  | .int _ => true
  | .str _ => true
  | _ => false
def inD (d : PyData) (ds : List PyData) : Bool := ds.any fun z => PyData.eqv z d
def gIn : PyData → PyData → Option O
  | d, .list ds => if SeqAt.shaped d = true ∧ SeqAt.shaped (.list ds) = true then some (.dat (.bool (inD d ds))) else none
  | d, .tuple ds => if flatD d = true ∧ ds.all flatD = true then some (.dat (.bool (inD d ds))) else none
  | _, _ => none
def gNotIn : PyData → PyData → Option O
  | d, .list ds => if SeqAt.shaped d = true ∧ SeqAt.shaped (.list ds) = true then some (.dat (.bool (!inD d ds))) else none
  | d, .tuple ds => if flatD d = true ∧ ds.all flatD = true then some (.dat (.bool (!inD d ds))) else none
  | _, _ => none
theorem flat_dv {K : Frag} {F : Hp} {x : V} {d : PyData} (r : DR K F x d) (h : flatD d = true) : flatV x = true := by cases r <;> first | rfl | cases h
theorem eqv_dv {K : Frag} {F : Hp} {x y : V} {d e : PyData} (r : DR K F x d) (r' : DR K F y e) (h : flatD d = true) (h' : flatD e = true) : eqV y x = PyData.eqv e d := by
  cases r <;> cases r' <;> first | (cases h; done) | (cases h'; done) | skip
  all_goals simp [eqV, PyData.eqv]
theorem flats_dv {K : Frag} {F : Hp} : ∀ {xs : List V} {ds : List PyData}, DRs K F xs ds → ds.all flatD = true → xs.all flatV = true
  | _, _, .nil, _ => rfl
  | _, _, .cons r t, h => by
    rw [List.all_cons, Bool.and_eq_true] at h
    rw [List.all_cons, flat_dv r h.1, flats_dv t h.2]
    rfl
theorem in_dv {K : Frag} {F : Hp} {x : V} {d : PyData} (r : DR K F x d) (hd : flatD d = true) : ∀ {xs : List V} {ds : List PyData}, DRs K F xs ds → ds.all flatD = true → inV x xs = inD d ds
  | _, _, .nil, _ => rfl
  | _, _, .cons r' t, h => by
    rw [List.all_cons, Bool.and_eq_true] at h
    have ih := in_dv r hd t h.2
    unfold inV inD at ih ⊢
    rw [List.any_cons, List.any_cons, ih, eqv_dv r r' hd h.1]
def rInA (K : Frag) (neg : Bool) : L2.R2 := fun x y H Q => (if neg then rNotInD K else rInD K) x y H Q ∨ rIn K neg x y H Q
theorem op_inA {X : Cx} (hu : X.A.units + 65 < cLine) : OpR X (compareOp .In) (rInA X.K false) := (op_inD hu).or op_in_seq
theorem op_notInA {X : Cx} (hu : X.A.units + 65 < cLine) : OpR X (compareOp .NotIn) (rInA X.K true) := (op_notInD hu).or op_notIn_seq
theorem o_in {K : Frag} : Op2 K (rInA K false) gIn := by
  intro F H x y d1 d2 z s r1 r2 g Q q
  unfold gIn at g
  split at g
  · split at g
    · rename_i hz
      cases g
      exact .inl ⟨d1, _, (s.dp _ _ r1).dp _ _ (SeqAt.canLay_of_shaped hz.1), (s.dp _ _ r2).dp _ _ (SeqAt.canLay_of_shaped hz.2), hz.1, hz.2, q.sc s (.bl _)⟩
    · cases g
  · split at g
    · rename_i hz
      cases g
      cases r2 with
      | tup h2 g2 =>
        refine .inr ⟨_, _, rfl, .inr (s.t h2), flat_dv r1 hz.1, flats_dv g2 hz.2, ?_⟩
        rw [← in_dv r1 hz.1 g2 hz.2] at q
        exact q.sc s (.bl _)
    · cases g
  · cases g
theorem o_notin {K : Frag} : Op2 K (rInA K true) gNotIn := by
  intro F H x y d1 d2 z s r1 r2 g Q q
  unfold gNotIn at g
  split at g
  · split at g
    · rename_i hz
      cases g
      exact .inl ⟨d1, _, (s.dp _ _ r1).dp _ _ (SeqAt.canLay_of_shaped hz.1), (s.dp _ _ r2).dp _ _ (SeqAt.canLay_of_shaped hz.2), hz.1, hz.2, q.sc s (.bl _)⟩
    · cases g
  · split at g
    · rename_i hz
      cases g
      cases r2 with
      | tup h2 g2 =>
        refine .inr ⟨_, _, rfl, .inr (s.t h2), flat_dv r1 hz.1, flats_dv g2 hz.2, ?_⟩
        rw [← in_dv r1 hz.1 g2 hz.2] at q
        exact q.sc s (.bl _)
    · cases g
  · cases g
/-! subscripts -/
def gIx : PyData → PyData → Option O
  | .list ds, .int i => (atI ds i).map .dat
  | .tuple ds, .int i => (atI ds i).map .dat
  | .dict [(.list ds, .none)], .int i => (atI ds i).map .dat
  | _, _ => none
theorem atI_dv {K : Frag} {F : Hp} {vs : List V} {ds : List PyData} {i : Int} {d : PyData} (r : DRs K F vs ds) (h : atI ds i = some d) : ∃ v, atI vs i = some v ∧ DR K F v d := by
  unfold atI at h ⊢
  rw [r.length]
  cases e : ixN ds.length i with
  | none => rw [e] at h; cases h
  | some j =>
    rw [e] at h
    obtain ⟨v, h1, h2⟩ := r.get h
    exact ⟨v, h1, h2⟩
theorem o_ix {K : Frag} : Op2 K (rIx K) gIx := by
  intro F H x y d1 d2 z s r1 r2 g Q q
  unfold gIx at g
  split at g
  · rename_i ds i
    cases e : atI ds i with
    | none => rw [e] at g; cases g
    | some d =>
      rw [e] at g
      cases g
      cases r2
      cases r1 with
      | lst h1 g1 =>
        obtain ⟨v, hv, rv⟩ := atI_dv g1 e
        exact .inl ⟨_, _, i, v, rfl, rfl, SqL.of (s _ _ h1), hv, q.sc s rv⟩
  · rename_i ds i
    cases e : atI ds i with
    | none => rw [e] at g; cases g
    | some d =>
      rw [e] at g
      cases g
      cases r2
      cases r1 with
      | tup h1 g1 =>
        obtain ⟨v, hv, rv⟩ := atI_dv g1 e
        exact .inr (.inl ⟨_, _, i, v, rfl, rfl, s.t h1, hv, q.sc s rv⟩)
  · rename_i ds i
    cases e : atI ds i with
    | none => rw [e] at g; cases g
    | some d =>
      rw [e] at g
      cases g
      cases r2
      cases r1 with
      | ro h1 g1 =>
        obtain ⟨v, hv, rv⟩ := atI_dv g1 e
        exact .inl ⟨_, _, i, v, rfl, rfl, s.l h1, hv, q.sc s rv⟩
  · cases g
/-! built-ins -/
def gLen : List PyData → Option O
  | [.list ds] => some (.dat (.int ds.length))
  | [.tuple ds] => some (.dat (.int ds.length))
  | [.dict [(.list ds, .none)]] => some (.dat (.int ds.length))
  | [.str x] => if x.length ≤ 1000000 then some (.dat (.int x.length)) else none
  | _ => none
def rLenA (K : Frag) : List V → Hp → VK → Prop := fun xs H Q => (∃ p ys, xs = [.ref p] ∧ (SqL K H p ys ∨ SqT K H p ys) ∧ Q (.int ys.length) H) ∨ ∃ z, xs = [.str z] ∧ z.length ≤ sizeLine ∧ Q (.int z.length) H
theorem call_lenA {X : Cx} : CallR X (.builtin "len") (rLenA X.K) := call_len_seq.or call_len_str
theorem o_len {K : Frag} : Opn K (rLenA K) gLen := by
  intro F H xs ds z s r g Q q
  unfold gLen at g
  split at g
  · cases g
    cases r with
    | cons r t =>
      cases t
      cases r with
      | lst h1 g1 =>
        rw [← g1.length] at q
        exact .inl ⟨_, _, rfl, .inl (SqL.of (s _ _ h1)), q.sc s (.int _)⟩
  · cases g
    cases r with
    | cons r t =>
      cases t
      cases r with
      | tup h1 g1 =>
        rw [← g1.length] at q
        exact .inl ⟨_, _, rfl, .inr (s.t h1), q.sc s (.int _)⟩
  · cases g
    cases r with
    | cons r t =>
      cases t
      cases r with
      | ro h1 g1 =>
        rw [← g1.length] at q
        exact .inl ⟨_, _, rfl, .inl (s.l h1), q.sc s (.int _)⟩
  · split at g
    · rename_i hz
      cases g
      cases r with
      | cons r t =>
        cases t
        cases r
        exact .inr ⟨_, rfl, sz_ok hz, q.sc s (.int _)⟩
    · cases g
  · cases g
def gMax2 : List PyData → Option O
  | [.int i, .int j] => some (.dat (.int (if j > i then j else i)))
  | _ => none
def gMin2 : List PyData → Option O
  | [.int i, .int j] => some (.dat (.int (if j < i then j else i)))
  | _ => none
theorem o_max2 {K : Frag} : Opn K (fun xs H Q => ∃ i j, xs = [.int i, .int j] ∧ Q (.int (if j > i then j else i)) H) gMax2 := by
  intro F H xs ds z s r g Q q
  unfold gMax2 at g
  split at g
  · cases g
    cases r with
    | cons r t =>
      cases t with
      | cons r2 t =>
        cases t; cases r; cases r2
        exact ⟨_, _, rfl, q.sc s (.int _)⟩
  · cases g
theorem o_min2 {K : Frag} : Opn K (fun xs H Q => ∃ i j, xs = [.int i, .int j] ∧ Q (.int (if j < i then j else i)) H) gMin2 := by
  intro F H xs ds z s r g Q q
  unfold gMin2 at g
  split at g
  · cases g
    cases r with
    | cons r t =>
      cases t with
      | cons r2 t =>
        cases t; cases r; cases r2
        exact ⟨_, _, rfl, q.sc s (.int _)⟩
  · cases g
/-- all data bools -/
def blsD : List PyData → Option (List Bool)
  | [] => some []
  | .bool b :: ds => (blsD ds).map (b :: ·)
  | _ => none
theorem blsD_eq : ∀ {ds : List PyData} {bs : List Bool}, blsD ds = some bs → ds = bs.map .bool
  | [], bs, h => by cases h; rfl
  | d :: ds, bs, h => by
    cases d with
    | bool b =>
      unfold blsD at h
      cases e : blsD ds with
      | none => rw [e] at h; cases h
      | some bs' =>
        rw [e] at h
        cases h
        rw [blsD_eq e]
        rfl
    | _ => cases h
def intsD : List PyData → Option (List Int)
  | [] => some []
  | .int b :: ds => (intsD ds).map (b :: ·)
  | _ => none
theorem intsD_eq : ∀ {ds : List PyData} {bs : List Int}, intsD ds = some bs → ds = bs.map .int
  | [], bs, h => by cases h; rfl
  | d :: ds, bs, h => by
    cases d with
    | int b =>
      unfold intsD at h
      cases e : intsD ds with
      | none => rw [e] at h; cases h
      | some bs' =>
        rw [e] at h
        cases h
        rw [intsD_eq e]
        rfl
    | _ => cases h
theorem intsD_map : ∀ ns : List Int, intsD (ns.map .int) = some ns
  | [] => rfl
  | n :: ns => by
    show (intsD (ns.map .int)).map (n :: ·) = _
    rw [intsD_map ns]
    rfl
theorem blsD_map : ∀ ns : List Bool, blsD (ns.map .bool) = some ns
  | [] => rfl
  | n :: ns => by
    show (blsD (ns.map .bool)).map (n :: ·) = _
    rw [blsD_map ns]
    rfl
def gAll : List PyData → Option O
  | [.list ds] => (blsD ds).map fun bs => .dat (.bool (bs.all id))
  | _ => none
def gAny : List PyData → Option O
  | [.list ds] => (blsD ds).map fun bs => .dat (.bool (bs.any id))
  | _ => none
theorem o_all {K : Frag} : Opn K (rAll K) gAll := by
  intro F H xs ds z s r g Q q
  unfold gAll at g
  split at g
  · rename_i ds
    cases e : blsD ds with
    | none => rw [e] at g; cases g
    | some bs =>
      rw [e] at g
      cases g
      have e2 := blsD_eq e
      subst e2
      cases r with
      | cons r t =>
        cases t
        cases r with
        | lst h1 g1 =>
          have := g1.bls
          subst this
          exact ⟨_, bs, rfl, SqL.of (s _ _ h1), q.sc s (.bl _)⟩
  · cases g
theorem o_any {K : Frag} : Opn K (rAny K) gAny := by
  intro F H xs ds z s r g Q q
  unfold gAny at g
  split at g
  · rename_i ds
    cases e : blsD ds with
    | none => rw [e] at g; cases g
    | some bs =>
      rw [e] at g
      cases g
      have e2 := blsD_eq e
      subst e2
      cases r with
      | cons r t =>
        cases t
        cases r with
        | lst h1 g1 =>
          have := g1.bls
          subst this
          exact ⟨_, bs, rfl, SqL.of (s _ _ h1), q.sc s (.bl _)⟩
  · cases g
def gSum : List PyData → Option O
  | [.list ds] => (intsD ds).map fun ns => .dat (.int ns.sum)
  | _ => none
theorem o_sum {K : Frag} : Opn K (rSum K) gSum := by
  intro F H xs ds z s r g Q q
  unfold gSum at g
  split at g
  · rename_i ds
    cases e : intsD ds with
    | none => rw [e] at g; cases g
    | some bs =>
      rw [e] at g
      cases g
      have e2 := intsD_eq e
      subst e2
      cases r with
      | cons r t =>
        cases t
        cases r with
        | lst h1 g1 =>
          have := g1.ints
          subst this
          exact ⟨_, bs, rfl, SqL.of (s _ _ h1), q.sc s (.int _)⟩
  · cases g
def gInt : List PyData → Option O
  | [.int i] => some (.dat (.int i))
  | _ => none
theorem o_int {K : Frag} : Opn K (fun xs H Q => (∃ i, xs = [.int i] ∧ Q (.int i) H) ∨ ∃ k, xs = [.bl k] ∧ Q (.int (if k then 1 else 0)) H) gInt := by
  intro F H xs ds z s r g Q q
  unfold gInt at g
  split at g
  · cases g
    cases r with
    | cons r t =>
      cases t; cases r
      exact .inl ⟨_, rfl, q.sc s (.int _)⟩
  · cases g
def gList : List PyData → Option O
  | [.list ds] => some (.node .lst (ds.map .dat))
  | [.tuple ds] => some (.node .lst (ds.map .dat))
  | _ => none
theorem o_list {K : Frag} : Opn K (fun xs H Q => ∃ p ys, xs = [.ref p] ∧ (SqL K H p ys ∨ SqT K H p ys) ∧ ∀ l, H l = none → Q (.ref l) (upd H l (.lst ys))) gList := by
  intro F H xs ds z s r g Q q
  unfold gList at g
  split at g
  · cases g
    cases r with
    | cons r t =>
      cases t
      cases r with
      | lst h1 g1 => exact ⟨_, _, rfl, .inl (SqL.of (s _ _ h1)), fun l hl => q.lst s g1 hl⟩
  · cases g
    cases r with
    | cons r t =>
      cases t
      cases r with
      | tup h1 g1 => exact ⟨_, _, rfl, .inr (s.t h1), fun l hl => q.lst s g1 hl⟩
  · cases g
def gTuple : List PyData → Option O
  | [.list ds] => some (.dat (.tuple ds))
  | [.tuple ds] => some (.dat (.tuple ds))
  | _ => none
theorem o_tuple {K : Frag} : Opn K (fun xs H Q => ∃ p ys, xs = [.ref p] ∧ ((SqL K H p ys ∧ ∀ l, H l = none → Q (.ref l) (upd H l (.tup ys))) ∨ (SqT K H p ys ∧ Q (.ref p) H))) gTuple := by
  intro F H xs ds z s r g Q q
  unfold gTuple at g
  split at g
  · cases g
    cases r with
    | cons r t =>
      cases t
      cases r with
      | lst h1 g1 => exact ⟨_, _, rfl, .inl ⟨SqL.of (s _ _ h1), fun l hl => q.tup s g1 hl⟩⟩
  · cases g
    cases r with
    | cons r t =>
      cases t
      cases r with
      | tup h1 g1 => exact ⟨_, _, rfl, .inr ⟨s.t h1, q.sc s (.tup h1 g1)⟩⟩
  · cases g
/-! isinstance of data -/
def tyD : PyData → String
  | .none => "NoneType"
  | .bool _ => "bool"
  | .int _ => "int"
  | .str _ => "str"
  | .list _ => "list"
  | .tuple _ => "tuple"
  | .dict _ => "list"
def isTy (T : String) (d : PyData) : Bool := tyD d == T || (T == "int" && tyD d == "bool")
def tys : List String := ["NoneType", "bool", "int", "str", "list", "tuple"]
theorem kit_all : (tys.all fun a => ["int", "bool", "str", "list", "tuple"].all fun T => kitB a T == some (a == T || (T == "int" && a == "bool"))) = true := by decide +kernel
theorem tyD_mem (d : PyData) : tyD d ∈ tys := by cases d <;> simp [tyD, tys]
theorem kit_dv {K : Frag} {d : PyData} {T : String} (h : T ∈ ["int", "bool", "str", "list", "tuple"]) : PySem.W.kitOne K (.type (tyD d)) (.type T) = some (isTy T d) := by
  have h1 := List.all_eq_true.mp kit_all (tyD d) (tyD_mem d)
  have h2 := List.all_eq_true.mp h1 T h
  exact kit_ty (eq_of_beq h2)
theorem tyX_dv {K : Frag} {H : Hp} {x : V} {d : PyData} (r : DR K H x d) : TyX K H x (.type (tyD d)) := by
  cases r with
  | non => exact .base .non
  | bl b => exact .base (.bl b)
  | int i => exact .base (.int i)
  | str i => exact .base (.str i)
  | lst h1 g1 => exact .base (.lst h1)
  | tup h1 g1 =>
    rcases h1 with (h | ⟨o, h⟩) | ⟨o, its, n, h, hc, _⟩
    · exact .base (.tup h)
    · exact .fTuple h
    · exact .kTuple h hc
  | ro h1 g1 =>
    rcases h1 with (h | ⟨o, h⟩) | ⟨o, its, n, h, hc, _⟩
    · exact .base (.lst h)
    · exact .base (.frz h)
    · exact .kList h hc
def gIsi (T : String) : PyData → Option O := fun d => some (.dat (.bool (isTy T d)))
theorem de_isi {X : Cx} {c : Fc} {p1 : Bool} {f1 : EF} {T : Str} {Ts : String} {a : Expr} {p p2 pos : Pos} (hK : X.K = c.K) (hT : Ts ∈ ["int", "bool", "str", "list", "tuple"]) (hg : Gl X "isinstance") (hm : X.mg "isinstance" = none) (hg2 : Gl X T) (hm2 : X.mg T = none) (hv : bootBuiltins T = some (.type Ts)) (ha : DE X c p1 a f1)
    (hn : T ≠ "__name__" := by decide) (hdb : (T == ("__debug__" : Str)) = false := by decide)
    (hs1 : starEach [.Name T p2] X.env = (false, eval (.Name T p2) X.env) :: starEach [] X.env := by rfl) (hs2 : starEach [a, .Name T p2] X.env = (false, eval a X.env) :: starEach [.Name T p2] X.env := by rfl) (hpl : (backTo pos (starEach [.Name T p2] X.env)).any (·.1) = false := by rfl) :
    DE X c p1 (.Call (.Name "isinstance" p) [a, .Name T p2] [] pos) (k1 (gIsi Ts) f1) := by
  refine ⟨pu_1 ha.pure, (pe_callB call_isi hg hm PyProof.Rows.boot_isinstance (pa_cons ha.run (pa_cons (pe_bltn (v := .ty Ts) hg2 hm2 hv rfl hn hdb) pa_nil hs1) hs2) (by decide) (by decide) hs2 hpl).weak fun σ H Q ⟨env, ts, us, R, q⟩ => ?_⟩
  refine ⟨env, ts, us, R, ?_⟩
  unfold k1 RE.bind at q
  cases e1 : f1 env with
  | no => rw [e1] at q; exact q.elim
  | err x en => rw [e1] at q; exact q
  | ok o1 en1 =>
    rw [e1] at q
    intro v H1 R1 x1
    simp only at q
    split at q
    · rename_i d1 z1
      have R2 := R1.freeze z1
      obtain ⟨F, f, r, k⟩ := Rp.dat R2
      rw [hK]
      refine ⟨v, .ty Ts, _, _, _, rfl, .ty Ts, tyX_dv (f.sub.dp _ _ r), kit_dv hT, ?_⟩
      exact q _ H1 R2.pop.bpush x1
    · exact q.elim
/-! slices -/
structure DO (X : Cx) (c : Fc) (e : Option Expr) (f : Env → RE (Option Int)) : Prop where
  run : PO X e (fun σ H Q => ∃ env ts us, Rp c env σ ts us H ∧ (match f env with | .ok o env' => ∀ H', Rp c env' σ ts us H' → Q o H' | .err x env' => ∀ H', Rp c env' σ ts us H' → c.W (c.cls x) none σ H' | .no => False))
theorem _root_.L2.PO.weak {X : Cx} {e : Option Expr} {t t' : TO} (h : PO X e t) (w : ∀ σ H Q, t' σ H Q → t σ H Q) : PO X e t' := ⟨fun pins s σ H Q I q => h.run pins s σ H Q I (w σ H Q q)⟩
def kPart (f : EF) : Env → RE (Option Int) := fun env => (f env).bind fun o e => match o with
  | .dat (.int i) => .ok (some i) e
  | _ => .no
def kNoPart : Env → RE (Option Int) := fun env => .ok none env
theorem do_none {X : Cx} {c : Fc} : DO X c none kNoPart := ⟨po_none.weak fun σ H Q ⟨env, ts, us, R, q⟩ => q H R⟩
theorem do_some {X : Cx} {c : Fc} {p1 : Bool} {e : Expr} {f : EF} (h : DE X c p1 e f) : DO X c (some e) (kPart f) := by
  refine ⟨(po_some h.run).weak fun σ H Q ⟨env, ts, us, R, q⟩ => ⟨env, ts, us, R, ?_⟩⟩
  unfold kPart RE.bind at q
  cases e1 : f env with
  | no => simp only [e1] at q
  | err x en => simp only [e1] at q; exact q
  | ok o en =>
    simp only [e1] at q
    intro v H' R' _
    split at q
    · rename_i o' env' h'
      split at h'
      · rename_i i
        cases h'
        obtain ⟨F, f, r, k⟩ := Rp.dat R'
        cases r
        exact ⟨i, rfl, q H' R'.pop⟩
      · cases h'
    · rename_i h'
      split at h' <;> cases h'
    · exact q.elim
def cutD (ds : List PyData) (lo hi : Option Int) : List PyData := (ds.drop (HT.sIx ds.length 0 lo)).take (HT.sIx ds.length ds.length hi - HT.sIx ds.length 0 lo)
def kSl (f : EF) (l h : Env → RE (Option Int)) : EF := fun env => (f env).bind fun o e1 => (l e1).bind fun lo e2 => (h e2).bind fun hi e3 => match o.toD with
  | some (.list ds) => .ok (.node .lst ((cutD ds lo hi).map .dat)) e3
  | some (.tuple ds) => .ok (.dat (.tuple (cutD ds lo hi))) e3
  | _ => .no
theorem cut_dv {K : Frag} {F : Hp} {vs : List V} {ds : List PyData} (r : DRs K F vs ds) (lo hi : Option Int) : DRs K F (cutV vs lo hi) (cutD ds lo hi) := by
  unfold cutV cutD
  rw [r.length]
  exact (r.drop _).take _
theorem de_slice {X : Cx} {c : Fc} {p1 : Bool} {e : Expr} {lo hi : Option Expr} {f : EF} {l h : Env → RE (Option Int)} {pos p2 : Pos} (hK : X.K = c.K) (he : DE X c p1 e f) (hl : DO X c lo l) (hh : DO X c hi h) : DE X c false (.Subscript e (.Slice lo hi none p2) pos) (kSl f l h) := by
  refine ⟨Pu.no, (pe_slice (sl_list.or sl_tupA) he.run hl.run hh.run).weak fun σ H Q ⟨env, ts, us, R, q⟩ => ⟨env, ts, us, R, ?_⟩⟩
  unfold kSl RE.bind at q
  cases e1 : f env with
  | no => rw [e1] at q; exact q.elim
  | err x en => rw [e1] at q; exact q
  | ok o en =>
    rw [e1] at q
    simp only at q
    intro v H1 R1 _
    refine ⟨en, o :: ts, v :: us, R1, ?_⟩
    cases e2 : l en with
    | no => rw [e2] at q; exact q.elim
    | err x en => rw [e2] at q; exact fun H' R' => q H' R'.pop
    | ok lo' en2 =>
      rw [e2] at q
      intro H2 R2
      refine ⟨en2, o :: ts, v :: us, R2, ?_⟩
      simp only at q
      cases e3 : h en2 with
      | no => rw [e3] at q; exact q.elim
      | err x en => rw [e3] at q; exact fun H' R' => q H' R'.pop
      | ok hi' en3 =>
        rw [e3] at q
        intro H3 R3
        simp only at q
        split at q
        · rename_i ds ed
          obtain ⟨F, fe, ft, f, e, t, nd, nw⟩ := R3.freeze ed
          cases t with
          | cons r t =>
            cases r with
            | dat r =>
              cases r with
              | lst h1 g1 =>
                refine .inl ⟨_, _, rfl, SqL.of (f.sub _ _ h1), fun p hp => ?_⟩
                have res : Res c.K F H3 [] (.node .lst ((cutD ds lo' hi').map .dat)) Q := fun v H' F' fp gr ro nf hf => q v H' (Rp.grow (fo := []) f e t nd nw gr ro nf hf) fun z => nomatch z
                exact res.lst f.sub (cut_dv g1 lo' hi') hp
        · rename_i ds ed
          obtain ⟨F, fe, ft, f, e, t, nd, nw⟩ := R3.freeze ed
          cases t with
          | cons r t =>
            cases r with
            | dat r =>
              cases r with
              | tup h1 g1 =>
                have res : Res c.K F H3 [] (.dat (.tuple (cutD ds lo' hi'))) Q := fun v H' F' fp gr ro nf hf => q v H' (Rp.grow (fo := []) f e t nd nw gr ro nf hf) fun z => nomatch z
                rw [hK]
                refine .inr ⟨_, _, rfl, f.sub.t h1, fun hw => ?_, fun hw p hp => res.tup f.sub (cut_dv g1 lo' hi') hp⟩
                have whole : cutD ds lo' hi' = ds := by
                  unfold cutD
                  rw [g1.length] at hw
                  rw [hw.1, hw.2, List.drop_zero, Nat.sub_zero, List.take_length]
                rw [whole] at res
                exact res.sc f.sub (.tup h1 g1)
        · exact q.elim
end DP
end

section
namespace DP
open PySem PySem.Spec PyProof.Rows L2
/-! ### places within a slot's tree -/
/-- a step: an item of a list or tuple; from 1000 on a field -/
def Shp.at : Shp → Nat → Option Nat
  | .lst, k => some k
  | .tup, k => some k
  | .dic _, _ => none
  | .ins _ _, k => if 1000 ≤ k then some (k - 1000) else none
def nth (s : Shp) (xs : List O) (k : Nat) : Option O := match s.at k with
  | some j => xs[j]?
  | none => none
def O.get : O → List Nat → Option O
  | o, [] => some o
  | .node s xs, k :: π => match nth s xs k with
    | some o => o.get π
    | none => none
  | .dat _, _ :: _ => none
  | .any, _ :: _ => none
def put1 (s : Shp) (xs : List O) (k : Nat) (z : O) : List O := match s.at k with
  | some j => xs.set j z
  | none => xs
def O.put : O → List Nat → O → O
  | _, [], z => z
  | .node s xs, k :: π, z => match nth s xs k with
    | some o => .node s (put1 s xs k (o.put π z))
    | none => .node s xs
  | .dat d, _ :: _, _ => .dat d
  | .any, _ :: _, _ => .any
def kidAt : HO → Nat → Option V
  | .lst xs, k => xs[k]?
  | .tup xs, k => xs[k]?
  | .ins _ _ fs, k => if 1000 ≤ k then (fs.map (·.2))[k - 1000]? else none
  | _, _ => none
theorem zip_snd {α β : Type} : ∀ {xs : List α} {ys : List β}, xs.length = ys.length → (xs.zip ys).map (·.2) = ys
  | [], [], _ => rfl
  | x :: xs, y :: ys, h => by simp [zip_snd (xs := xs) (ys := ys) (by simpa using h)]
  | [], _ :: _, h => by simp at h
  | _ :: _, [], h => by simp at h
theorem kids_ho {s : Shp} {vs : List V} {h : HO} {k j : Nat} (e : s.ho vs h) (ha : s.at k = some j) : kidAt h k = vs[j]? := by
  cases s with
  | lst => have e' : h = .lst vs := e; subst e'; cases ha; rfl
  | tup => have e' : h = .tup vs := e; subst e'; cases ha; rfl
  | dic ks => cases ha
  | ins C fs =>
    obtain ⟨l, dx, e'⟩ : fs.length = vs.length ∧ ∃ dx, h = .ins C dx (fs.zip vs) := e
    subst e'
    have ha' : (if 1000 ≤ k then some (k - 1000) else none) = some j := ha
    split at ha'
    · rename_i hk
      cases ha'
      show (if 1000 ≤ k then ((fs.zip vs).map (·.2))[k - 1000]? else none) = _
      rw [if_pos hk, zip_snd l]
    · cases ha'
def follow (H : Hp) : V → List Nat → Option V
  | v, [] => some v
  | .ref p, k :: π => match H p with
    | some h => match kidAt h k with
      | some v => follow H v π
      | none => none
    | none => none
  | _, _ :: _ => none
theorem ROs.nth {K : Frag} {F H : Hp} : ∀ {os : List O} {vs : List V} {fp : List Addr} {k : Nat} {o : O}, ROs K F H os vs fp → os[k]? = some o → ∃ v fo fr, vs[k]? = some v ∧ RO K F H o v fo ∧ fp.Perm (fo ++ fr) ∧ (∀ a ∈ fr, F a = none ∧ ∃ h, H a = some h) ∧
    ∀ (o' : O) (fo' : List Addr) (F' H' : Hp), RO K F' H' o' v fo' → Stay fr F H F' H' → ∃ fp', fp'.Perm (fo' ++ fr) ∧ ROs K F' H' (os.set k o') vs fp'
  | [], _, _, _, _, _, e => by simp at e
  | x :: os, _, _, 0, o, h, e => by
    have e' := Option.some.inj e
    subst e'
    cases h with
    | cons h1 h2 =>
      rename_i v f1 vs f2
      exact ⟨v, f1, f2, rfl, h1, .refl _, h2.own _ _ _, fun o' fo' F' H' r st => ⟨_, .refl _, .cons r (h2.stay _ _ _ st)⟩⟩
  | x :: os, _, _, k + 1, o, h, e => by
    cases h with
    | cons h1 h2 =>
      rename_i v0 f1 vs f2
      obtain ⟨v, fo, fr, e1, r, pm, ow, put⟩ := ROs.nth (k := k) (o := o) h2 (by simpa using e)
      have sw : ∀ a b d : List Addr, (a ++ (b ++ d)).Perm (b ++ (a ++ d)) := fun a b d => by
        rw [← List.append_assoc, ← List.append_assoc]
        exact List.perm_append_comm.append_right _
      refine ⟨v, fo, f1 ++ fr, by simpa using e1, r, (pm.append_left f1).trans (sw _ _ _), fun a z => (List.mem_append.mp z).elim (h1.own _ _ _ a) (ow a), fun o' fo' F' H' r' st => ?_⟩
      obtain ⟨fp', pm', r2⟩ := put o' fo' F' H' r' st.right
      exact ⟨f1 ++ fp', (pm'.append_left f1).trans (sw _ _ _), .cons (h1.stay _ _ _ st.left) r2⟩
theorem RO.focus {K : Frag} {F H : Hp} : ∀ {π : List Nat} {t : O} {w : V} {fp : List Addr} {o : O}, RO K F H t w fp → t.get π = some o → ∃ v fo fr, follow H w π = some v ∧ RO K F H o v fo ∧ fp.Perm (fo ++ fr) ∧ (∀ a ∈ fr, F a = none ∧ ∃ h, H a = some h) ∧
    ∀ (o' : O) (fo' : List Addr) (F' H' : Hp), RO K F' H' o' v fo' → Stay fr F H F' H' → ∃ fp', fp'.Perm (fo' ++ fr) ∧ RO K F' H' (t.put π o') w fp'
  | [], t, w, fp, o, h, e => by
    have e' : t = o := by cases t <;> exact Option.some.inj e
    subst e'
    exact ⟨w, fp, [], (by cases w <;> rfl), h, (by simp), (fun a z => nomatch z), fun o' fo' F' H' r st => ⟨fo', (by simp), (by cases t <;> exact r)⟩⟩
  | k :: π, .dat d, w, fp, o, h, e => by cases e
  | k :: π, .any, w, fp, o, h, e => by cases e
  | k :: π, .node s xs, w, fp, o, h, e => by
    cases h with
    | node h1 h2 h3 h4 =>
      rename_i p vs ho fx
      have e0 : (match nth s xs k with | some o => o.get π | none => none) = some o := e
      cases en : nth s xs k with
      | none => rw [en] at e0; cases e0
      | some t' =>
        rw [en] at e0
        obtain ⟨j, ej, ex⟩ : ∃ j, s.at k = some j ∧ xs[j]? = some t' := by
          unfold nth at en
          cases ej : s.at k with
          | none => rw [ej] at en; cases en
          | some j => rw [ej] at en; exact ⟨j, rfl, en⟩
        obtain ⟨v', fk, fr, ev, rk, pm, ow, put⟩ := h4.nth ex
        obtain ⟨v, fo, fr2, ef, ro, pm2, ow2, put2⟩ := RO.focus (π := π) rk e0
        have sw : ∀ a b d : List Addr, (a ++ (b ++ d)).Perm (b ++ (a ++ d)) := fun a b d => by
          rw [← List.append_assoc, ← List.append_assoc]
          exact List.perm_append_comm.append_right _
        have pmm : ∀ {a b d : List Addr}, a.Perm (b ++ fr2) → d.Perm (a ++ fr) → (p :: d).Perm (b ++ (p :: (fr2 ++ fr))) := fun {a b d} h1 h2 => by
          refine List.Perm.trans (List.Perm.cons p ?_) List.perm_middle.symm
          refine h2.trans ((h1.append_right fr).trans ?_)
          rw [List.append_assoc]
        refine ⟨v, fo, p :: (fr2 ++ fr), ?_, ro, pmm pm2 pm, fun a z => ?_, fun o' fo' F' H' r' st => ?_⟩
        · show (match H p with | some h => _ | none => none) = some v
          rw [h2]
          show (match kidAt ho k with | some v => follow H v π | none => none) = some v
          rw [kids_ho h3 ej, ev]
          exact ef
        · rcases List.mem_cons.mp z with y | y
          · rw [y]; exact ⟨h1, _, h2⟩
          · exact (List.mem_append.mp y).elim (ow2 a) (ow a)
        · have sp : F' p = none ∧ H' p = H p := ⟨st.out p List.mem_cons_self, st.at' p List.mem_cons_self⟩
          have st2 : Stay fr2 F H F' H' := ⟨st.fz, fun a z => st.out a (List.mem_cons_of_mem _ (List.mem_append_left _ z)), fun a z => st.at' a (List.mem_cons_of_mem _ (List.mem_append_left _ z))⟩
          have st3 : Stay fr F H F' H' := ⟨st.fz, fun a z => st.out a (List.mem_cons_of_mem _ (List.mem_append_right _ z)), fun a z => st.at' a (List.mem_cons_of_mem _ (List.mem_append_right _ z))⟩
          obtain ⟨fp1, q1, r1⟩ := put2 o' fo' F' H' r' st2
          obtain ⟨fp2, q2, r2⟩ := put (t'.put π o') fp1 F' H' r1 st3
          refine ⟨p :: fp2, pmm q1 q2, ?_⟩
          have ep : (O.node s xs).put (k :: π) o' = .node s (xs.set j (t'.put π o')) := by
            show (match nth s xs k with | some o => O.node s (put1 s xs k (o.put π o')) | none => .node s xs) = _
            rw [en]
            show O.node s (put1 s xs k (t'.put π o')) = _
            unfold put1
            rw [ej]
          rw [ep]
          exact .node sp.1 (sp.2.trans h2) h3 r2
def slotO (env : Env) (i : Nat) : Option O := match env[i]? with
  | some (.v o) => some o
  | some (.io o) => some o
  | _ => none
def setO (env : Env) (i : Nat) (o : O) : Env := match env[i]? with
  | some (.v _) => env.set i (.v o)
  | some (.io _) => env.set i (.io o)
  | _ => env
def getP (env : Env) (i : Nat) (π : List Nat) : Option O := match slotO env i with
  | some o => o.get π
  | none => none
def putP (env : Env) (i : Nat) (π : List Nat) (z : O) : Env := match slotO env i with
  | some o => setO env i (o.put π z)
  | none => env
def valP (H : Hp) (σ : L2.St) (i : Nat) (π : List Nat) : Option V := match σ[i]? with
  | some (some w) => follow H w π
  | _ => none
section
variable {c : Fc} {env : Env} {σ : L2.St} {ts : List O} {us : List V} {H : Hp} {i : Nat} {π : List Nat}
theorem Rp.focus {o : O} (R : Rp c env σ ts us H) (hg : getP env i π = some o) : ∃ v F fo fr ft, valP H σ i π = some v ∧ Fr c F H ∧ RO c.K F H o v fo ∧ ROs c.K F H ts us ft ∧ (fo ++ (fr ++ ft)).Nodup ∧ (∀ a ∈ fo ++ (fr ++ ft), c.Hs a = none ∨ a ∈ c.P) ∧ (∀ a ∈ fr, F a = none ∧ ∃ h, H a = some h) ∧
    ∀ (o' : O) (fo' : List Addr) (F' H' : Hp) (ts' : List O) (us' : List V) (ft' : List Addr), RO c.K F' H' o' v fo' → Stay fr F H F' H' → Fr c F' H' → ROs c.K F' H' ts' us' ft' → (fo' ++ (fr ++ ft')).Nodup → (∀ a ∈ fo' ++ (fr ++ ft'), c.Hs a = none ∨ a ∈ c.P) → Rp c (putP env i π o') σ ts' us' H' := by
  obtain ⟨F, fe, ft, f, e, t, nd, nw⟩ := R
  have sl : ∃ o0, (env[i]? = some (.v o0) ∨ env[i]? = some (.io o0)) ∧ o0.get π = some o := by
    unfold getP slotO at hg
    split at hg
    · rename_i o0 e1
      split at e1
      · rename_i e2; cases e1; exact ⟨_, .inl e2, hg⟩
      · rename_i e2; cases e1; exact ⟨_, .inr e2, hg⟩
      · cases e1
    · cases hg
  obtain ⟨o0, h0, g0⟩ := sl
  obtain ⟨w, f1, f2, e1, r, pm, io, k⟩ := e.at h0
  obtain ⟨v, fo, fr, ef, ro, pm2, ow, put⟩ := r.focus g0
  have ow2 : ∀ a ∈ f2, F a = none ∧ ∃ h, H a = some h := fun a z => e.own a (pm.mem_iff.mpr (List.mem_append_right _ z))
  have pall : (fe ++ ft).Perm (fo ++ ((fr ++ f2) ++ ft)) := by
    refine (pm.append_right ft).trans ?_
    refine ((pm2.append_right f2).append_right ft).trans ?_
    rw [List.append_assoc, List.append_assoc, List.append_assoc]
  refine ⟨v, F, fo, fr ++ f2, ft, by unfold valP; rw [e1]; exact ef, f, ro, t, pall.nodup_iff.mp nd, fun a z => nw a (pall.mem_iff.mpr z), fun a z => (List.mem_append.mp z).elim (ow a) (ow2 a), fun o' fo' F' H' ts' us' ft' ro' st f' t' nd' nw' => ?_⟩
  obtain ⟨fp1, q1, r1⟩ := put o' fo' F' H' ro' st.left
  have hs : ∃ s, (s = .no ∨ (s = .mv ∧ env[i]? = some (.io o0)) ∨ ∃ o', (s = .v o' ∨ (s = .io o' ∧ env[i]? = some (.io o0))) ∧ RO c.K F' H' o' w fp1) ∧ putP env i π o' = env.set i s ∧ ¬ (s = .no ∨ s = .mv) := by
    unfold putP slotO setO
    rcases h0 with h0 | h0
    · rw [h0]; exact ⟨.v (o0.put π o'), .inr (.inr ⟨_, .inl rfl, r1⟩), rfl, by simp⟩
    · rw [h0]; exact ⟨.io (o0.put π o'), .inr (.inr ⟨_, .inr ⟨rfl, rfl⟩, r1⟩), rfl, by simp⟩
  obtain ⟨s, hs1, hs2, hs3⟩ := hs
  obtain ⟨fp', q', e'⟩ := k s fp1 F' H' st.right hs1 (fun z => absurd z hs3)
  rw [hs2]
  refine Rp.of f' e' t' (all := fo' ++ ((fr ++ f2) ++ ft')) (.perm ?_) nd' nw'
  refine (q'.append_right ft').trans ?_
  refine ((q1.append_right f2).append_right ft').trans ?_
  rw [List.append_assoc, List.append_assoc, List.append_assoc]
/-- an object within a slot's tree is changed: it takes trees from the top, or gives some -/
theorem Rp.mut {s : Shp} {xs : List O} (R : Rp c env σ ts us H) (hg : getP env i π = some (.node s xs)) : ∃ p vs h F fx ft, valP H σ i π = some (.ref p) ∧ H p = some h ∧ s.ho vs h ∧ Fr c F H ∧ ROs c.K F H xs vs fx ∧ ROs c.K F H ts us ft ∧
    ∀ (s' : Shp) (xs' : List O) (vs' : List V) (h' : HO) (fx' : List Addr) (ts' : List O) (us' : List V) (ft' : List Addr), s'.ho vs' h' → ROs c.K F H xs' vs' fx' → ROs c.K F H ts' us' ft' → Sub (fx' ++ ft') (fx ++ ft) → Rp c (putP env i π (.node s' xs')) σ ts' us' (upd H p h') := by
  obtain ⟨v, F, fo, fr, ft, ev, f, ro, t, nd, nw, ow, put⟩ := R.focus hg
  cases ro with
  | node h1 h2 h3 h4 =>
    rename_i p vs h fx
    refine ⟨p, vs, h, F, fx, ft, ev, h2, h3, f, h4, t, fun s' xs' vs' h' fx' ts' us' ft' ho' rx' rt' sb => ?_⟩
    have pp : p ∉ fr ++ (fx ++ ft) := by
      have : (p :: (fr ++ (fx ++ ft))).Nodup := by
        refine List.Perm.nodup_iff (l₁ := (p :: fx) ++ (fr ++ ft)) ?_ |>.mp nd
        refine List.Perm.cons p ?_
        show (fx ++ (fr ++ ft)).Perm (fr ++ (fx ++ ft))
        rw [← List.append_assoc, ← List.append_assoc]
        exact List.perm_append_comm.append_right _
      exact (List.nodup_cons.mp this).1
    have npx : p ∉ fx' ++ ft' := fun z => pp (List.mem_append_right _ (sb.mem p z))
    have stay : ∀ fp : List Addr, (∀ a ∈ fp, F a = none) → p ∉ fp → Stay fp F H F (upd H p h') := fun fp k n => ⟨Ex.refl F, k, fun a z => upd_ne fun q => n (q ▸ z)⟩
    have sub : Sub ((p :: fx') ++ (fr ++ ft')) ((p :: fx) ++ (fr ++ ft)) := by
      have e1 : ((p :: fx') ++ (fr ++ ft')).Perm (p :: (fr ++ (fx' ++ ft'))) := by
        refine List.Perm.cons p ?_
        show (fx' ++ (fr ++ ft')).Perm (fr ++ (fx' ++ ft'))
        rw [← List.append_assoc, ← List.append_assoc]
        exact List.perm_append_comm.append_right _
      have e2 : (p :: (fr ++ (fx ++ ft))).Perm ((p :: fx) ++ (fr ++ ft)) := by
        refine List.Perm.cons p ?_
        show (fr ++ (fx ++ ft)).Perm (fx ++ (fr ++ ft))
        rw [← List.append_assoc, ← List.append_assoc]
        exact List.perm_append_comm.append_right _
      exact (Sub.perm e1).trans (((Sub.refl [p]).app ((Sub.refl fr).app sb)).trans (Sub.perm e2))
    refine put _ (p :: fx') F (upd H p h') ts' us' ft' (.node h1 upd_same ho' (rx'.stay _ _ _ (stay fx' (fun a z => (rx'.own _ _ _ a z).1) fun z => npx (List.mem_append_left _ z)))) (stay fr (fun a z => (ow a z).1) fun z => pp (List.mem_append_left _ z)) ⟨f.up, fun a o q => ?_, f.nw, fun a o q z => ?_⟩
      (rt'.stay _ _ _ (stay ft' (fun a z => (rt'.own _ _ _ a z).1) fun z => npx (List.mem_append_right _ z))) (sub.nodup nd) (fun a z => nw a (sub.mem a z))
    · by_cases z : a = p
      · subst z; rw [h1] at q; cases q
      · rw [upd_ne z]; exact f.sub a o q
    · have ne : a ≠ p := fun y => by
        subst y
        rcases nw a (List.mem_append_left _ List.mem_cons_self) with w | w
        · rw [w] at q; cases q
        · exact z w
      rw [upd_ne ne]
      exact f.kp a o q z
/-- frozen data within a slot's tree -/
theorem Rp.leaf {d : PyData} (R : Rp c env σ ts us H) (hg : getP env i π = some (.dat d)) : ∃ v, valP H σ i π = some v ∧ Rp c env σ (.dat d :: ts) (v :: us) H := by
  have R0 := R
  obtain ⟨v, F, fo, fr, ft, ev, f, ro, t, nd, nw, ow, put⟩ := R.focus hg
  refine ⟨v, ev, ?_⟩
  cases ro with
  | dat ro =>
    have st : Stay fr F H F H := ⟨Ex.refl F, fun a z => (ow a z).1, fun _ _ => rfl⟩
    have R1 := put (.dat d) [] F H (.dat d :: ts) (v :: us) ft (.dat ro) st f (.cons (f1 := []) (.dat ro) t) nd nw
    have same : putP env i π (.dat d) = env := by
      have go : ∀ (π : List Nat) (t : O), t.get π = some (.dat d) → t.put π (.dat d) = t := by
        intro π
        induction π with
        | nil => intro t h; cases t <;> exact (Option.some.inj h).symm
        | cons k π ih =>
          intro t h
          cases t with
          | dat _ => cases h
          | any => cases h
          | node s xs =>
            show (match nth s xs k with | some o => O.node s (put1 s xs k (o.put π (.dat d))) | none => .node s xs) = _
            have h' : (match nth s xs k with | some o => o.get π | none => none) = some (O.dat d) := h
            cases ex : nth s xs k with
            | none => rfl
            | some t' =>
              rw [ex] at h'
              show O.node s (put1 s xs k (t'.put π (.dat d))) = _
              rw [ih t' h']
              unfold put1
              unfold nth at ex
              cases ej : s.at k with
              | none => rfl
              | some j =>
                rw [ej] at ex
                obtain ⟨hk, e⟩ := List.getElem?_eq_some_iff.mp ex
                show O.node s (xs.set j t') = _
                rw [← e, List.set_getElem_self hk]
      unfold putP
      unfold getP at hg
      cases es : slotO env i with
      | none => rfl
      | some o0 =>
        rw [es] at hg
        show setO env i (o0.put π (.dat d)) = env
        rw [go π o0 hg]
        unfold slotO at es
        unfold setO
        split at es
        · rename_i o e2
          cases es
          obtain ⟨hk, e⟩ := List.getElem?_eq_some_iff.mp e2
          show env.set i (.v o0) = env
          rw [← e, List.set_getElem_self hk]
        · rename_i o e2
          cases es
          obtain ⟨hk, e⟩ := List.getElem?_eq_some_iff.mp e2
          show env.set i (.io o0) = env
          rw [← e, List.set_getElem_self hk]
        · cases es
    rw [same] at R1
    exact R1
end
/-- e stands for the place π of slot i -/
def tP (c : Fc) (i : Nat) (π : List Nat) : TE := fun σ H Q => ∃ env ts us o, Rp c env σ ts us H ∧ getP env i π = some o ∧ ∀ v, valP H σ i π = some v → Q v H
structure DPl (X : Cx) (c : Fc) (e : Expr) (i : Nat) (π : List Nat) : Prop where
  run : PE X e (tP c i π)
section
variable {X : Cx} {c : Fc} {i : Nat} {π : List Nat}
theorem dp_name {e : Expr} (h : PE X e (tVar i)) : DPl X c e i [] := by
  refine ⟨h.weak fun σ H Q ⟨env, ts, us, o, R, hg, q⟩ => ?_⟩
  obtain ⟨v, F, fo, fr, ft, ev, _⟩ := R.focus hg
  unfold valP at ev
  split at ev
  · rename_i w e1
    exact ⟨w, e1, q w (by unfold valP; rw [e1]; cases w <;> rfl)⟩
  · cases ev
/-- e[k], e a list's place -/
theorem getP_app {env : Env} {k : Nat} {o : O} (h : getP env i (π ++ [k]) = some o) : ∃ s xs, getP env i π = some (.node s xs) ∧ nth s xs k = some o := by
  unfold getP at h ⊢
  cases e : slotO env i with
  | none => rw [e] at h; cases h
  | some o0 =>
    rw [e] at h
    have go : ∀ (π : List Nat) (t : O), t.get (π ++ [k]) = some o → ∃ s xs, t.get π = some (.node s xs) ∧ nth s xs k = some o := by
      intro π
      induction π with
      | nil =>
        intro t h
        cases t with
        | dat _ => cases h
        | any => cases h
        | node s xs =>
          have h' : (match nth s xs k with | some o => o.get [] | none => none) = some o := h
          cases ex : nth s xs k with
          | none => rw [ex] at h'; cases h'
          | some t' =>
            rw [ex] at h'
            refine ⟨s, xs, rfl, ?_⟩
            rw [ex]
            cases t' <;> exact h'
      | cons j π ih =>
        intro t h
        cases t with
        | dat _ => cases h
        | any => cases h
        | node s xs =>
          have h' : (match nth s xs j with | some o => o.get (π ++ [k]) | none => none) = some o := h
          cases ex : nth s xs j with
          | none => rw [ex] at h'; cases h'
          | some t' =>
            rw [ex] at h'
            obtain ⟨s', xs', a, b⟩ := ih t' h'
            refine ⟨s', xs', ?_, b⟩
            show (match nth s xs j with | some o => o.get π | none => none) = _
            rw [ex]
            exact a
    exact go π o0 h
theorem follow_app {H : Hp} {v w : V} {k : Nat} {p : Addr} {h : HO} (e1 : follow H w π = some (.ref p)) (e2 : H p = some h) (e3 : kidAt h k = some v) : follow H w (π ++ [k]) = some v := by
  induction π generalizing w with
  | nil =>
    have : w = .ref p := by cases w <;> exact Option.some.inj e1
    subst this
    show (match H p with | some h => _ | none => none) = some v
    rw [e2]
    show (match kidAt h k with | some v => follow H v [] | none => none) = some v
    rw [e3]
    cases v <;> rfl
  | cons j π ih =>
    cases w with
    | ref q =>
      have e1' : (match H q with | some h => (match kidAt h j with | some v => follow H v π | none => none) | none => none) = some (V.ref p) := e1
      show (match H q with | some h => (match kidAt h j with | some v => follow H v (π ++ [k]) | none => none) | none => none) = some v
      cases a : H q with
      | none => rw [a] at e1'; cases e1'
      | some h1 =>
        rw [a] at e1'
        simp only at e1' ⊢
        cases b : kidAt h1 j with
        | none => rw [b] at e1'; cases e1'
        | some ws =>
          rw [b] at e1'
          exact ih e1'
    | _ => cases e1
theorem valP_app {H : Hp} {σ : L2.St} {v : V} {k : Nat} {p : Addr} {h : HO} (e1 : valP H σ i π = some (.ref p)) (e2 : H p = some h) (e3 : kidAt h k = some v) : valP H σ i (π ++ [k]) = some v := by
  unfold valP at e1 ⊢
  cases a : σ[i]? with
  | none => rw [a] at e1; cases e1
  | some x =>
    cases x with
    | none => rw [a] at e1; cases e1
    | some w => rw [a] at e1; exact follow_app e1 e2 e3
theorem dp_ix {e : Expr} {k : Nat} {j : Nat} {pos pos' : Pos} (he : DPl X c e i π) (hs : PlainIx (.Constant (.int (k : Int)) j pos')) (hk : k < 1000 := by decide) : DPl X c (.Subscript e (.Constant (.int (k : Int)) j pos') pos) i (π ++ [k]) := by
  refine ⟨(pe_ix ix_seq he.run pe_int hs).weak fun σ H Q ⟨env, ts, us, o, R, hg, q⟩ => ?_⟩
  obtain ⟨s, xs, hg', hx⟩ := getP_app hg
  refine ⟨env, ts, us, _, R, hg', fun v hv => ?_⟩
  obtain ⟨p, vs, h, F, fx, ft, ev, hp, ho, f, rx, _, _⟩ := R.mut hg'
  have : v = .ref p := Option.some.inj (hv.symm.trans ev)
  subst this
  have hl := rx.length
  show rIx X.K (.ref p) (.int (k : Int)) H Q
  cases s with
  | lst =>
    have ho' : h = .lst vs := ho
    subst ho'
    have hx' : xs[k]? = some o := hx
    have hk' : k < vs.length := hl ▸ (List.getElem?_eq_some_iff.mp hx').1
    have hu : vs[k]? = some vs[k] := List.getElem?_eq_getElem hk'
    exact .inl ⟨p, vs, k, _, rfl, rfl, SqL.of hp, atI_nat hu, q _ (valP_app ev hp hu)⟩
  | tup =>
    have ho' : h = .tup vs := ho
    subst ho'
    have hx' : xs[k]? = some o := hx
    have hk' : k < vs.length := hl ▸ (List.getElem?_eq_some_iff.mp hx').1
    have hu : vs[k]? = some vs[k] := List.getElem?_eq_getElem hk'
    exact .inr (.inl ⟨p, vs, k, _, rfl, rfl, SqT.of hp, atI_nat hu, q _ (valP_app ev hp hu)⟩)
  | dic ks => cases hx
  | ins C fs =>
    have hx' : (match (if 1000 ≤ k then some (k - 1000) else none) with | some j => xs[j]? | none => none) = some o := hx
    rw [if_neg (by omega)] at hx'
    cases hx'
/-- frozen data at a place -/
def kLeaf (i : Nat) (π : List Nat) : EF := fun env => match getP env i π with
  | some (.dat d) => .ok (.dat d) env
  | _ => .no
theorem de_leaf {e : Expr} (h : DPl X c e i π) : DE X c true e (kLeaf i π) := by
  refine ⟨fun _ env o env' h => ?_, h.run.weak fun σ H Q ⟨env, ts, us, R, q⟩ => ?_⟩
  · unfold kLeaf at h
    split at h <;> first | (cases h; rfl) | cases h
  · unfold kLeaf at q
    split at q
    · rename_i d e
      obtain ⟨v, ev, R'⟩ := R.leaf e
      refine ⟨env, ts, us, _, R, e, fun w hw => ?_⟩
      have : w = v := Option.some.inj (hw.symm.trans ev)
      subst this
      exact q w H R' fun _ => Ex.refl H
    · exact q.elim
/-- e[k] = value, e a list at a place -/
def kSetP (i : Nat) (π : List Nat) (k : Nat) (f : EF) : Env → RS := fun env => (f env).st fun o e => match getP e i π with
  | some (.node .lst xs) => if k < xs.length then .nx (putP e i π (.node .lst (xs.set k o))) else .no
  | _ => .no
theorem ROs.setTop {K : Frag} {F H : Hp} {o : O} {v : V} {f1 : List Addr} (r : RO K F H o v f1) : ∀ {xs : List O} {vs : List V} {fx : List Addr} (k : Nat), ROs K F H xs vs fx → ∃ fx', ROs K F H (xs.set k o) (vs.set k v) fx' ∧ Sub fx' (f1 ++ fx)
  | [], _, _, k, h => by
    cases h
    exact ⟨[], .nil, Sub.right _ _⟩
  | x :: xs, _, _, 0, h => by
    cases h with
    | cons h1 h2 => exact ⟨_, .cons r h2, (Sub.refl f1).app (Sub.right _ _)⟩
  | x :: xs, _, _, k + 1, h => by
    cases h with
    | cons h1 h2 =>
      rename_i f2 vs f3
      obtain ⟨fx', r', s⟩ := ROs.setTop r k h2
      exact ⟨_, .cons h1 r', ((Sub.refl _).app s).trans (Sub.swap _ _ _)⟩
theorem ds_setP {p1 : Bool} {e a : Expr} {k j : Nat} {f : EF} {pos pos2 pos' : Pos} (h1 : DE X c p1 a f) (he : DPl X c e i π) (hs : swapsWithSole [.Subscript e (.Constant (.int (k : Int)) j pos') pos2] a pos.line X.env = pure false := by rfl) (hw : swappedStores [.Subscript e (.Constant (.int (k : Int)) j pos') pos2] a X.env = pure none := by rfl)
    (h3 : (assignEach [.Subscript e (.Constant (.int (k : Int)) j pos') pos2] X.env).map (·.2) = [assign (.Subscript e (.Constant (.int (k : Int)) j pos') pos2) X.env] := by rfl)
    (ha : ∀ v, assign (.Subscript e (.Constant (.int (k : Int)) j pos') pos2) X.env v = (do
      let ov ← holding [v] (eval e X.env)
      let iv ← holding [v, ov] (eval (.Constant (.int (k : Int)) j pos') X.env)
      standAt pos2
      holding [v, ov, iv] (setItem ov iv v)
      release [v, ov, iv] []) := by intro _; rfl) : DS X c (.Assign [.Subscript e (.Constant (.int (k : Int)) j pos') pos2] a pos) (kSetP i π k f) := by
  refine ⟨(ps_asg h1.run (pg_sub he.run pe_int set_list ha) hs hw h3).weak fun D σ H ⟨env, ts, us, R, q⟩ => ⟨env, ts, us, R, ?_⟩⟩
  unfold kSetP RE.st at q
  cases e1 : f env with
  | no => rw [e1] at q; exact q.elim
  | err x en => rw [e1] at q; exact fun H' R' => q σ H' R'
  | ok o en =>
    rw [e1] at q
    simp only at q
    intro v H1 R1 _
    split at q
    · rename_i xs eg
      split at q
      · rename_i hk
        refine ⟨en, o :: ts, v :: us, _, R1, eg, fun w hw' => ?_⟩
        obtain ⟨p, vs, h, F, fx, ft, ev, hp, ho, f, rx, rt, put⟩ := R1.mut eg
        have : w = .ref p := Option.some.inj (hw'.symm.trans ev)
        subst this
        have ho' : h = .lst vs := ho
        subst ho'
        have hl := rx.length
        refine ⟨p, vs, k, k, rfl, rfl, hp, ?_, ?_⟩
        · unfold ixN
          rw [if_pos (by omega), if_pos (by omega)]
          simp
        · cases rt with
          | cons ro rt =>
            rename_i f1 f2
            obtain ⟨fx', r', sb⟩ := ROs.setTop ro k rx
            refine q σ _ (put .lst _ _ _ fx' ts us f2 rfl r' rt ?_)
            refine (sb.app (.refl f2)).trans ?_
            rw [List.append_assoc]
            exact Sub.swap f1 fx f2
      · exact q.elim
    · exact q.elim
/-- (a, b, ..) = a list -/
def hTupL (n : Nat) (hs : List O → Env → Option Env) : GF := fun o env => match o with
  | .dat (.list ds) => if ds.length = n then hs (ds.map .dat) env else none
  | .node .lst os => if os.length = n then hs os env else none
  | _ => none
theorem Rp.kidsL {env : Env} {σ : L2.St} {ts : List O} {us : List V} {H : Hp} {os : List O} {v : V} (R : Rp c env σ (.node .lst os :: ts) (v :: us) H) : ∃ a vs, v = .ref a ∧ SqL c.K H a vs ∧ os.length = vs.length ∧ Rp c env σ (os ++ ts) (vs ++ us) H := by
  obtain ⟨F, fe, ft, f, e, t, nd, nw⟩ := R
  cases t with
  | cons r t =>
    cases r with
    | node h1 h2 h3 h4 =>
      rename_i f2 p vs h fp
      have h3' : h = .lst vs := h3
      subst h3'
      refine ⟨_, _, rfl, SqL.of h2, h4.length, Rp.of f e (h4.app t) (all := fe ++ (p :: fp ++ f2)) ?_ nd nw⟩
      refine (Sub.refl fe).app ?_
      exact ⟨[p], by
        show (fp ++ f2 ++ [p]).Perm (p :: (fp ++ f2))
        exact List.perm_append_comm⟩
theorem Rp.itemsL {env : Env} {σ : L2.St} {ts : List O} {us : List V} {H : Hp} {ds : List PyData} {v : V} (R : Rp c env σ (.dat (.list ds) :: ts) (v :: us) H) : ∃ a vs, v = .ref a ∧ SqL c.K H a vs ∧ ds.length = vs.length ∧ Rp c env σ (ds.map .dat ++ ts) (vs ++ us) H := by
  obtain ⟨F, fe, ft, f, e, t, nd, nw⟩ := R
  cases t with
  | cons r t =>
    cases r with
    | dat r =>
      cases r with
      | lst hs ha =>
        have ro := dpAll_os (F := F) (H := H) ha
        exact ⟨_, _, rfl, SqL.of (f.sub _ _ hs), by have := ro.length; simpa using this, F, fe, _, f, e, ro.app t, by simpa using nd, by simpa using nw⟩
theorem dg_lst {gs : List Nat} {es : List Expr} {k : Nat} {pos : Pos} {hs : List O → Env → Option Env} {n : Nat} (hc : X.calm = true) (hK : X.K = c.K) (h : DGs X c gs es hs)
    (hn : (assignEach es X.env).length = n := by rfl) (hst : (assignEach es X.env).findIdx? (·.1) = none := by rfl) : DG X c gs (.Tuple es k pos) (hTupL n hs) := by
  refine ⟨(pg_unl hc h.run hn hst).weak fun v σ H Q ⟨env, ts, us, o, R, q⟩ => ?_⟩
  unfold hTupL at q
  split at q
  · split at q
    · rename_i ds hl
      obtain ⟨a, vs, e, hs', hl', R'⟩ := R.itemsL
      exact ⟨a, vs, e, hK ▸ hs', hl' ▸ hl, env, ts, us, _, R', by simpa using hl', q⟩
    · exact q.elim
  · split at q
    · rename_i os hl
      obtain ⟨a, vs, e, hs', hl', R'⟩ := R.kidsL
      exact ⟨a, vs, e, hK ▸ hs', hl' ▸ hl, env, ts, us, _, R', hl', q⟩
    · exact q.elim
  · exact q.elim
end
end DP
end

section
namespace DP
open PySem PySem.Spec PyProof.Rows L2
/-! ### sorting tuples of ints -/
def lexI : List Int → List Int → Bool
  | [], [] => false
  | [], _ :: _ => true
  | _ :: _, [] => false
  | x :: xs, y :: ys => if x = y then lexI xs ys else decide (x < y)
theorem lexI_irr : ∀ x : List Int, lexI x x = false
  | [] => rfl
  | x :: xs => by rw [lexI, if_pos rfl]; exact lexI_irr xs
theorem lexI_asym : ∀ x y : List Int, lexI x y = true → lexI y x = false
  | [], [], h => by cases h
  | [], _ :: _, _ => rfl
  | _ :: _, [], h => by cases h
  | x :: xs, y :: ys, h => by
    rw [lexI] at h ⊢
    by_cases e : x = y
    · rw [if_pos e] at h
      rw [if_pos e.symm]
      exact lexI_asym xs ys h
    · rw [if_neg e] at h
      rw [if_neg (fun z => e z.symm)]
      have := of_decide_eq_true h
      exact decide_eq_false (by omega)
theorem lexI_eq : ∀ x y : List Int, lexI x y = false → lexI y x = false → x = y
  | [], [], _, _ => rfl
  | [], _ :: _, h, _ => by cases h
  | _ :: _, [], _, h => by cases h
  | x :: xs, y :: ys, h, h' => by
    rw [lexI] at h h'
    by_cases e : x = y
    · rw [if_pos e] at h
      rw [if_pos e.symm] at h'
      rw [e, lexI_eq xs ys h h']
    · rw [if_neg e] at h
      rw [if_neg (fun z => e z.symm)] at h'
      have a := of_decide_eq_false h
      have b := of_decide_eq_false h'
      omega
theorem lexI_tr : ∀ x y z : List Int, lexI y x = false → lexI z y = false → lexI z x = false
  | [], [], z, _, h => h
  | [], _ :: _, [], _, h => by cases h
  | [], _ :: _, _ :: _, _, _ => rfl
  | _ :: _, [], _, h, _ => by cases h
  | _ :: _, _ :: _, [], _, h => by cases h
  | x :: xs, y :: ys, z :: zs, h, h' => by
    rw [lexI] at h h' ⊢
    by_cases e : y = x
    · subst e
      rw [if_pos rfl] at h
      by_cases e2 : z = y
      · subst e2
        rw [if_pos rfl] at h' ⊢
        exact lexI_tr xs ys zs h h'
      · rw [if_neg e2] at h' ⊢
        exact h'
    · rw [if_neg e] at h
      have a := of_decide_eq_false h
      by_cases e2 : z = y
      · subst e2
        rw [if_neg e]
        exact h
      · rw [if_neg e2] at h'
        have b := of_decide_eq_false h'
        rw [if_neg (by omega)]
        exact decide_eq_false (by omega)
theorem swoI {α : Type} (k : α → List Int) : SrtO.Swo fun u v => lexI (k u) (k v) := ⟨fun _ _ => lexI_asym _ _, fun _ _ _ => lexI_tr _ _ _⟩
section
variable {prog : Program} {w : World} {A : Around} {E : Value → Shared → Prop} {s : Shared}
open SrtO PyProof.Rows Srt
def IsIts (h : Heap) (v : Value) (ns : List Int) : Prop := ∃ a o its n, v = .ref a ∧ h.get? a = some o ∧ o.cls = .type "tuple" ∧ o.data = .seq its n ∧ IntsAre its.toList ns
theorem IsIts.keeps {h h' : Heap} {v : Value} {ns : List Int} (p : IsIts h v ns) (k : ∀ b o, h.get? b = some o → o.cls = .type "tuple" → h'.get? b = some o) : IsIts h' v ns := by
  obtain ⟨a, o, t, n, e, ho, hc, hd, hi⟩ := p
  exact ⟨a, o, t, n, e, k _ _ ho hc, hc, hd, hi⟩
theorem lex_kat {Q : Bool → Shared → Prop} (b : Bool) : ∀ {xs ys : List Value} {ns ms : List Int} {fin : Bool} (i : Nat), IntsAre xs ns → IntsAre ys ms → fin = decide (ns.length < ms.length) → Q (lexI ns ms) s →
    PySem.W.KatLex prog w A b fin Q (xs.zip ys) i s
  | _, _, _, _, _, _, .nil, .nil, f, q => by
    subst f
    exact PySem.W.kat_nil q
  | _, _, _, _, _, _, .nil, .cons _ _ _, f, q => by
    subst f
    refine PySem.W.kat_nil ?_
    simpa [lexI] using q
  | _, _, _, _, _, _, .cons _ _ _, .nil, f, q => by
    subst f
    refine PySem.W.kat_nil ?_
    simpa [lexI] using q
  | _, _, _, _, _, i, .cons x t hx, .cons y u hy, f, q => by
    refine PySem.W.kat_cons (SeqAt.EqAt.int_int x t y u prog w _ _ ?_)
    refine PySem.W.kat_go (fun e1 => ?_) (fun e1 => ?_)
    · have ex : x = y := by simpa using e1
      refine PySem.W.kat_yes (lex_kat b (i + 1) hx hy (by rw [f]; simp) ?_)
      rw [lexI, if_pos ex] at q
      exact q
    · have ex : ¬ x = y := by simpa using e1
      refine PySem.W.kat_no (TS.oneLt_ints _ ?_)
      rw [lexI, if_neg ex] at q
      exact q
theorem its_cmp {vs : List Value} {k : Value → List Int} (hp : ∀ v ∈ vs, IsIts s.heap v (k v)) : Cmp prog w A s (tuples' true) (fun p => p.1 ∈ vs) (lt2 fun v u => lexI (k v) (k u)) := by
  intro p q hm hm'
  obtain ⟨a, o, t, n, e, ho, hc, hd, hi⟩ := hp _ hm
  obtain ⟨a', o', t', n', e', ho', hc', hd', hi'⟩ := hp _ hm'
  show wpAny (model prog w) A (keyLt' (tuples' true) p.1 q.1) (fun r s' => s' = s ∧ r = lexI (k p.1) (k q.1)) (fun _ _ => False) s
  generalize k p.1 = x at hi ⊢
  generalize k q.1 = y at hi' ⊢
  rw [e, e']
  refine PySem.W.kat_lt ho hd ho' hd' (lex_kat true 0 hi hi' ?_ ⟨rfl, rfl⟩)
  have l1 := hi.length
  have l2 := hi'.length
  rw [← l1, ← l2, Array.length_toList, Array.length_toList]
theorem firstsI {h : Heap} : ∀ {vs : List Value}, (∀ v ∈ vs, ∃ x ns, IsIts h v (x :: ns)) → ∃ fs : List Value, PySem.W.KatTups h vs fs ∧ fs.length = vs.length ∧ ∀ f ∈ fs, ∃ x t, f = Value.int x t
  | [], _ => ⟨[], PySem.W.KatTups.nil, rfl, fun _ hm => by simp at hm⟩
  | v :: vs, hp => by
    obtain ⟨fs, h1, h2, h3⟩ := firstsI (vs := vs) fun v' hm => hp v' (List.mem_cons_of_mem _ hm)
    obtain ⟨x, ns, a, o, its, n, e, ho, hc, hd, hi⟩ := hp v (List.mem_cons_self ..)
    subst e
    obtain ⟨t, z, ez⟩ : ∃ t z, its.toList = .int x t :: z := by
      cases q : its.toList with
      | nil => rw [q] at hi; cases hi
      | cons y z => rw [q] at hi; cases hi; exact ⟨_, _, rfl⟩
    have e0 : its[0]? = some (.int x t) := by rw [← Array.getElem?_toList, ez]; rfl
    refine ⟨.int x t :: fs, PySem.W.KatTups.cons ho hc hd e0 h1, by rw [List.length_cons, List.length_cons, h2], fun f hm => ?_⟩
    rcases List.mem_cons.mp hm with rfl | hm
    · exact ⟨x, t, rfl⟩
    · exact h3 f hm
theorem its_sortable {a : Addr} {vs : List Value} {k : Value → List Int} (h0 : 0 < vs.length) (hp : ∀ v ∈ vs, IsIts s.heap v (k v)) (hk : ∀ v ∈ vs, k v ≠ []) (ha : ∀ o, s.heap.get? a = some o → o.cls ≠ .type "tuple") : SortableO prog w A s a vs fun v u => lexI (k v) (k u) := by
  intro h' keep
  have hp' : ∀ v ∈ vs, IsIts h' v (k v) := fun v hm => (hp v hm).keeps fun b o e c => keep b o (fun z => by subst z; exact ha o e c) e
  obtain ⟨fs, h1, h2, h3⟩ := firstsI fun v hm => by
    cases e : k v with
    | nil => exact absurd e (hk v hm)
    | cons x ns => exact ⟨x, ns, e ▸ hp' v hm⟩
  refine ⟨tuples' true, fun Q E hq => ?_, its_cmp hp'⟩
  refine PySem.W.kat_kind (T := .type "int") h1 (by omega) (fun f hm => ?_) (by rfl) ?_
  · obtain ⟨x, t, rfl⟩ := h3 f hm
    exact PySem.W.Looks.now
  · have e : (Value.type "int" != Value.type "tuple") = true := by first | decide +kernel | rfl | decide
    rw [e]
    exact hq
theorem sorted_its {l : Addr} {vs : List Value} {k : Value → List Int} {Q : Value → Shared → Prop} (hl : s.heap.IsList l vs.toArray) (hz : vs.length ≤ sizeLine) (hp : ∀ v ∈ vs, IsIts s.heap v (k v)) (hk : ∀ v ∈ vs, k v ≠ [])
    (h : ∀ (h' : Heap) (d : Addr) (out : List Value), Srtd (fun v u => lexI (k v) (k u)) out → Stb (fun v u => lexI (k v) (k u)) out vs → (∀ b o, s.heap.get? b = some o → h'.get? b = some o) → s.heap.objs.size ≤ d → (∃ n, h'.get? d = some (seqObj "list" out.toArray n)) → Q (.ref d) { s with heap := h' }) :
    wpAny (model prog w) A (call (.builtin "sorted") [.ref l]) Q E s := by
  refine sorted_ord (swoI k) hl hz (fun h2 h₁ a ha kk => ?_) fun out hs hb => ?_
  · refine its_sortable (s := { s with heap := h₁ }) (by omega) (fun v hm => (hp v hm).keeps fun b o e _ => (kk b o e).2) hk fun o e => ?_
    have e' : some o = some (seqObj "list" vs.toArray 0) := e.symm.trans ha
    cases e'
    intro c
    exact absurd (Value.type.inj c) (by decide)
  · exact h _ _ out hs hb (fun b o e => sortedAll_old e) (Nat.le_succ _) (sortedAll_at s.heap vs out.toArray)
end
/-! the rule -/
def rSortedI (K : Frag) : List V → Hp → VK → Prop := fun vs H Q => ∃ (a : Addr) (xs : List V) (ks : List (List Int)), vs = [V.ref a] ∧ SqL K H a xs ∧ xs.length = ks.length ∧ (∀ (i : Nat) (x : V) (n : List Int), xs[i]? = some x → ks[i]? = some n → n ≠ [] ∧ ∃ t, x = V.ref t ∧ SqT K H t (n.map V.int)) ∧
  ∀ (k : V → List Int) ys p, xs.map k = ks → SrtO.Srtd (fun u v => lexI (k u) (k v)) ys → SrtO.Stb (fun u v => lexI (k u) (k v)) ys xs → H p = none → Q (.ref p) (upd H p (.lst ys))
theorem map_int_inj : ∀ {a b : List Int}, a.map V.int = b.map V.int → a = b
  | [], [], _ => rfl
  | [], _ :: _, h => by cases h
  | _ :: _, [], h => by cases h
  | x :: a, y :: b, h => by
    have h1 := List.cons.inj h
    rw [V.int.inj h1.1, map_int_inj h1.2]
open Classical in
noncomputable def keyV (K : Frag) (H : Hp) (x : V) : List Int := if h : ∃ n : List Int, ∃ t, x = V.ref t ∧ SqT K H t (n.map V.int) then choose h else []
theorem call_sortedI {X : Cx} : CallR X (.builtin "sorted") (rSortedI X.K) := by
  intro pins s σ H vs us Q I r h
  obtain ⟨a, xs, ks, rfl, hs, hl, hx, q⟩ := h
  have hk : ∀ (i : Nat) (x : V) (n : List Int), xs[i]? = some x → ks[i]? = some n → keyV X.K H x = n := fun i x n h1 h2 => by
    obtain ⟨_, t, e, ht⟩ := hx i x n h1 h2
    have ex : ∃ n : List Int, ∃ t, x = V.ref t ∧ SqT X.K H t (n.map V.int) := ⟨n, t, e, ht⟩
    unfold keyV
    rw [dif_pos ex]
    obtain ⟨t', e', ht'⟩ := Classical.choose_spec ex
    rw [e] at e'
    cases e'
    exact map_int_inj (I.tuple_inj ht' ht)
  have hm : xs.map (keyV X.K H) = ks := by
    refine List.ext_getElem (by simpa using hl) fun i h1 h2 => ?_
    rw [List.getElem_map]
    have h1' : i < xs.length := by simpa using h1
    exact hk i _ _ (List.getElem?_eq_getElem h1') (List.getElem?_eq_getElem h2)
  have hin : ∀ x ∈ xs, keyV X.K H x ≠ [] ∧ ∃ t, x = V.ref t ∧ SqT X.K H t ((keyV X.K H x).map V.int) := fun x m => by
    obtain ⟨i, hi, e⟩ := List.mem_iff_getElem.mp m
    have g1 : xs[i]? = some x := by rw [List.getElem?_eq_getElem hi, e]
    have g2 : ks[i]? = some (ks[i]'(hl ▸ hi)) := List.getElem?_eq_getElem (hl ▸ hi)
    have z := hk i x _ g1 g2
    rw [z]
    exact hx i x _ g1 g2
  obtain ⟨its, rv, hL, hz⟩ := I.list hs
  obtain ⟨u, rfl, ru⟩ := vals1 r
  obtain rfl : u = Value.ref a := ru
  obtain ⟨e1, e2⟩ := refs_back rv fun x m => by
    obtain ⟨_, t, e, _⟩ := hin x m
    exact ⟨t, e⟩
  have bk : ∀ v ∈ its, backV v ∈ xs := fun v hv => by rw [e1]; exact List.mem_map.mpr ⟨_, hv, rfl⟩
  refine sorted_its (k := fun u => keyV X.K H (backV u)) hL.isList (by rw [← rv.length]; exact hz) (fun v hv => ?_) (fun v hv => (hin _ (bk v hv)).1) fun h' d out h1 h2 kp hd hn => ?_
  · obtain ⟨t, rfl⟩ := e2 v hv
    obtain ⟨_, t', e, ht⟩ := hin _ (bk _ hv)
    cases e
    obtain ⟨its2, r2, p2, _⟩ := I.tuple ht
    obtain ⟨o, ho, hc, n, hd⟩ := p2
    exact ⟨t, o, its2.toArray, n, rfl, ho, hc, hd, by simpa using Vals.ints r2⟩
  · have h3 : ∀ u ∈ out, ∃ a, u = Value.ref a := fun u hu => e2 u (h2.perm.mem_iff.mp hu)
    obtain ⟨n, hn⟩ := hn
    have hb : SrtO.Stb (fun u v => lexI (keyV X.K H u) (keyV X.K H v)) (out.map backV) xs := by
      rw [e1]
      exact SrtO.Stb.map (swoI (keyV X.K H)) backV h2
    refine ⟨.ref d, upd H d (.lst (out.map backV)), I.laid (t' := s.toks) kp hd ⟨?_, out, n, vals_back h3, hn⟩, rfl, q _ _ d hm (SrtO.srtd_map h1) hb (I.hok.fresh hd)⟩
    rw [hb.len]
    exact hz
/-! sorting as data -/
def insI (x : List Int) : List (List Int) → List (List Int)
  | [] => [x]
  | y :: l => if lexI y x = true then y :: insI x l else x :: y :: l
def isortI : List (List Int) → List (List Int)
  | [] => []
  | x :: l => insI x (isortI l)
theorem insI_perm (x : List Int) : ∀ l, (insI x l).Perm (x :: l)
  | [] => List.Perm.refl _
  | y :: l => by
    unfold insI
    split
    · exact ((insI_perm x l).cons y).trans (List.Perm.swap x y l)
    · exact List.Perm.refl _
theorem isortI_perm : ∀ l, (isortI l).Perm l
  | [] => List.Perm.refl _
  | x :: l => (insI_perm x _).trans ((isortI_perm l).cons x)
theorem insI_srt (x : List Int) : ∀ {l}, SrtO.Srtd lexI l → SrtO.Srtd lexI (insI x l)
  | [], _ => List.pairwise_singleton _ _
  | y :: l, h => by
    obtain ⟨h1, h2⟩ := List.pairwise_cons.mp h
    unfold insI
    split
    · rename_i z
      refine List.pairwise_cons.mpr ⟨fun u hu => ?_, insI_srt x h2⟩
      rcases List.mem_cons.mp ((insI_perm x l).mem_iff.mp hu) with e | hu
      · rw [e]; exact lexI_asym _ _ z
      · exact h1 u hu
    · rename_i z
      have z' : lexI y x = false := by simpa using z
      refine List.pairwise_cons.mpr ⟨fun u hu => ?_, h⟩
      rcases List.mem_cons.mp hu with e | hu
      · rw [e]; exact z'
      · exact lexI_tr x y u z' (h1 u hu)
theorem isortI_srt : ∀ l, SrtO.Srtd lexI (isortI l)
  | [] => List.Pairwise.nil
  | x :: l => insI_srt x (isortI_srt l)
theorem stb_perm {l m : List (List Int)} (p : l.Perm m) : SrtO.Stb lexI l m := by
  refine ⟨p, fun x => ?_⟩
  have e : ∀ k : List (List Int), k.filter (SrtO.eqv lexI x) = List.replicate (k.filter (SrtO.eqv lexI x)).length x := fun k =>
    List.eq_replicate_of_mem fun u hu => by
      obtain ⟨a, b⟩ := SrtO.eqv_iff.mp (List.mem_filter.mp hu).2
      exact lexI_eq _ _ b a
  rw [e l, e m, (p.filter _).length_eq]
theorem srt_uniq {l m : List (List Int)} (s : SrtO.Srtd lexI l) (p : l.Perm m) : l = isortI m :=
  SrtO.stb_uniq (swoI id) s (isortI_srt m) (stb_perm (p.trans (isortI_perm m).symm))
def rowsI : List PyData → Option (List (List Int))
  | [] => some []
  | .tuple ds :: r => match intsD ds, rowsI r with
    | some (x :: n), some ks => some ((x :: n) :: ks)
    | _, _ => none
  | _ :: _ => none
def rowD (n : List Int) : PyData := .tuple (n.map .int)
theorem rowsI_eq : ∀ {ds : List PyData} {ks : List (List Int)}, rowsI ds = some ks → ds = ks.map rowD ∧ ∀ n ∈ ks, n ≠ []
  | [], ks, h => by cases h; exact ⟨rfl, fun _ h => nomatch h⟩
  | d :: ds, ks, h => by
    cases d with
    | tuple ts =>
      unfold rowsI at h
      split at h
      · rename_i x n ks' e1 e2
        cases h
        obtain ⟨h1, h2⟩ := rowsI_eq e2
        rw [intsD_eq e1, h1]
        refine ⟨rfl, fun z hz => ?_⟩
        rcases List.mem_cons.mp hz with e | hz
        · rw [e]; exact fun q => nomatch q
        · exact h2 z hz
      · cases h
    | _ => cases h
def gSort : List PyData → Option O
  | [.list ds] => (rowsI ds).map fun ks => .node .lst (((isortI ks).map rowD).map .dat)
  | _ => none
theorem drs_map {K : Frag} {F : Hp} {f : V → PyData} : ∀ {ys : List V}, (∀ y ∈ ys, DR K F y (f y)) → DRs K F ys (ys.map f)
  | [], _ => .nil
  | y :: ys, h => .cons (h y List.mem_cons_self) (drs_map fun z hz => h z (List.mem_cons_of_mem _ hz))
theorem drs_ints {K : Frag} {F : Hp} : ∀ {vs : List V} {n : List Int}, DRs K F vs (n.map .int) → vs = n.map .int
  | _, [], h => by cases h; rfl
  | _, x :: n, h => by
    cases h with
    | cons r t => cases r; rw [drs_ints t]; rfl
theorem o_sort {K : Frag} : Opn K (rSortedI K) gSort := by
  intro F H xs ds z s r g Q q
  unfold gSort at g
  split at g
  · rename_i ds
    cases e : rowsI ds with
    | none => rw [e] at g; cases g
    | some ks =>
      rw [e] at g
      cases g
      obtain ⟨rfl, ne⟩ := rowsI_eq e
      cases r with
      | cons r t =>
        cases t
        cases r with
        | lst h1 h2 =>
          rename_i a ws
          have at1 : ∀ (i : Nat) (x : V) (n : List Int), ws[i]? = some x → ks[i]? = some n → n ≠ [] ∧ DR K F x (rowD n) ∧ ∃ t, x = V.ref t ∧ SqT K F t (n.map V.int) := fun i x n g1 g2 => by
            obtain ⟨v, e1, rv⟩ := h2.get (i := i) (d := rowD n) (by rw [List.getElem?_map, g2]; rfl)
            rw [g1] at e1
            cases e1
            refine ⟨ne n (List.mem_of_getElem? g2), rv, ?_⟩
            cases rv with
            | tup g3 g4 => exact ⟨_, rfl, drs_ints g4 ▸ g3⟩
          have hl : ws.length = ks.length := by have := h2.length; simpa using this
          refine ⟨a, ws, ks, rfl, s.l (SqL.of h1), hl, fun i x n g1 g2 => ?_, fun k ys p hk h3 h4 hp => ?_⟩
          · obtain ⟨n1, _, t, e1, e2⟩ := at1 i x n g1 g2
            exact ⟨n1, t, e1, s.t e2⟩
          · have e1 : ys.map k = isortI ks := by
              refine srt_uniq (SrtO.srtd_map h3) ?_
              rw [← hk]
              exact h4.perm.map k
            have q : Res K F H [] (.node .lst (List.map O.dat (List.map rowD (isortI ks)))) Q := q
            rw [← e1, show List.map rowD (List.map k ys) = ys.map (fun y => rowD (k y)) from List.map_map] at q
            refine q.lst s (drs_map fun y hy => ?_) hp
            obtain ⟨i, hi, ey⟩ := List.mem_iff_getElem.mp (h4.perm.mem_iff.mp hy)
            have g1 : ws[i]? = some y := by rw [List.getElem?_eq_getElem hi, ey]
            have g2 : ks[i]? = some (k y) := by rw [← hk, List.getElem?_map, g1]; rfl
            exact (at1 i y _ g1 g2).2.1
  · cases g
/-! ### enumerate of a list -/
def lstD : PyData → Option (List PyData)
  | .list ds => some ds
  | .dict [(.list ds, .none)] => some ds
  | _ => none
def kEnum (g : Env → RE (List O)) : IF := fun env => (g env).bind fun os e1 => match os with
  | [o] => match o.toD with
    | some d => match lstD d with
      | some ds => .ok (enumD 0 ds) e1
      | none => .no
    | none => .no
  | _ => .no
section
variable {X : Cx} {c : Fc} {p1 p2 : Bool}
theorem lstD_at {F : Hp} {d : PyData} {ds : List PyData} {v : V} (h : DR c.K F v d) (hs : lstD d = some ds) : ∃ a vs, v = .ref a ∧ SqL c.K F a vs ∧ DRs c.K F vs ds := by
  cases h with
  | lst h1 h2 => cases hs; exact ⟨_, _, rfl, SqL.of h1, h2⟩
  | ro h1 h2 => cases hs; exact ⟨_, _, rfl, h1, h2⟩
  | _ => cases hs
theorem walk_enumD {ds : List PyData} {d : PyData} {a : Addr} (hs : lstD d = some ds) : Walk c (enumD 0 ds) [.dat d] [.ref a] (Ite c.K a) := by
  have look : ∀ {env σ ts us H}, Rp c env σ ([.dat d] ++ ts) ([.ref a] ++ us) H → ∃ F vs, Fr c F H ∧ SqL c.K F a vs ∧ DRs c.K F vs ds ∧
      ∀ d' v', DRs c.K F v' d' → Rp c env σ (d'.map .dat ++ ([.dat d] ++ ts)) (v' ++ ([.ref a] ++ us)) H := fun {env σ ts us H} R => by
    obtain ⟨F, fe, ft, f, e, t, nd, nw⟩ := R
    have t0 := t
    cases t with
    | cons r t =>
      cases r with
      | dat r =>
        obtain ⟨a', vs, e1, h1, g1⟩ := lstD_at r hs
        cases e1
        exact ⟨F, vs, f, h1, g1, fun d' v' r' => ⟨F, fe, _, f, e, (dpAll_os r').app t0, by simpa using nd, by simpa using nw⟩⟩
  refine ⟨fun i dd hd env σ ts us H R => ?_, fun env σ ts us H R => ?_⟩
  · obtain ⟨F, vs, f, h1, g1, k⟩ := look R
    obtain ⟨x, i1, rfl⟩ := enumD_get hd
    obtain ⟨v1, j1, r1⟩ := g1.get i1
    refine ⟨⟨vs, v1, f.sub.l h1, j1⟩, fun q H' ⟨T, x', e1, hT, e2, k1⟩ => ?_⟩
    have a1 := k1 vs (f.sub.l h1)
    rw [j1] at a1
    cases a1
    subst e1 e2
    rw [Nat.zero_add]
    exact Rp.newTup (k [.int (i : Nat), x] [.int (i : Nat), v1] (.cons (.int _) (.cons r1 .nil))) rfl hT
  · obtain ⟨F, vs, f, h1, g1, k⟩ := look R
    have l1 := g1.length
    rw [enumD_len]
    exact ⟨vs, f.sub.l h1, by omega⟩
theorem di_enum {e : Expr} {p pos tpos : Pos} {elts : List Expr} {kk : Nat} {g : Env → RE (List O)} {ios : List (Option Nat)} (hK : X.K = c.K) (hg : Gl X "enumerate") (hm : X.mg "enumerate" = none) (ha : DA X c p1 ios [e] g)
    (hs : starEach [e] X.env = [(false, eval e X.env)] := by rfl) : DI X c (.Tuple elts kk tpos) (.Call (.Name "enumerate" p) [e] [] pos) (kEnum g) := by
  refine ⟨(pi_enum hg hm ha.run hs).weak fun σ H R ⟨env, ts, us, Rr, q⟩ => ⟨env, ts, us, Rr, ?_⟩⟩
  unfold kEnum RE.bind at q
  cases e1 : g env with
  | no => rw [e1] at q; exact q.elim
  | err x en => rw [e1] at q; exact q
  | ok os en =>
    rw [e1] at q
    simp only at q
    intro vs H' R' hl hli _ _
    split at q
    · rename_i o
      split at q
      · rename_i d ed
        split at q
        · rename_i ds es
          match vs, hl with
          | [v], _ =>
            have R2 : Rp c en σ (o :: ts) (v :: us) H' := R'
            have R3 := R2.freeze ed
            obtain ⟨F, f, r, k⟩ := Rp.dat R3
            obtain ⟨a, ws, rfl, h1, g1⟩ := lstD_at r es
            rw [hK]
            exact ⟨_, _, rfl, f.sub.l h1, q _ H' [.dat d] [.ref a] R3 rfl (walk_enumD es)⟩
        · exact q.elim
      · exact q.elim
    · exact q.elim
end
/-! ### append and extend at a place -/
def kApp (i : Nat) (π : List Nat) (g : Env → RE (List O)) : EF := fun env => match getP env i π with
  | some (.node .lst _) => (g env).bind fun os e => match os, getP e i π with
    | [o], some (.node .lst xs) => if xs.length < 1000000 then .ok (.dat .none) (putP e i π (.node .lst (xs ++ [o]))) else .no
    | _, _ => .no
  | _ => .no
theorem ROs.appTop {K : Frag} {F H : Hp} {o : O} {v : V} {f1 : List Addr} (r : RO K F H o v f1) : ∀ {xs : List O} {vs : List V} {fx : List Addr}, ROs K F H xs vs fx → ∃ fx', ROs K F H (xs ++ [o]) (vs ++ [v]) fx' ∧ Sub fx' (f1 ++ fx)
  | [], _, _, h => by
    cases h
    exact ⟨_, .cons r .nil, Sub.refl _⟩
  | x :: xs, _, _, h => by
    cases h with
    | cons h1 h2 =>
      obtain ⟨fx', r', s⟩ := ROs.appTop r h2
      exact ⟨_, .cons h1 r', ((Sub.refl _).app s).trans (Sub.swap _ _ _)⟩
section
variable {X : Cx} {c : Fc} {p1 : Bool} {i : Nat} {π : List Nat}
theorem de_app {e a : Expr} {g : Env → RE (List O)} {apos cpos : Pos} {ios : List (Option Nat)} (hK : X.K = c.K) (he : DPl X c e i []) (ha : DA X c p1 ios [a] g)
    (hbase : attributeBase e "append" X.env (eval e X.env) = eval e X.env := by rfl)
    (hfew : ((backTo cpos (starEach [a] X.env)).all (fun x => !x.1) && (backToKw cpos (keywordEach [] X.env)).all (fun x => x.1.isSome)
      && decide (([a] : List Expr).length + ([] : List Keyword).length + (if ([] : List Keyword).isEmpty then 0 else 1) < 30)) = true := by rfl)
    (hline : (apos.endLine == cpos.line) = true := by rfl) (hs : starEach [a] X.env = (false, eval a X.env) :: starEach [] X.env := by rfl) (hplain : (backTo cpos (starEach [] X.env)).any (·.1) = false := by rfl) :
    DE X c false (.Call (.Attribute e "append" apos) [a] [] cpos) (kApp i [] g) := by
  refine ⟨fun h => (by cases h), (pe_bm PySem.F.plainAttrs_list PySem.F.slot_list_append PySem.F.type_list_append mt_append he.run ha.run hbase hfew hline hs hplain).weak fun σ H Q ⟨env, ts, us, R, q⟩ => ?_⟩
  unfold kApp at q
  split at q
  · rename_i xs0 eg0
    refine ⟨env, ts, us, _, R, eg0, fun w hw => ?_⟩
    obtain ⟨p, vs0, h, F, fx, ft, ev, hp, ho, f, rx, rt, put⟩ := R.mut eg0
    have : w = .ref p := Option.some.inj (hw.symm.trans ev)
    subst this
    have ho' : h = .lst vs0 := ho
    subst ho'
    refine ⟨Or.inl ⟨rfl, vs0, by rw [hK]; exact SqL.of hp⟩, env, ts, us, R, ?_⟩
    unfold RE.bind at q
    cases e1 : g env with
    | no => rw [e1] at q; exact q.elim
    | err x en => rw [e1] at q; exact fun H' R' => q H' R'
    | ok os en =>
      rw [e1] at q
      simp only at q
      intro vs H1 R1 hl _ _ _
      split at q
      · rename_i o xs eg
        match vs, hl with
        | [v], _ =>
          split at q
          · rename_i hk
            have R1' : Rp c en σ (o :: ts) (v :: us) H1 := R1
            obtain ⟨p', vs1, h1, F1, fx1, ft1, ev1, hp1, ho1, f1, rx1, rt1, put1⟩ := R1'.mut eg
            have vp : valP H σ i [] = valP H1 σ i [] := by
              unfold valP
              split <;> rfl
            rw [vp, ev1] at ev
            cases ev
            have ho1' : h1 = .lst vs1 := ho1
            subst ho1'
            have hl1 := rx1.length
            refine ⟨p, vs1, v, rfl, rfl, hp1, Nat.lt_of_lt_of_le (by omega) (sz_ok (n := 1000000) (Nat.le_refl _)), ?_⟩
            cases rt1 with
            | cons ro rt1 =>
              rename_i f11 f2
              obtain ⟨fx', r', sb⟩ := ROs.appTop ro rx1
              refine q .non _ (Rp.push (put1 .lst _ _ _ fx' ts us f2 rfl r' rt1 ?_) fun F _ => .non) (fun h => by cases h)
              refine (sb.app (.refl f2)).trans ?_
              rw [List.append_assoc]
              exact Sub.swap f11 fx1 f2
          · exact q.elim
      · exact q.elim
  · exact q.elim
end
theorem DE.np {X : Cx} {c : Fc} {p : Bool} {e : Expr} {f : EF} (h : DE X c p e f) : DE X c false e f := by
  refine ⟨fun z => (by cases z), h.run.weak fun σ H Q ⟨env, ts, us, R, q⟩ => ⟨env, ts, us, R, ?_⟩⟩
  cases e1 : f env with
  | no => rw [e1] at q; exact q.elim
  | err x en => rw [e1] at q; exact q
  | ok o en => rw [e1] at q; exact fun v H' R' _ => q v H' R' fun z => (by cases z)
theorem de_ifxF {X : Cx} {c : Fc} {p1 p2 p3 : Bool} {t a b : Expr} {g1 : Env → RE Bool} {f1 f2 : EF} {pos : Pos} (ht : DT X c p1 t g1) (h1 : DE X c p2 a f1) (h2 : DE X c p3 b f2) : DE X c (p1 && false) (.IfExp t a b pos) (kIte g1 f1 f2) := de_ifx ht h1.np h2.np
end DP
end

section
namespace DP
open PySem PySem.Spec PyProof.Rows L2
theorem un65 {A : Around} {k : Nat} (r : Room k A) : A.units + 65 < cLine := by have := r.un; omega
/-- the law's script -/
abbrev scriptO (ns : List Int) : O := .dat (.dict [(.list (ns.map .int), .none)])
theorem walk_den {l : PySem.W.OpenLaw} {n k : Nat} {q : Program} {loose : List Str} {XP : (Str → Option Value) → Heap → Prop} {YP : World → Heap → Prop} {d : DefRec} {K : Params → PySem.W.Frag} {x : Str} {io : List Bool} {den : List O → RF}
    (hn : l.most = some n) (hn2 : n ≤ sizeLine) (hdf : d.params.defaults = []) (hr : Room k callerA)
    (hY : ∀ (w : World) (h : Heap), YP w h → (K w.params).In h)
    (F : ∀ (w : World) (mg : Str → Option Value) (fa : Addr) (h : Heap), (K w.params).In h → h.Ns mainGlobals mg → mg d.name = some (.ref fa) →
      ∃ (fd : FuncData) (cls : Str → Value), (∀ (s : Shared) (u : Value), BindsTo s fd ⟨[u], []⟩ [(x, u)]) ∧
        ∀ base : Heap, (K w.params).In base → base.Ns mainGlobals mg → FnOk l.prog w (K w.params) mg base (L2.CX l.prog w) k fa fd [x] (spD (K w.params) cls io den))
    (T : ∀ ns : List Int, ns.length ≤ n → den [scriptO ns] = .ok (.dat (.bool true)) []) (hio : io.length = 1) :
    PySem.W.WalkO q loose XP YP l.row.toRowW d [] (fun f vs => PySem.call f vs) := by
  refine L2.walk_of (l := l) (n := n) (k := k) (x := x) (CX := fun w => L2.CX l.prog w) (sp := fun w => fun vs H Q E => ∃ (a : Addr) (ns : List Int), vs = [.ref a] ∧ SqL (K w.params) H a (ns.map V.int) ∧ ns.length ≤ n ∧ ∀ H', Q (.bl true) H') hn hn2 hdf hr hY (fun w mg fa h X G hm => ?_) (fun w H a ns hl _ hS => ⟨a, ns, rfl, hS, hl, fun _ => rfl⟩) fun w H s e s' h => ?_
  · obtain ⟨fd, cls, hb, hF⟩ := F w mg fa h X G hm
    refine ⟨fd, hb, fun base X' G' => (hF base X' G').imp fun vs H Q E ⟨a, ns, e, hS, hl, q⟩ => ?_⟩
    subst e
    refine ⟨H, [scriptO ns], [], Ex.refl H, .cons (f1 := []) (.dat (.ro hS (DRs.ofInts ns))) .nil, List.nodup_nil, by rw [hio]; rfl, ?_⟩
    rw [T ns hl]
    intro v H' F' fr fo af r _ _ _
    cases r with
    | dat r => cases r; exact q H'
  · obtain ⟨_, _, _, _, _, _, _, _, _, _, _, _, z⟩ := h
    exact z
theorem cls_ex {α : Type} {cls : α → Str → Value} {P : FuncData → (Str → Value) → Prop} (h : ∃ (fd : FuncData) (A : α), P fd (cls A)) : ∃ (fd : FuncData) (c : Str → Value), P fd c := by
  obtain ⟨fd, A, h⟩ := h
  exact ⟨fd, cls A, h⟩
end DP
end

section
namespace DP
open PySem PySem.Spec PyProof.Rows L2
/-! ### sorted of a tuple of int tuples -/
section
variable {prog : Program} {w : World} {A : Around} {E : Value → Shared → Prop} {s : Shared}
open SrtO PyProof.Rows Srt
theorem gather_tup {t : Addr} {vs : List Value} {Q : List Value → Shared → Prop} (ht : s.heap.IsTuple t vs.toArray) (hsz : vs.length ≤ sizeLine)
    (q : Q vs { s with heap := (s.heap.push (seqObj "list" #[] 0)).update s.heap.objs.size (Obj.mapSeq (· ++ vs.toArray)) }) : wpAny (model prog w) A (collect (.ref t)) Q E s := by
  obtain ⟨ob, hob, hcl, m, hdat⟩ := id ht
  unfold collect
  refine wpAny_bind (wpAny_runValue (codeAny_builtin entry_proto_collect' ?_)); show wpAny _ _ (do again (.builtin "list.__iadd__" ⟨[← newList [], .ref t], []⟩)) _ _ s
  refine wpAny_bind (wpAny_newList (wpAny_pure ⟨Code.quiet_builtin _ (by decide +kernel), codeAny_builtin entry_list_iadd' ?_⟩)); show wpAny _ _ (Builtin.List.listExtendWith (.ref s.heap.objs.size) (.ref t) (.ref s.heap.objs.size)) _ _ { s with heap := s.heap.push (seqObj "list" #[] 0) }
  unfold Builtin.List.listExtendWith
  have hob' : (s.heap.push (seqObj "list" #[] 0)).get? t = some ob := Heap.get?_push_of_some _ hob
  refine wpAny_bind (wpAny_typeOf (T := "tuple") ⟨ob, hob', hcl⟩ ?_)
  have tt : (Value.type "tuple" == Value.type "tuple") = true := by rfl
  rw [if_pos (by rw [tt]; simp)]
  refine wpAny_bind (listItems_at hob' hdat ?_); refine wpAny_bind (listItems_at (xs := #[]) (n := 0) (Heap.get?_push_size _ rfl) rfl ?_)
  rw [if_neg (by simp)]
  refine wpAny_bind (listUpdate_at (xs := #[]) (n := 0) (Heap.get?_push_size _ rfl) rfl ?_ (Nat.zero_le _) (by show (#[] ++ vs.toArray).size ≤ sizeLine + 1; simp only [Array.size_append, List.size_toArray, List.length_nil]; omega)); refine wpAny_pure ?_
  show wpAny (model prog w) A (do
      let o ← load s.heap.objs.size; match o.data with | .seq xs _ => pure xs.toList | _ => unsupported "internal:collect") Q E { s with heap := (s.heap.push (seqObj "list" #[] 0)).update s.heap.objs.size (Obj.mapSeq (· ++ vs.toArray)) }
  refine wpAny_bind (wpAny_load (get?_update_seq (Heap.get?_push_size _ rfl) _) ?_); show wpAny _ _ (pure ((#[] : Array Value) ++ vs.toArray).toList) Q E _
  rw [show ((#[] : Array Value) ++ vs.toArray).toList = vs by simp]
  exact wpAny_pure q
theorem sorted_ordT {t : Addr} {vs : List Value} {ltv : Value → Value → Bool} {Q : Value → Shared → Prop} (O : Swo ltv) (ht : s.heap.IsTuple t vs.toArray) (hz : vs.length ≤ sizeLine)
    (hS : 2 ≤ vs.length → ∀ (h₁ : Heap) (a : Addr), h₁.get? a = some (seqObj "list" vs.toArray 0) → (∀ b o, s.heap.get? b = some o → b ≠ a ∧ h₁.get? b = some o) → SortableO prog w A.in1.in1 { s with heap := h₁ } a vs ltv)
    (q : ∀ out : List Value, Srtd ltv out → Stb ltv out vs → Q (.ref (s.heap.objs.size + 1)) { s with heap := sortedAll s.heap vs out.toArray }) : wpAny (model prog w) A (call (.builtin "sorted") [.ref t]) Q E s := by
  refine Calls.call_function_entry kind_sorted plain_sorted entry_sorted (args_sorted1 _) ?_; unfold Builtin.«sorted»
  refine wpAny_bind (m := checkCount "sorted" 1 1 _) (wpAny_pure ?_); refine wpAny_bind (gather_tup ht hz ?_)
  refine wpAny_bind (wpAny_newList ?_ hz)
  have sz1 : ((s.heap.push (seqObj "list" #[] 0)).update s.heap.objs.size (Obj.mapSeq (· ++ vs.toArray))).objs.size = s.heap.objs.size + 1 := by rw [Heap.size_update, size_push']
  have at1 : (((s.heap.push (seqObj "list" #[] 0)).update s.heap.objs.size (Obj.mapSeq (· ++ vs.toArray))).push (seqObj "list" vs.toArray 0)).get? (s.heap.objs.size + 1) = some (seqObj "list" vs.toArray 0) := by rw [← sz1]; exact Heap.get?_push_size _ rfl
  have kp : ∀ b o, s.heap.get? b = some o → b ≠ s.heap.objs.size + 1 ∧ (((s.heap.push (seqObj "list" #[] 0)).update s.heap.objs.size (Obj.mapSeq (· ++ vs.toArray))).push (seqObj "list" vs.toArray 0)).get? b = some o := fun b o z => by
    have lt : b < s.heap.objs.size := Heap.lt_size z
    refine ⟨Nat.ne_of_lt (Nat.lt_succ_of_lt lt), Heap.get?_push_of_some _ ?_⟩; rw [Heap.get?_update_ne _ _ _ _ (Nat.ne_of_lt lt)]
    exact Heap.get?_push_of_some _ z
  show wpAny _ _ _ _ _ { s with heap := ((s.heap.push (seqObj "list" #[] 0)).update s.heap.objs.size (Obj.mapSeq (· ++ vs.toArray))).push (seqObj "list" vs.toArray 0) }; rw [sz1]
  refine wpAny_bind (wpAny_holding (wpAny_call_entry slot_list_sort ⟨_, at1, rfl⟩ entry_list_sort (list_sort_ord O at1 hz (fun h2 => hS h2 _ _ at1 kp) fun out hs hb => ⟨_, rfl, ?_⟩) (args_list_sort _)))
  exact wpAny_pure ⟨_, rfl, q out hs hb⟩
theorem sorted_itsT {t : Addr} {vs : List Value} {k : Value → List Int} {Q : Value → Shared → Prop} (ht : s.heap.IsTuple t vs.toArray) (hz : vs.length ≤ sizeLine) (hp : ∀ v ∈ vs, IsIts s.heap v (k v)) (hk : ∀ v ∈ vs, k v ≠ [])
    (h : ∀ (h' : Heap) (d : Addr) (out : List Value), Srtd (fun v u => lexI (k v) (k u)) out → Stb (fun v u => lexI (k v) (k u)) out vs → (∀ b o, s.heap.get? b = some o → h'.get? b = some o) → s.heap.objs.size ≤ d → (∃ n, h'.get? d = some (seqObj "list" out.toArray n)) → Q (.ref d) { s with heap := h' }) :
    wpAny (model prog w) A (call (.builtin "sorted") [.ref t]) Q E s := by
  refine sorted_ordT (swoI k) ht hz (fun h2 h₁ a ha kk => ?_) fun out hs hb => ?_
  · refine its_sortable (s := { s with heap := h₁ }) (by omega) (fun v hm => (hp v hm).keeps fun b o e _ => (kk b o e).2) hk fun o e => ?_
    have e' : some o = some (seqObj "list" vs.toArray 0) := e.symm.trans ha
    cases e'
    intro c
    exact absurd (Value.type.inj c) (by decide)
  · exact h _ _ out hs hb (fun b o e => sortedAll_old e) (Nat.le_succ _) (sortedAll_at s.heap vs out.toArray)
end
def rSortedT (K : Frag) : List V → Hp → VK → Prop := fun vs H Q => ∃ (a : Addr) (xs : List V) (ks : List (List Int)), vs = [V.ref a] ∧ SqT K H a xs ∧ xs.length = ks.length ∧ (∀ (i : Nat) (x : V) (n : List Int), xs[i]? = some x → ks[i]? = some n → n ≠ [] ∧ ∃ t, x = V.ref t ∧ SqT K H t (n.map V.int)) ∧
  ∀ (k : V → List Int) ys p, xs.map k = ks → SrtO.Srtd (fun u v => lexI (k u) (k v)) ys → SrtO.Stb (fun u v => lexI (k u) (k v)) ys xs → H p = none → Q (.ref p) (upd H p (.lst ys))
theorem call_sortedT {X : Cx} : CallR X (.builtin "sorted") (rSortedT X.K) := by
  intro pins s σ H vs us Q I r h
  obtain ⟨a, xs, ks, rfl, hs, hl, hx, q⟩ := h
  have hk : ∀ (i : Nat) (x : V) (n : List Int), xs[i]? = some x → ks[i]? = some n → keyV X.K H x = n := fun i x n h1 h2 => by
    obtain ⟨_, t, e, ht⟩ := hx i x n h1 h2
    have ex : ∃ n : List Int, ∃ t, x = V.ref t ∧ SqT X.K H t (n.map V.int) := ⟨n, t, e, ht⟩
    unfold keyV
    rw [dif_pos ex]
    obtain ⟨t', e', ht'⟩ := Classical.choose_spec ex
    rw [e] at e'
    cases e'
    exact map_int_inj (I.tuple_inj ht' ht)
  have hm : xs.map (keyV X.K H) = ks := by
    refine List.ext_getElem (by simpa using hl) fun i h1 h2 => ?_
    rw [List.getElem_map]
    have h1' : i < xs.length := by simpa using h1
    exact hk i _ _ (List.getElem?_eq_getElem h1') (List.getElem?_eq_getElem h2)
  have hin : ∀ x ∈ xs, keyV X.K H x ≠ [] ∧ ∃ t, x = V.ref t ∧ SqT X.K H t ((keyV X.K H x).map V.int) := fun x m => by
    obtain ⟨i, hi, e⟩ := List.mem_iff_getElem.mp m
    have g1 : xs[i]? = some x := by rw [List.getElem?_eq_getElem hi, e]
    have g2 : ks[i]? = some (ks[i]'(hl ▸ hi)) := List.getElem?_eq_getElem (hl ▸ hi)
    have z := hk i x _ g1 g2
    rw [z]
    exact hx i x _ g1 g2
  obtain ⟨its, rv, hL, hz⟩ := I.tuple hs
  obtain ⟨u, rfl, ru⟩ := vals1 r
  obtain rfl : u = Value.ref a := ru
  obtain ⟨e1, e2⟩ := refs_back rv fun x m => by
    obtain ⟨_, t, e, _⟩ := hin x m
    exact ⟨t, e⟩
  have bk : ∀ v ∈ its, backV v ∈ xs := fun v hv => by rw [e1]; exact List.mem_map.mpr ⟨_, hv, rfl⟩
  refine sorted_itsT (k := fun u => keyV X.K H (backV u)) hL (by rw [← rv.length]; exact hz) (fun v hv => ?_) (fun v hv => (hin _ (bk v hv)).1) fun h' d out h1 h2 kp hd hn => ?_
  · obtain ⟨t, rfl⟩ := e2 v hv
    obtain ⟨_, t', e, ht⟩ := hin _ (bk _ hv)
    cases e
    obtain ⟨its2, r2, p2, _⟩ := I.tuple ht
    obtain ⟨o, ho, hc, n, hd⟩ := p2
    exact ⟨t, o, its2.toArray, n, rfl, ho, hc, hd, by simpa using Vals.ints r2⟩
  · have h3 : ∀ u ∈ out, ∃ a, u = Value.ref a := fun u hu => e2 u (h2.perm.mem_iff.mp hu)
    obtain ⟨n, hn⟩ := hn
    have hb : SrtO.Stb (fun u v => lexI (keyV X.K H u) (keyV X.K H v)) (out.map backV) xs := by
      rw [e1]
      exact SrtO.Stb.map (swoI (keyV X.K H)) backV h2
    refine ⟨.ref d, upd H d (.lst (out.map backV)), I.laid (t' := s.toks) kp hd ⟨?_, out, n, vals_back h3, hn⟩, rfl, q _ _ d hm (SrtO.srtd_map h1) hb (I.hok.fresh hd)⟩
    rw [hb.len]
    exact hz
/-- a list or a tuple of tuples of ints -/
def gSortA : List PyData → Option O
  | [.list ds] => (rowsI ds).map fun ks => .node .lst (((isortI ks).map rowD).map .dat)
  | [.tuple ds] => (rowsI ds).map fun ks => .node .lst (((isortI ks).map rowD).map .dat)
  | _ => none
def rSortedA (K : Frag) : List V → Hp → VK → Prop := fun vs H Q => rSortedI K vs H Q ∨ rSortedT K vs H Q
theorem call_sortedA {X : Cx} : CallR X (.builtin "sorted") (rSortedA X.K) := call_sortedI.or call_sortedT
theorem o_sortA {K : Frag} : Opn K (rSortedA K) gSortA := by
  intro F H xs ds z s r g Q q
  unfold gSortA at g
  split at g
  · exact .inl (o_sort F H xs _ z s r g Q q)
  · rename_i ds
    cases e : rowsI ds with
    | none => rw [e] at g; cases g
    | some ks =>
      rw [e] at g
      cases g
      obtain ⟨rfl, ne⟩ := rowsI_eq e
      cases r with
      | cons r t =>
        cases t
        cases r with
        | tup h1 h2 =>
          rename_i a ws
          have at1 : ∀ (i : Nat) (x : V) (n : List Int), ws[i]? = some x → ks[i]? = some n → n ≠ [] ∧ DR K F x (rowD n) ∧ ∃ t, x = V.ref t ∧ SqT K F t (n.map V.int) := fun i x n g1 g2 => by
            obtain ⟨v, e1, rv⟩ := h2.get (i := i) (d := rowD n) (by rw [List.getElem?_map, g2]; rfl)
            rw [g1] at e1
            cases e1
            refine ⟨ne n (List.mem_of_getElem? g2), rv, ?_⟩
            cases rv with
            | tup g3 g4 => exact ⟨_, rfl, drs_ints g4 ▸ g3⟩
          have hl : ws.length = ks.length := by have := h2.length; simpa using this
          refine .inr ⟨a, ws, ks, rfl, s.t h1, hl, fun i x n g1 g2 => ?_, fun k ys p hk h3 h4 hp => ?_⟩
          · obtain ⟨n1, _, t, e1, e2⟩ := at1 i x n g1 g2
            exact ⟨n1, t, e1, s.t e2⟩
          · have e1 : ys.map k = isortI ks := by
              refine srt_uniq (SrtO.srtd_map h3) ?_
              rw [← hk]
              exact h4.perm.map k
            have q : Res K F H [] (.node .lst (List.map O.dat (List.map rowD (isortI ks)))) Q := q
            rw [← e1, show List.map rowD (List.map k ys) = ys.map (fun y => rowD (k y)) from List.map_map] at q
            refine q.lst s (drs_map fun y hy => ?_) hp
            obtain ⟨i, hi, ey⟩ := List.mem_iff_getElem.mp (h4.perm.mem_iff.mp hy)
            have g1 : ws[i]? = some y := by rw [List.getElem?_eq_getElem hi, ey]
            have g2 : ks[i]? = some (k y) := by rw [← hk, List.getElem?_map, g1]; rfl
            exact (at1 i y _ g1 g2).2.1
  · cases g
end DP
end

section
namespace DP
open PySem PySem.Spec PyProof.Rows L2
/-! ### enumerate of a tuple -/
def IteT (K : Frag) (a : Addr) : It :=
  ⟨fun i H => ∃ (xs : List V) (x : V), SqT K H a xs ∧ xs[i]? = some x, fun i H v H' => ∃ T x, v = .ref T ∧ H T = none ∧ H' = upd H T (.tup [.int (i : Nat), x]) ∧ ∀ l, SqT K H a l → l[i]? = some x, fun i H => ∃ xs : List V, SqT K H a xs ∧ xs.length = i⟩
theorem turn_enumT {P : Program} {w : World} {K : Frag} {elts : List Expr} {kk : Nat} {tpos : Pos} (a e it : Addr) (na : a ≠ it) (ne : a ≠ e) :
    Turn P w K (.Tuple elts kk tpos) (IteT K a) [e, it] e (fun i h => (∃ old, IsEnum h e it ((i : Nat) : Int) old) ∧ h.IsTupleIter it a i ∧ e ≠ it) where
  mem := by simp
  obj := fun i h st b hb => by
    obtain ⟨⟨old, he⟩, ⟨o, ho, hc, hd⟩, _⟩ := st
    have q : b = e ∨ b = it := by simpa using hb
    rcases q with z | z <;> subst z
    · exact ⟨_, he, fun v q => nomatch q⟩
    · exact ⟨o, ho, fun v q => by rw [hd] at q; cases q⟩
  keep := fun i h h' st k => by
    obtain ⟨⟨old, he⟩, hi, hne⟩ := st
    exact ⟨⟨old, k e (by simp) _ he⟩, hi.at fun o q => k it (by simp) o q, hne⟩
  item := by
    intro X hP hw hK hc i pins s σ H E I hf st hg
    subst hP hw hK
    obtain ⟨⟨old, he⟩, hit, hne⟩ := st
    obtain ⟨xs, x, hq, hx⟩ := hg
    obtain ⟨its, rv, p, hz⟩ := I.tuple hq
    obtain ⟨u0, hu0, ru0⟩ := rv.get hx
    have hh := I.ok.hd hc
    have lt : i < its.length := (List.getElem?_eq_some_iff.mp hu0).1
    have le0 : e < s.heap.objs.size := Heap.lt_size he
    have li0 : it < s.heap.objs.size := by obtain ⟨_, q, _⟩ := hit; exact Heap.lt_size q
    refine wpAny_pyNext_enum_itemC (Draws.tuple (A := X.A.in1) hh it a na its.toArray) he ⟨hit, p⟩ (by simpa using lt) hne (by simp [hne, Ne.symm ne]) fun u h' tk hP ho st' hT hsz hk => ?_
    have eu : u = u0 := by
      have : its[i]? = some u := by simpa using hP
      rw [hu0] at this
      exact (Option.some.inj this).symm
    subst eu
    refine ⟨_, rfl, wpAny_letOwnedTupleGo_enum (s := { s with heap := h', toks := tk + 1 }) ho fun h'' he' sb => ?_⟩
    have hT2 : h''.get? s.heap.objs.size = some { cls := .type "tuple", data := .seq #[.int i tk, u] } := (sb.2 _ (Nat.ne_of_gt le0)).trans hT
    have new : ObjOk X.prog X.w (upd H s.heap.objs.size (.tup [.int (i : Nat), x])) h'' s.heap.objs.size (.tup [.int (i : Nat), x]) :=
      ⟨by show 2 ≤ sizeLine; decide, [.int i tk, u], .cons ⟨_, rfl⟩ (.cons ru0 .nil), ⟨_, hT2, rfl, _, rfl⟩⟩
    have I1 : Inv X pins σ (upd H s.heap.objs.size (.tup [.int (i : Nat), x])) { s with heap := h'', toks := tk + 1 } :=
      I.turnedNew (t' := tk + 1) (ch := [e, it]) (fun b ob hb q => (sb.2 b (fun z => hb (by simp [z]))).trans (hk b ob (fun z => hb (by simp [z])) (fun z => hb (by simp [z])) q)) hf (Nat.le_refl _) new
    refine ⟨.ref s.heap.objs.size, _, I1, rfl, ⟨_, x, rfl, I.hok.fresh (Nat.le_refl _), rfl, fun l hl => by rw [I.tuple_inj hl hq]; exact hx⟩, ⟨⟨u, ?_⟩, st'.1.at fun o q => (sb.2 it (Ne.symm hne)).trans q, hne⟩, fun b hb => ?_⟩
    · have e1 : ((i + 1 : Nat) : Int) = (i : Int) + 1 := by omega
      rw [e1]
      exact he'
    · have q : b = e ∨ b = it := by simpa using hb
      have lb : b < s.heap.objs.size := by rcases q with z | z <;> subst z <;> assumption
      rw [upd_ne (Nat.ne_of_lt lb)]
      exact (hf b hb).1
  done := by
    intro X hP hw hK hc i pins s σ H E I hf st hg
    subst hP hw hK
    obtain ⟨⟨old, he⟩, hit, hne⟩ := st
    obtain ⟨xs, hq, hx⟩ := hg
    obtain ⟨its, rv, p, hz⟩ := I.tuple hq
    obtain ⟨f0, f1, f2, f3, f4, f5⟩ := hf it (by simp)
    have hl := rv.length
    have hh := I.ok.hd hc
    have en : i = its.toArray.size := by simp; omega
    refine wpAny_pyNext_enum_endD (Draws.tuple (A := X.A.in1) hh it a na its.toArray) he (by rw [← en]; exact ⟨hit, p⟩) fun h' eb => ⟨rfl, I.turned (t' := s.toks) (fun b o hb q => eb b o hb q) f0 f1 f3 f4 f5⟩
  self := fun A i s Q E st h => by
    obtain ⟨⟨_, he⟩, _⟩ := st
    exact wpAny_pyIter_enum he h
set_option maxHeartbeats 1000000 in
theorem meets_enum_one {v : Value} {o : Obj} {Hq : Heap → Prop} (B : Begins v o Hq) :
    Meets (Builtin.«enumerate.__new__» ⟨[.type "enumerate", v], []⟩) (fun _ R s => Hq s.heap ∧ R (.ok (.ret (.ref (s.heap.push o).objs.size))) { s with heap := (s.heap.push o).push { cls := .type "enumerate", data := .fields #[.none, .bool false, .ref s.heap.objs.size, rawInt 0, .none, .none] } }) :=
  .of_wp fun prog w A R s h => by
    obtain ⟨hp, g, d, tk, os⟩ := s
    obtain ⟨h1, h⟩ := h
    have hsub := sub_enumerate
    have begin1 : ∀ {A' : Around} {E : Value → Shared → Prop} {Q : Value → Shared → Prop}, Q (.ref hp.objs.size) ⟨hp.push o, g, d, tk, os⟩ → wpAny (model prog w) A' (pyIter v) Q E ⟨hp, g, d, tk, os⟩ := fun q => B.iter prog w _ _ ⟨hp, g, d, tk, os⟩ _ h1 q
    wp_walk using begin1
    refine wpAny_stack_any fun st => wpAny_pure ?_
    split
    · rename_i cl _ _ _ _ _
      cases (cl == Value.type "enumerate") <;> wp_walk using begin1 <;> exact ⟨_, rfl, h⟩
    · wp_walk using begin1; exact ⟨_, rfl, h⟩
theorem enum_one {prog : Program} {w : World} {A : Around} {E : Value → Shared → Prop} {s : Shared} {v : Value} {o : Obj} {Hq : Heap → Prop} {Q : Value → Shared → Prop} (B : Begins v o Hq) (h1 : Hq s.heap)
    (h : ∀ h', IsEnum h' (s.heap.objs.size + 1) s.heap.objs.size 0 .none → h'.get? s.heap.objs.size = some o → h'.objs.size = s.heap.objs.size + 2 → (∀ b o, s.heap.get? b = some o → h'.get? b = some o) → Q (.ref (s.heap.objs.size + 1)) { s with heap := h' }) : wpAny (model prog w) A (call (.type "enumerate") [v]) Q E s := by
  refine callType_new F.called_enumerate (by decide) (F.typeCall_enumerate_1 _) (F.newCall_enumerate_1 _) (fun obj => F.args_object_init_2 obj _) F.entry_enumerate_new (meets_enum_one B) ⟨h1, ?_⟩
  have z1 : (s.heap.push o).objs.size = s.heap.objs.size + 1 := Heap.size_push ..
  show _ ∧ _; rw [z1]
  have he : IsEnum ((s.heap.push o).push { cls := .type "enumerate", data := .fields #[.none, .bool false, .ref s.heap.objs.size, rawInt 0, .none, .none] }) (s.heap.objs.size + 1) s.heap.objs.size 0 .none := by
    have q := Heap.get?_push_size (s.heap.push o) (o := { cls := .type "enumerate", data := .fields #[.none, .bool false, .ref s.heap.objs.size, rawInt 0, .none, .none] }) rfl
    rw [z1] at q; exact q
  refine ⟨⟨_, he, rfl⟩, h _ he (Heap.get?_push_of_some _ (Heap.get?_push_size _ B.free)) (by rw [Heap.size_push, z1]) fun b o x => ?_⟩
  exact Heap.get?_push_of_some _ (Heap.get?_push_of_some _ x)
def iEnumT (K : Frag) (ta : TA) : TI := fun σ H R => ta σ H fun vs H1 => ∃ a xs, vs = [.ref a] ∧ SqT K H1 a xs ∧ R (IteT K a) H1
theorem pi_enumT {X : Cx} {e : Expr} {ta : TA} {p pos tpos : Pos} {elts : List Expr} {kk : Nat} (hg : Gl X "enumerate") (hm : X.mg "enumerate" = none) (ha : PA X [e] ta) (hs : starEach [e] X.env = [(false, eval e X.env)] := by rfl) :
    PI X (.Tuple elts kk tpos) (.Call (.Name "enumerate" p) [e] [] pos) (iEnumT X.K ta) := by
  refine ⟨fun pins s σ H R I h => ?_⟩
  refine Call_ (ld_blt I hg hm boot_enumerate (PyProof.Rows.callWith_type1 (thn (ha.run pos pins s σ H _ I h) fun us s1 ⟨vs, H1, I1, r1, q1⟩ => ?_) hs rfl))
  obtain ⟨a, xs, ex, hq, q⟩ := q1
  subst ex
  cases r1 with
  | cons r rr =>
    cases rr
    cases r
    obtain ⟨its, rv, p', hz⟩ := I1.tuple hq
    have la : a < s1.heap.objs.size := p'.lt
    refine enum_one (begins_tuple a its.toArray) p' fun h' he hit hsz hk => wpAny_pyIter_enum he ?_
    have I2 : Inv X pins σ H1 { s1 with heap := h' } := I1.kept (t' := s1.toks) hk
    refine ⟨s1.heap.objs.size + 1, [s1.heap.objs.size + 1, s1.heap.objs.size], _, _, H1, rfl, I2, turn_enumT a (s1.heap.objs.size + 1) s1.heap.objs.size (Nat.ne_of_lt la) (Nat.ne_of_lt (Nat.lt_succ_of_lt la)), ⟨⟨.none, he⟩, ⟨_, hit, rfl, rfl⟩, Nat.succ_ne_self _⟩, fun b hb => ?_, q⟩
    have e' : b = s1.heap.objs.size + 1 ∨ b = s1.heap.objs.size := by simpa using hb
    have hle : s1.heap.objs.size ≤ b := by rcases e' with z | z <;> rw [z] <;> first | exact Nat.le_add_right _ _ | exact Nat.le_refl _
    exact I1.fpOk hle (I1.hok.fresh hle)
end DP
end

section
namespace DP
open PySem PySem.Spec PyProof.Rows L2
/-! ### enumerate of data -/
def kEnumA (g : Env → RE (List O)) : IF := fun env => (g env).bind fun os e1 => match os with
  | [o] => match o.toD with
    | some d => match seqD d with
      | some ds => .ok (enumD 0 ds) e1
      | none => .no
    | none => .no
  | _ => .no
section
variable {X : Cx} {c : Fc} {p1 p2 : Bool}
theorem walk_enumT {ds : List PyData} {a : Addr} : Walk c (enumD 0 ds) [.dat (.tuple ds)] [.ref a] (IteT c.K a) := by
  have look : ∀ {env σ ts us H}, Rp c env σ ([.dat (.tuple ds)] ++ ts) ([.ref a] ++ us) H → ∃ F vs, Fr c F H ∧ SqT c.K F a vs ∧ DRs c.K F vs ds ∧
      ∀ d' v', DRs c.K F v' d' → Rp c env σ (d'.map .dat ++ ([.dat (.tuple ds)] ++ ts)) (v' ++ ([.ref a] ++ us)) H := fun {env σ ts us H} R => by
    obtain ⟨F, fe, ft, f, e, t, nd, nw⟩ := R
    have t0 := t
    cases t with
    | cons r t =>
      cases r with
      | dat r =>
        cases r with
        | tup h1 g1 => exact ⟨F, _, f, h1, g1, fun d' v' r' => ⟨F, fe, _, f, e, (dpAll_os r').app t0, by simpa using nd, by simpa using nw⟩⟩
  refine ⟨fun i dd hd env σ ts us H R => ?_, fun env σ ts us H R => ?_⟩
  · obtain ⟨F, vs, f, h1, g1, k⟩ := look R
    obtain ⟨x, i1, rfl⟩ := enumD_get hd
    obtain ⟨v1, j1, r1⟩ := g1.get i1
    refine ⟨⟨vs, v1, f.sub.t h1, j1⟩, fun q H' ⟨T, x', e1, hT, e2, k1⟩ => ?_⟩
    have a1 := k1 vs (f.sub.t h1)
    rw [j1] at a1
    cases a1
    subst e1 e2
    rw [Nat.zero_add]
    exact Rp.newTup (k [.int (i : Nat), x] [.int (i : Nat), v1] (.cons (.int _) (.cons r1 .nil))) rfl hT
  · obtain ⟨F, vs, f, h1, g1, k⟩ := look R
    have l1 := g1.length
    rw [enumD_len]
    exact ⟨vs, f.sub.t h1, by omega⟩
theorem di_enumA {e : Expr} {p pos tpos : Pos} {elts : List Expr} {kk : Nat} {g : Env → RE (List O)} {ios : List (Option Nat)} (hK : X.K = c.K) (hg : Gl X "enumerate") (hm : X.mg "enumerate" = none) (ha : DA X c p1 ios [e] g)
    (hs : starEach [e] X.env = [(false, eval e X.env)] := by rfl) : DI X c (.Tuple elts kk tpos) (.Call (.Name "enumerate" p) [e] [] pos) (kEnumA g) := by
  refine ⟨(pi_or (pi_enum hg hm ha.run hs) (pi_enumT hg hm ha.run hs)).weak fun σ H R ⟨env, ts, us, Rr, q⟩ => ?_⟩
  unfold kEnumA RE.bind at q
  cases e1 : g env with
  | no => rw [e1] at q; exact q.elim
  | err x en => rw [e1] at q; exact .inl ⟨env, ts, us, Rr, by rw [e1]; exact q⟩
  | ok os en =>
    rw [e1] at q
    simp only at q
    split at q
    · rename_i o
      split at q
      · rename_i d ed
        split at q
        · rename_i ds es
          rw [hK]
          have main : ∀ {ls : Option (List PyData)}, lstD d = ls → (ls = some ds ∨ d = .tuple ds) := fun {ls} h => by
            subst h
            cases d with
            | list ds' => cases es; exact .inl rfl
            | tuple ds' => cases es; exact .inr rfl
            | dict kvs =>
              unfold seqD at es
              split at es
              · rename_i z; cases z
              · rename_i z; cases z
              · rename_i ds' z; cases z; cases es; exact .inl rfl
              · cases es
            | _ => cases es
          rcases main rfl with es | ed2
          · refine .inl ⟨env, ts, us, Rr, ?_⟩
            rw [e1]
            intro vs H' R' hl hli _ _
            match vs, hl with
            | [v], _ =>
              have R2 : Rp c en σ (o :: ts) (v :: us) H' := R'
              have R3 := R2.freeze ed
              obtain ⟨F, f, r, k⟩ := Rp.dat R3
              obtain ⟨a, ws, rfl, h1, g1⟩ := lstD_at r es
              exact ⟨_, _, rfl, f.sub.l h1, q _ H' [.dat d] [.ref a] R3 rfl (walk_enumD es)⟩
          · subst ed2
            refine .inr ⟨env, ts, us, Rr, ?_⟩
            rw [e1]
            intro vs H' R' hl hli _ _
            match vs, hl with
            | [v], _ =>
              have R2 : Rp c en σ (o :: ts) (v :: us) H' := R'
              have R3 := R2.freeze ed
              obtain ⟨F, f, r, k⟩ := Rp.dat R3
              cases r with
              | tup h1 g1 => exact ⟨_, _, rfl, f.sub.t h1, q _ H' [.dat (.tuple ds)] [_] R3 rfl walk_enumT⟩
        · exact q.elim
      · exact q.elim
    · exact q.elim
/-! ### zip of two lists -/
def zip2D : List PyData → List PyData → List PyData
  | x :: xs, y :: ys => .tuple [x, y] :: zip2D xs ys
  | _, _ => []
theorem zip2D_get : ∀ {xs ys : List PyData} {i : Nat} {d : PyData}, (zip2D xs ys)[i]? = some d → ∃ x y, xs[i]? = some x ∧ ys[i]? = some y ∧ d = .tuple [x, y]
  | [], _, _, _, h => by simp [zip2D] at h
  | _ :: _, [], _, _, h => by simp [zip2D] at h
  | x :: xs, y :: ys, 0, d, h => ⟨x, y, rfl, rfl, (by simpa [zip2D] using h.symm)⟩
  | x :: xs, y :: ys, i + 1, d, h => by
    obtain ⟨a, b, h1, h2, h4⟩ := zip2D_get (xs := xs) (ys := ys) (i := i) (d := d) (by simpa [zip2D] using h)
    exact ⟨a, b, by simpa using h1, by simpa using h2, h4⟩
theorem zip2D_len : ∀ xs ys : List PyData, (zip2D xs ys).length = min xs.length ys.length
  | [], _ => by simp [zip2D]
  | _ :: _, [] => by simp [zip2D]
  | x :: xs, y :: ys => by
    show (zip2D xs ys).length + 1 = min (xs.length + 1) (ys.length + 1)
    rw [zip2D_len xs ys]
    omega
def kZip2 (g : Env → RE (List O)) : IF := fun env => (g env).bind fun os e1 => match O.toDs os with
  | some [.list xs, .list ys] => .ok (zip2D xs ys) e1
  | _ => .no
theorem walk_z2 {xs ys : List PyData} {a b : Addr} : Walk c (zip2D xs ys) [.dat (.list xs), .dat (.list ys)] [.ref a, .ref b] (Itz c.K a b) := by
  have look : ∀ {env σ ts us H}, Rp c env σ ([.dat (.list xs), .dat (.list ys)] ++ ts) ([.ref a, .ref b] ++ us) H → ∃ F vs ws, Fr c F H ∧ SqL c.K F a vs ∧ SqL c.K F b ws ∧ DRs c.K F vs xs ∧ DRs c.K F ws ys ∧
      ∀ d' v', DRs c.K F v' d' → Rp c env σ (d'.map .dat ++ ([.dat (.list xs), .dat (.list ys)] ++ ts)) (v' ++ ([.ref a, .ref b] ++ us)) H := fun {env σ ts us H} R => by
    obtain ⟨F, fe, ft, f, e, t, nd, nw⟩ := R
    have t0 := t
    cases t with
    | cons r t =>
      cases t with
      | cons r2 t =>
        cases r with
        | dat r =>
          cases r2 with
          | dat r2 =>
            cases r with
            | lst h1 g1 =>
              cases r2 with
              | lst h2 g2 => exact ⟨F, _, _, f, SqL.of h1, SqL.of h2, g1, g2, fun d' v' r' => ⟨F, fe, _, f, e, (dpAll_os r').app t0, by simpa using nd, by simpa using nw⟩⟩
  refine ⟨fun i dd hd env σ ts us H R => ?_, fun env σ ts us H R => ?_⟩
  · obtain ⟨F, vs, ws, f, h1, h2, g1, g2, k⟩ := look R
    obtain ⟨x, y, i1, i2, rfl⟩ := zip2D_get hd
    obtain ⟨v1, j1, r1⟩ := g1.get i1
    obtain ⟨v2, j2, r2⟩ := g2.get i2
    refine ⟨⟨vs, ws, v1, v2, f.sub.l h1, f.sub.l h2, j1, j2⟩, fun q H' ⟨T, x', y', e1, hT, e2, k1, k2⟩ => ?_⟩
    have a1 := k1 vs (f.sub.l h1)
    have a2 := k2 ws (f.sub.l h2)
    rw [j1] at a1; rw [j2] at a2
    cases a1; cases a2
    subst e1 e2
    exact Rp.newTup (k [x, y] [v1, v2] (.cons r1 (.cons r2 .nil))) rfl hT
  · obtain ⟨F, vs, ws, f, h1, h2, g1, g2, k⟩ := look R
    have l1 := g1.length
    have l2 := g2.length
    have l := zip2D_len xs ys
    exact ⟨vs, ws, f.sub.l h1, f.sub.l h2, by omega⟩
theorem two {vs : List V} (h : (2 : Nat) = vs.length) : ∃ a b, vs = [a, b] := by
  match vs, h with
  | [a, b], _ => exact ⟨a, b, rfl⟩
theorem di_zip2 {a b : Expr} {p pos tpos : Pos} {elts : List Expr} {kk : Nat} {g : Env → RE (List O)} {ios : List (Option Nat)} (hK : X.K = c.K) (hg : Gl X "zip") (hm : X.mg "zip" = none) (ha : DA X c p1 ios [a, b] g)
    (hs : starEach [a, b] X.env = (false, eval a X.env) :: starEach [b] X.env := by rfl) (hpl : (backTo pos (starEach [b] X.env)).any (·.1) = false := by rfl) : DI X c (.Tuple elts kk tpos) (.Call (.Name "zip" p) [a, b] [] pos) (kZip2 g) := by
  refine ⟨(pi_zip hg hm ha.run hs hpl).weak fun σ H R ⟨env, ts, us, Rr, q⟩ => ⟨env, ts, us, Rr, ?_⟩⟩
  unfold kZip2 RE.bind at q
  cases e1 : g env with
  | no => rw [e1] at q; exact q.elim
  | err x en => rw [e1] at q; exact q
  | ok os en =>
    rw [e1] at q
    simp only at q
    intro vs H' R' hl hli _ _
    split at q
    · rename_i xs ys ed
      have R2 := R'.freezes hl ed
      have l3 : (2 : Nat) = vs.length := (Rp.freezes.toDs_len ed).trans hl
      obtain ⟨v1, v2, rfl⟩ := two l3
      have R3 : Rp c en σ (.dat (.list xs) :: .dat (.list ys) :: ts) (v1 :: v2 :: us) H' := R2
      obtain ⟨F, f, r, k⟩ := Rp.dat R3
      obtain ⟨F2, f2, r2, _⟩ := Rp.dat R3.pop
      cases r with
      | lst h1 g1 =>
        cases r2 with
        | lst h2 g2 =>
          rw [hK]
          exact ⟨_, _, _, _, rfl, f.sub.l (SqL.of h1), f2.sub.l (SqL.of h2), q _ H' _ _ R3 rfl walk_z2⟩
    · exact q.elim
end
end DP
end

section
namespace DP
open PySem PySem.Spec PyProof.Rows L2
/-! ### a place is looked at -/
theorem follow_ex {H H' : Hp} (x : Ex H H') : ∀ {π : List Nat} {w v : V}, follow H w π = some v → follow H' w π = some v
  | [], w, v, h => by cases w <;> exact h
  | k :: π, w, v, h => by
    cases w with
    | ref p =>
      have h' : (match H p with | some o => (match kidAt o k with | some u => follow H u π | none => none) | none => none) = some v := h
      show (match H' p with | some o => (match kidAt o k with | some u => follow H' u π | none => none) | none => none) = some v
      cases e : H p with
      | none => rw [e] at h'; cases h'
      | some o =>
        rw [e] at h'
        rw [x p o e]
        simp only at h' ⊢
        cases e2 : kidAt o k with
        | none => rw [e2] at h'; cases h'
        | some u => rw [e2] at h'; exact follow_ex x h'
    | _ => cases h
theorem valP_ex {H H' : Hp} (x : Ex H H') {σ : L2.St} {i : Nat} {π : List Nat} {v : V} (h : valP H σ i π = some v) : valP H' σ i π = some v := by
  unfold valP at h ⊢
  split at h
  · exact follow_ex x h
  · cases h
theorem put_same : ∀ {π : List Nat} {t o : O}, t.get π = some o → t.put π o = t
  | [], t, o, h => by cases t <;> exact (Option.some.inj h).symm
  | k :: π, t, o, h => by
    cases t with
    | dat _ => cases h
    | any => cases h
    | node s xs =>
      show (match nth s xs k with | some u => O.node s (put1 s xs k (u.put π o)) | none => .node s xs) = _
      have h' : (match nth s xs k with | some u => u.get π | none => none) = some o := h
      cases ex : nth s xs k with
      | none => rfl
      | some u =>
        rw [ex] at h'
        show O.node s (put1 s xs k (u.put π o)) = _
        rw [put_same h']
        unfold put1
        unfold nth at ex
        cases ej : s.at k with
        | none => rfl
        | some j =>
          rw [ej] at ex
          obtain ⟨hk, e⟩ := List.getElem?_eq_some_iff.mp ex
          show O.node s (xs.set j u) = _
          rw [← e, List.set_getElem_self hk]
theorem putP_same {env : Env} {i : Nat} {π : List Nat} {o : O} (hg : getP env i π = some o) : putP env i π o = env := by
  unfold putP
  unfold getP at hg
  cases es : slotO env i with
  | none => rfl
  | some o0 =>
    rw [es] at hg
    show setO env i (o0.put π o) = env
    rw [put_same hg]
    unfold slotO at es
    unfold setO
    split at es
    · rename_i u e2
      cases es
      obtain ⟨hk, e⟩ := List.getElem?_eq_some_iff.mp e2
      show env.set i (.v o0) = env
      rw [← e, List.set_getElem_self hk]
    · rename_i u e2
      cases es
      obtain ⟨hk, e⟩ := List.getElem?_eq_some_iff.mp e2
      show env.set i (.io o0) = env
      rw [← e, List.set_getElem_self hk]
    · cases es
section
variable {c : Fc} {env : Env} {σ : L2.St} {ts : List O} {us : List V} {H H' : Hp} {i : Nat} {π : List Nat}
theorem Rp.ex (R : Rp c env σ ts us H) (x : Ex H H') : Rp c env σ ts us H' := by
  obtain ⟨F, fe, ft, f, e, t, nd, nw⟩ := R
  exact ⟨F, fe, ft, f.ex x, e.stay (stay_ex x e.own), t.stay _ _ _ (stay_ex x (t.own _ _ _)), nd, nw⟩
theorem Rp.val {o : O} (R : Rp c env σ ts us H) (hg : getP env i π = some o) : ∃ v, valP H σ i π = some v := by
  obtain ⟨v, F, fo, fr, ft, ev, _⟩ := R.focus hg
  exact ⟨v, ev⟩
theorem Rp.peek {o : O} {d : PyData} (R : Rp c env σ ts us H) (hg : getP env i π = some o) (hd : o.toD = some d) : ∃ v, valP H σ i π = some v ∧ DR c.K H v d := by
  obtain ⟨v, F, fo, fr, ft, ev, f, ro, _⟩ := R.focus hg
  exact ⟨v, ev, ro.frozen _ _ _ _ hd f.sub fun _ _ => rfl⟩
theorem DR.flat {K : Frag} {F F' : Hp} {v : V} {d : PyData} (r : DR K F v d) (h : flatD d = true) : DR K F' v d := by
  cases r with
  | non => exact .non
  | bl b => exact .bl b
  | int i => exact .int i
  | str s => exact .str s
  | _ => cases h
/-- a flat result at a heap that has grown -/
theorem Rp.res {d : PyData} {Q : VK} (R : Rp c env σ ts us H) (hf : flatD d = true) (q : ∀ v H', Rp c env σ (.dat d :: ts) (v :: us) H' → Ex H H' → Q v H') : Res c.K H H [] (.dat d) Q := fun v H' F' fp g r _ _ => by
  cases r with
  | dat r => exact q v H' ((R.ex g.h).push fun F _ => r.flat hf) g.h
end
/-- place op e, e pure -/
def kPkL (g : PyData → PyData → Option O) (i : Nat) (π : List Nat) (f : EF) : EF := fun env => match getP env i π with
  | some o => match o.toD with
    | some d1 => (f env).bind fun o2 e2 => match o2.toD with
      | some d2 => match g d1 d2 with
        | some (.dat z) => if flatD z = true then .ok (.dat z) e2 else .no
        | _ => .no
      | none => .no
    | none => .no
  | none => .no
/-- e op place -/
def kPkR (g : PyData → PyData → Option O) (f : EF) (i : Nat) (π : List Nat) : EF := fun env => (f env).bind fun o1 e1 => match o1.toD, getP e1 i π with
  | some d1, some o => match o.toD with
    | some d2 => match g d1 d2 with
      | some (.dat z) => if flatD z = true then .ok (.dat z) e1 else .no
      | _ => .no
    | none => .no
  | _, _ => .no
section
variable {X : Cx} {c : Fc} {i : Nat} {π : List Nat} {p1 : Bool}
theorem t_pkL {r : R2} {g : PyData → PyData → Option O} {f : EF} {σ : L2.St} {H : Hp} {Q : VK} (hr : Op2 c.K r g) (hp : Pu true f) (q : tE c true (kPkL g i π f) σ H Q) : tOp r (tP c i π) (tE c true f) σ H Q := by
  obtain ⟨env, ts, us, R, q⟩ := q
  unfold kPkL at q
  split at q
  · rename_i o eg
    split at q
    · rename_i d1 ed
      refine ⟨env, ts, us, o, R, eg, fun v hv => ⟨env, ts, us, R, ?_⟩⟩
      unfold RE.bind at q
      cases e1 : f env with
      | no => rw [e1] at q; exact q.elim
      | err x en => rw [e1] at q; exact q
      | ok o2 en =>
        have := hp rfl _ _ _ e1
        subst this
        rw [e1] at q
        intro y H2 R2 x2
        simp only at q
        split at q
        · rename_i d2 ed2
          split at q
          · rename_i z ez
            split at q
            · rename_i hz
              have R3 := R2.freeze ed2
              obtain ⟨v', ev, rv⟩ := R3.peek eg ed
              rw [valP_ex (x2 rfl) hv] at ev
              cases ev
              obtain ⟨F, f, ry, _⟩ := Rp.dat R3
              refine hr H2 H2 v y d1 d2 (.dat z) (Ex.refl H2) rv (f.sub.dp _ _ ry) ez Q (R3.pop.res hz fun w H' R' x' => q w H' R' fun _ => (x2 rfl).trans x')
            · exact q.elim
          · exact q.elim
        · exact q.elim
    · exact q.elim
  · exact q.elim
theorem pu_pkL {g : PyData → PyData → Option O} {f : EF} (h : Pu true f) : Pu true (kPkL g i π f) := fun _ env o env' q => by
  unfold kPkL at q
  split at q
  · split at q
    · unfold RE.bind at q
      cases e1 : f env with
      | no => simp only [e1] at q; cases q
      | err x en => simp only [e1] at q; cases q
      | ok o2 en =>
        simp only [e1] at q
        have z := h rfl _ _ _ e1
        subst z
        split at q
        · split at q
          · split at q
            · cases q; rfl
            · cases q
          · cases q
        · cases q
    · cases q
  · cases q
theorem de_pkL {op : CmpOp} {a b : Expr} {r : R2} {g : PyData → PyData → Option O} {f : EF} {pos : Pos} (ho : OpR X (compareOp op) r) (hr : Op2 c.K r g) (ha : DPl X c a i π) (hb : DE X c true b f) (hm : behindInMarks op b = false) : DE X c true (.Compare a [op] [b] pos) (kPkL g i π f) :=
  ⟨pu_pkL hb.pure, (pe_cmpR ho ha.run hb.run hm).weak fun _ _ _ q => t_pkL hr hb.pure q⟩
theorem t_pkR {r : R2} {g : PyData → PyData → Option O} {f : EF} {σ : L2.St} {H : Hp} {Q : VK} (hr : Op2 c.K r g) (q : tE c p1 (kPkR g f i π) σ H Q) : tOp r (tE c p1 f) (tP c i π) σ H Q := by
  obtain ⟨env, ts, us, R, q⟩ := q
  refine ⟨env, ts, us, R, ?_⟩
  unfold kPkR RE.bind at q
  cases e1 : f env with
  | no => rw [e1] at q; exact q.elim
  | err x en => rw [e1] at q; exact q
  | ok o1 en =>
    rw [e1] at q
    intro x H1 R1 x1
    simp only at q
    split at q
    · rename_i d1 o ed1 eg
      split at q
      · rename_i d2 ed2
        split at q
        · rename_i z ez
          split at q
          · rename_i hz
            have R3 := R1.freeze ed1
            refine ⟨en, _, _, o, R3, eg, fun v hv => ?_⟩
            obtain ⟨v', ev, rv⟩ := R3.peek eg ed2
            rw [hv] at ev
            cases ev
            obtain ⟨F, f, ry, _⟩ := Rp.dat R3
            refine hr H1 H1 x v d1 d2 (.dat z) (Ex.refl H1) (f.sub.dp _ _ ry) rv ez Q (R3.pop.res hz fun w H' R' x' => q w H' R' fun h => (x1 h).trans x')
          · exact q.elim
        · exact q.elim
      · exact q.elim
    · exact q.elim
theorem pu_pkR {g : PyData → PyData → Option O} {f : EF} (h : Pu p1 f) : Pu p1 (kPkR g f i π) := fun hp env o env' q => by
  unfold kPkR RE.bind at q
  cases e1 : f env with
  | no => simp only [e1] at q; cases q
  | err x en => simp only [e1] at q; cases q
  | ok o2 en =>
    simp only [e1] at q
    have z := h hp _ _ _ e1
    subst z
    split at q
    · split at q
      · split at q
        · split at q
          · cases q; rfl
          · cases q
        · cases q
      · cases q
    · cases q
theorem de_pkR {op : CmpOp} {a b : Expr} {r : R2} {g : PyData → PyData → Option O} {f : EF} {pos : Pos} (ho : OpR X (compareOp op) r) (hr : Op2 c.K r g) (ha : DE X c p1 a f) (hb : DPl X c b i π) (hm : behindInMarks op b = false) : DE X c p1 (.Compare a [op] [b] pos) (kPkR g f i π) :=
  ⟨pu_pkR ha.pure, (pe_cmpR ho ha.run hb.run hm).weak fun _ _ _ q => t_pkR hr q⟩
/-- a built-in of a place: a flat answer -/
def kPk1 (g : List PyData → Option O) (i : Nat) (π : List Nat) : EF := fun env => match getP env i π with
  | some o => match o.toD with
    | some d => match g [d] with
      | some (.dat z) => if flatD z = true then .ok (.dat z) env else .no
      | _ => .no
    | none => .no
  | none => .no
theorem de_pk1 {id : String} {x : Str} {e : Expr} {r : List V → Hp → VK → Prop} {g : List PyData → Option O} {p pos : Pos} (hc : CallR X (.builtin id) r) (hr : Opn c.K r g) (hg : Gl X x) (hm : X.mg x = none) (hv : bootBuiltins x = some (.builtin id)) (ha : DPl X c e i π)
    (hn : x ≠ "__name__" := by decide) (hdb : (x == ("__debug__" : Str)) = false := by decide) (hs : starEach [e] X.env = (false, eval e X.env) :: starEach [] X.env := by rfl) (hpl : (backTo pos (starEach [] X.env)).any (·.1) = false := by rfl) :
    DE X c true (.Call (.Name x p) [e] [] pos) (kPk1 g i π) := by
  refine ⟨fun _ env o env' q => ?_, (pe_callB hc hg hm hv (pa_cons ha.run pa_nil hs) hn hdb hs hpl).weak fun σ H Q ⟨env, ts, us, R, q⟩ => ?_⟩
  · unfold kPk1 at q
    split at q
    · split at q
      · split at q
        · split at q
          · cases q; rfl
          · cases q
        · cases q
      · cases q
    · cases q
  · unfold kPk1 at q
    split at q
    · rename_i o eg
      split at q
      · rename_i d ed
        split at q
        · rename_i z ez
          split at q
          · rename_i hz
            refine ⟨env, ts, us, o, R, eg, fun v hv => ?_⟩
            obtain ⟨v', ev, rv⟩ := R.peek eg ed
            rw [hv] at ev
            cases ev
            exact hr H H [v] [d] (.dat z) (Ex.refl H) (.cons rv .nil) ez Q (R.res hz fun w H' R' x' => q w H' R' fun _ => x')
          · exact q.elim
        · exact q.elim
      · exact q.elim
    · exact q.elim
/-- list(place), the items frozen -/
def datsO : List O → Option (List PyData)
  | [] => some []
  | .dat d :: os => (datsO os).map (d :: ·)
  | _ => none
theorem datsO_eq : ∀ {os : List O} {ds : List PyData}, datsO os = some ds → os = ds.map .dat
  | [], ds, h => by cases h; rfl
  | o :: os, ds, h => by
    cases o with
    | dat d =>
      unfold datsO at h
      cases e : datsO os with
      | none => rw [e] at h; cases h
      | some l => rw [e] at h; cases h; rw [datsO_eq e]; rfl
    | _ => cases h
theorem datsO_map : ∀ ds : List PyData, datsO (ds.map .dat) = some ds
  | [] => rfl
  | d :: ds => by
    show (datsO (ds.map .dat)).map (d :: ·) = _
    rw [datsO_map ds]
    rfl
def kLsP (i : Nat) (π : List Nat) : EF := fun env => match getP env i π with
  | some (.node .lst os) => match datsO os with
    | some ds => .ok (.node .lst (ds.map .dat)) env
    | none => .no
  | _ => .no
theorem Rp.listAt {env : Env} {σ : L2.St} {ts : List O} {us : List V} {H : Hp} {ds : List PyData} (R : Rp c env σ ts us H) (hg : getP env i π = some (.node .lst (ds.map .dat))) : ∃ p vs, valP H σ i π = some (.ref p) ∧ H p = some (.lst vs) ∧ (∃ F, Fr c F H ∧ DRs c.K F vs ds) ∧ Rp c env σ (ds.map .dat ++ ts) (vs ++ us) H := by
  have R0 := R
  obtain ⟨v, F, fo, fr, ft, ev, f, ro, t, nd, nw, ow, put⟩ := R.focus hg
  cases ro with
  | node h1 h2 h3 h4 =>
    rename_i p vs h fx
    have h3' : h = .lst vs := h3
    subst h3'
    obtain ⟨r, rfl⟩ := drs_of h4
    refine ⟨p, vs, ev, h2, ⟨F, f, r⟩, ?_⟩
    have go : ∀ {ds : List PyData} {vs : List V}, DRs c.K F vs ds → ∀ {ts us ft}, ROs c.K F H ts us ft → ROs c.K F H (ds.map .dat ++ ts) (vs ++ us) ft := fun {ds vs} r => by
      intro ts us ft t
      have := (dpAll_os (F := F) (H := H) r).app t
      simpa using this
    have st : Stay fr F H F H := ⟨Ex.refl F, fun a z => (ow a z).1, fun _ _ => rfl⟩
    have same := put (.node .lst (ds.map .dat)) [p] F H (ds.map .dat ++ ts) (vs ++ us) ft (.node h1 h2 rfl h4) st f (go r t) nd nw
    rwa [putP_same hg] at same
theorem de_lsP {e : Expr} {p pos : Pos} (hK : X.K = c.K) (hg : Gl X "list") (hm : X.mg "list" = none) (ha : DPl X c e i π) (hs : starEach [e] X.env = (false, eval e X.env) :: starEach [] X.env := by rfl) (hpl : (backTo pos (starEach [] X.env)).any (·.1) = false := by rfl) :
    DE X c false (.Call (.Name "list" p) [e] [] pos) (kLsP i π) := by
  refine ⟨Pu.no, (pe_callTy call_list_of hg hm (by decide +kernel) (pa_cons ha.run pa_nil hs) (by decide) (by decide) hs hpl).weak fun σ H Q ⟨env, ts, us, R, q⟩ => ?_⟩
  unfold kLsP at q
  split at q
  · rename_i os eg
    split at q
    · rename_i ds ed
      have eo := datsO_eq ed
      subst eo
      refine ⟨env, ts, us, _, R, eg, fun v hv => ?_⟩
      obtain ⟨p', vs, ev, hp, ⟨F, f, r⟩, R2⟩ := R.listAt eg
      rw [hv] at ev
      cases ev
      refine ⟨p', vs, rfl, .inl (SqL.of hp), fun l hl => q _ _ (Rp.mk R2 (by simpa using r.length.symm) hl rfl) fun z => nomatch z⟩
    · exact q.elim
  · exact q.elim
/-- tuple(place) -/
def kTpP (i : Nat) (π : List Nat) : EF := fun env => match getP env i π with
  | some (.node .lst os) => match datsO os with
    | some ds => .ok (.dat (.tuple ds)) env
    | none => .no
  | _ => .no
theorem de_tpP {e : Expr} {p pos : Pos} (hK : X.K = c.K) (hg : Gl X "tuple") (hm : X.mg "tuple" = none) (ha : DPl X c e i π) (hs : starEach [e] X.env = (false, eval e X.env) :: starEach [] X.env := by rfl) (hpl : (backTo pos (starEach [] X.env)).any (·.1) = false := by rfl) :
    DE X c false (.Call (.Name "tuple" p) [e] [] pos) (kTpP i π) := by
  refine ⟨Pu.no, (pe_callTy call_tuple_of hg hm (by decide +kernel) (pa_cons ha.run pa_nil hs) (by decide) (by decide) hs hpl).weak fun σ H Q ⟨env, ts, us, R, q⟩ => ?_⟩
  unfold kTpP at q
  split at q
  · rename_i os eg
    split at q
    · rename_i ds ed
      have eo := datsO_eq ed
      subst eo
      refine ⟨env, ts, us, _, R, eg, fun v hv => ?_⟩
      obtain ⟨p', vs, ev, hp, ⟨F, f, r⟩, R2⟩ := R.listAt eg
      rw [hv] at ev
      cases ev
      refine ⟨p', vs, rfl, .inl ⟨SqL.of hp, fun l hl => q _ _ (Rp.newTup R2 r.length.symm hl) fun z => nomatch z⟩⟩
    · exact q.elim
  · exact q.elim
end
end DP
end

section
namespace DP
open PySem PySem.Spec PyProof.Rows L2
/-! ### methods of a list at a place -/
/-- place.append(e), e pure -/
def kAppP (i : Nat) (π : List Nat) (g : Env → RE (List O)) : EF := fun env => match getP env i π with
  | some (.node .lst _) => (g env).bind fun os e => match os, getP e i π with
    | [o], some (.node .lst xs) => if xs.length < 1000000 then .ok (.dat .none) (putP e i π (.node .lst (xs ++ [o]))) else .no
    | _, _ => .no
  | _ => .no
/-- place.pop(e), e pure; the item that goes -/
def kPopP (i : Nat) (π : List Nat) (g : Env → RE (List O)) : EF := fun env => match getP env i π with
  | some (.node .lst _) => (g env).bind fun os e => match os, getP e i π with
    | [.dat (.int j)], some (.node .lst xs) => match ixN xs.length j with
      | some k => match xs[k]? with
        | some (.dat d) => if -1000000 < j ∧ j < 1000000 then .ok (.dat d) (putP e i π (.node .lst (xs.eraseIdx k))) else .no
        | _ => .no
      | none => .no
    | _, _ => .no
  | _ => .no
/-- where a flat item stands first -/
def findD (d : PyData) : List PyData → Nat → Option Nat
  | [], _ => none
  | e :: es, k => if PyData.eqv e d = true then some k else findD d es (k + 1)
/-- place.index(e), e pure -/
def kIdxP (i : Nat) (π : List Nat) (g : Env → RE (List O)) : EF := fun env => match getP env i π with
  | some (.node .lst _) => (g env).bind fun os e => match os, (getP e i π).bind O.toD with
    | [.dat d], some (.list ds) => if flatD d = true ∧ ds.all flatD = true then match findD d ds 0 with
        | some k => .ok (.dat (.int k)) e
        | none => .no
      else .no
    | _, _ => .no
  | _ => .no
theorem ROs.erase {K : Frag} {F H : Hp} : ∀ {xs : List O} {vs : List V} {fx : List Addr} (k : Nat), ROs K F H xs vs fx → ∃ fx', ROs K F H (xs.eraseIdx k) (vs.eraseIdx k) fx' ∧ Sub fx' fx
  | [], _, _, k, h => by
    cases h
    exact ⟨[], .nil, Sub.refl _⟩
  | x :: xs, _, _, 0, h => by
    cases h with
    | cons h1 h2 => exact ⟨_, h2, Sub.right _ _⟩
  | x :: xs, _, _, k + 1, h => by
    cases h with
    | cons h1 h2 =>
      obtain ⟨fx', r', s⟩ := ROs.erase k h2
      exact ⟨_, .cons h1 r', (Sub.refl _).app s⟩
theorem ROs.at' {K : Frag} {F H : Hp} {xs : List O} {vs : List V} {fx : List Addr} {k : Nat} {d : PyData} (r : ROs K F H xs vs fx) (h : xs[k]? = some (.dat d)) : ∃ v, vs[k]? = some v ∧ DR K F v d := by
  obtain ⟨v, fo, fr, ev, ro, _⟩ := r.nth h
  cases ro with
  | dat ro => exact ⟨v, ev, ro⟩
theorem seq_ix {j : Int} {n k : Nat} (h : ixN n j = some k) : seqIndex? j n = some k := by
  unfold ixN at h
  unfold seqIndex?
  by_cases z : j < 0
  · rw [if_pos z]
    rw [if_neg (by omega)] at h
    split at h
    · cases h
      rw [if_pos (by simp; omega)]
    · cases h
  · rw [if_neg z]
    rw [if_pos (by omega)] at h
    split at h
    · cases h
      rw [if_pos (by simp; omega)]
    · cases h
theorem findD_at {K : Frag} {F : Hp} {y : V} {d : PyData} (ry : DR K F y d) (fd : flatD d = true) : ∀ {ds : List PyData} {vs : List V} {k j : Nat}, DRs K F vs ds → ds.all flatD = true → findD d ds k = some j → ∃ m z, j = k + m ∧ vs[m]? = some z ∧ eqV z y = true ∧ ∀ m' z', m' < m → vs[m']? = some z' → eqV z' y = false
  | [], _, k, j, _, _, h => by cases h
  | e :: es, _, k, j, .cons r t, fa, h => by
    rw [List.all_cons, Bool.and_eq_true] at fa
    unfold findD at h
    rename_i v vs
    have ev : eqV v y = PyData.eqv e d := eqv_dv ry r fd fa.1
    split at h
    · rename_i he
      cases h
      exact ⟨0, v, rfl, rfl, by rw [ev]; exact he, fun m' z' hm => absurd hm (Nat.not_lt_zero _)⟩
    · rename_i he
      obtain ⟨m, z, h1, h2, h3, h4⟩ := findD_at ry fd t fa.2 h
      refine ⟨m + 1, z, by omega, by simpa using h2, h3, fun m' z' hm hz => ?_⟩
      cases m' with
      | zero =>
        have : v = z' := by simpa using hz
        subst this
        rw [ev]
        simpa using he
      | succ m' => exact h4 m' z' (by omega) (by simpa using hz)
section
variable {X : Cx} {c : Fc} {i : Nat} {π : List Nat} {ios : List (Option Nat)}
theorem de_appP {e a : Expr} {g : Env → RE (List O)} {apos cpos : Pos} (hK : X.K = c.K) (he : DPl X c e i π) (ha : DA X c true ios [a] g)
    (hbase : attributeBase e "append" X.env (eval e X.env) = eval e X.env := by rfl)
    (hfew : ((backTo cpos (starEach [a] X.env)).all (fun x => !x.1) && (backToKw cpos (keywordEach [] X.env)).all (fun x => x.1.isSome)
      && decide (([a] : List Expr).length + ([] : List Keyword).length + (if ([] : List Keyword).isEmpty then 0 else 1) < 30)) = true := by rfl)
    (hline : (apos.endLine == cpos.line) = true := by rfl) (hs : starEach [a] X.env = (false, eval a X.env) :: starEach [] X.env := by rfl) (hplain : (backTo cpos (starEach [] X.env)).any (·.1) = false := by rfl) :
    DE X c false (.Call (.Attribute e "append" apos) [a] [] cpos) (kAppP i π g) := by
  refine ⟨Pu.no, (pe_bm PySem.F.plainAttrs_list PySem.F.slot_list_append PySem.F.type_list_append mt_append he.run ha.run hbase hfew hline hs hplain).weak fun σ H Q ⟨env, ts, us, R, q⟩ => ?_⟩
  unfold kAppP at q
  split at q
  · rename_i xs0 eg0
    refine ⟨env, ts, us, _, R, eg0, fun w hw => ?_⟩
    obtain ⟨p, vs0, h, F, fx, ft, ev, hp, ho, f, rx, rt, put⟩ := R.mut eg0
    have : w = .ref p := Option.some.inj (hw.symm.trans ev)
    subst this
    have ho' : h = .lst vs0 := ho
    subst ho'
    refine ⟨Or.inl ⟨rfl, vs0, by rw [hK]; exact SqL.of hp⟩, env, ts, us, R, ?_⟩
    unfold RE.bind at q
    cases e1 : g env with
    | no => rw [e1] at q; exact q.elim
    | err x en => rw [e1] at q; exact fun H' R' => q H' R'
    | ok os en =>
      have := ha.pure rfl _ _ _ e1
      subst this
      rw [e1] at q
      simp only at q
      intro vs H1 R1 hl _ _ x1
      split at q
      · rename_i o xs eg
        match vs, hl with
        | [v], _ =>
          split at q
          · rename_i hk
            have R1' : Rp c en σ (o :: ts) (v :: us) H1 := R1
            obtain ⟨p', vs1, h1, F1, fx1, ft1, ev1, hp1, ho1, f1, rx1, rt1, put1⟩ := R1'.mut eg
            rw [valP_ex (x1 rfl) ev] at ev1
            cases ev1
            have ho1' : h1 = .lst vs1 := ho1
            subst ho1'
            have hl1 := rx1.length
            refine ⟨p, vs1, v, rfl, rfl, hp1, Nat.lt_of_lt_of_le (by omega) (sz_ok (n := 1000000) (Nat.le_refl _)), ?_⟩
            cases rt1 with
            | cons ro rt1 =>
              rename_i f11 f2
              obtain ⟨fx', r', sb⟩ := ROs.appTop ro rx1
              refine q .non _ (Rp.push (put1 .lst _ _ _ fx' ts us f2 rfl r' rt1 ?_) fun F _ => .non) (fun h => by cases h)
              refine (sb.app (.refl f2)).trans ?_
              rw [List.append_assoc]
              exact Sub.swap f11 fx1 f2
          · exact q.elim
      · exact q.elim
  · exact q.elim
theorem de_popP {e a : Expr} {g : Env → RE (List O)} {apos cpos : Pos} (hK : X.K = c.K) (he : DPl X c e i π) (ha : DA X c true ios [a] g)
    (hbase : attributeBase e "pop" X.env (eval e X.env) = eval e X.env := by rfl)
    (hfew : ((backTo cpos (starEach [a] X.env)).all (fun x => !x.1) && (backToKw cpos (keywordEach [] X.env)).all (fun x => x.1.isSome)
      && decide (([a] : List Expr).length + ([] : List Keyword).length + (if ([] : List Keyword).isEmpty then 0 else 1) < 30)) = true := by rfl)
    (hline : (apos.endLine == cpos.line) = true := by rfl) (hs : starEach [a] X.env = (false, eval a X.env) :: starEach [] X.env := by rfl) (hplain : (backTo cpos (starEach [] X.env)).any (·.1) = false := by rfl) :
    DE X c false (.Call (.Attribute e "pop" apos) [a] [] cpos) (kPopP i π g) := by
  refine ⟨Pu.no, (pe_bm PySem.F.plainAttrs_list PySem.F.slot_list_pop PySem.F.type_list_pop mt_popAt he.run ha.run hbase hfew hline hs hplain).weak fun σ H Q ⟨env, ts, us, R, q⟩ => ?_⟩
  unfold kPopP at q
  split at q
  · rename_i xs0 eg0
    refine ⟨env, ts, us, _, R, eg0, fun w hw => ?_⟩
    obtain ⟨p, vs0, h, F, fx, ft, ev, hp, ho, f, rx, rt, put⟩ := R.mut eg0
    have : w = .ref p := Option.some.inj (hw.symm.trans ev)
    subst this
    have ho' : h = .lst vs0 := ho
    subst ho'
    refine ⟨Or.inl ⟨rfl, vs0, by rw [hK]; exact SqL.of hp⟩, env, ts, us, R, ?_⟩
    unfold RE.bind at q
    cases e1 : g env with
    | no => rw [e1] at q; exact q.elim
    | err x en => rw [e1] at q; exact fun H' R' => q H' R'
    | ok os en =>
      have := ha.pure rfl _ _ _ e1
      subst this
      rw [e1] at q
      simp only at q
      intro vs H1 R1 hl _ _ x1
      split at q
      · rename_i j xs eg
        match vs, hl with
        | [v], _ =>
          split at q
          · rename_i k ek
            split at q
            · rename_i d ed
              split at q
              · rename_i hj
                have R1' : Rp c en σ (.dat (.int j) :: ts) (v :: us) H1 := R1
                obtain ⟨p', vs1, h1, F1, fx1, ft1, ev1, hp1, ho1, f1, rx1, rt1, put1⟩ := R1'.mut eg
                rw [valP_ex (x1 rfl) ev] at ev1
                cases ev1
                have ho1' : h1 = .lst vs1 := ho1
                subst ho1'
                have hl1 := rx1.length
                obtain ⟨y, ey, ry⟩ := rx1.at' ed
                cases rt1 with
                | cons ro rt1 =>
                  rename_i f11 f2
                  cases ro with
                  | dat ro =>
                    cases ro
                    rw [hl1] at ek
                    refine ⟨p, vs1, j, k, y, rfl, rfl, hp1, by omega, by omega, seq_ix ek, ey, ?_⟩
                    obtain ⟨fx', r', sb⟩ := ROs.erase k rx1
                    exact q y _ (put1 .lst _ _ _ fx' (.dat d :: ts) (y :: us) f2 rfl r' (.cons (f1 := []) (.dat ry) rt1) (sb.app (.refl f2))) (fun h => by cases h)
              · exact q.elim
            · exact q.elim
          · exact q.elim
      · exact q.elim
  · exact q.elim
theorem de_idxP {e a : Expr} {g : Env → RE (List O)} {apos cpos : Pos} (hK : X.K = c.K) (he : DPl X c e i π) (ha : DA X c true ios [a] g)
    (hbase : attributeBase e "index" X.env (eval e X.env) = eval e X.env := by rfl)
    (hfew : ((backTo cpos (starEach [a] X.env)).all (fun x => !x.1) && (backToKw cpos (keywordEach [] X.env)).all (fun x => x.1.isSome)
      && decide (([a] : List Expr).length + ([] : List Keyword).length + (if ([] : List Keyword).isEmpty then 0 else 1) < 30)) = true := by rfl)
    (hline : (apos.endLine == cpos.line) = true := by rfl) (hs : starEach [a] X.env = (false, eval a X.env) :: starEach [] X.env := by rfl) (hplain : (backTo cpos (starEach [] X.env)).any (·.1) = false := by rfl) :
    DE X c true (.Call (.Attribute e "index" apos) [a] [] cpos) (kIdxP i π g) := by
  refine ⟨fun _ env o env' q => ?_, (pe_bm PySem.F.plainAttrs_list PySem.F.slot_list_index PySem.F.type_list_index mt_index he.run ha.run hbase hfew hline hs hplain).weak fun σ H Q ⟨env, ts, us, R, q⟩ => ?_⟩
  · unfold kIdxP at q
    split at q
    · unfold RE.bind at q
      cases e1 : g env with
      | no => simp only [e1] at q; cases q
      | err x en => simp only [e1] at q; cases q
      | ok os en =>
        have := ha.pure rfl _ _ _ e1
        subst this
        simp only [e1] at q
        split at q
        · split at q
          · split at q
            · cases q; rfl
            · cases q
          · cases q
        · cases q
    · cases q
  unfold kIdxP at q
  split at q
  · rename_i xs0 eg0
    refine ⟨env, ts, us, _, R, eg0, fun w hw => ?_⟩
    obtain ⟨p, vs0, h, F, fx, ft, ev, hp, ho, f, rx, rt, put⟩ := R.mut eg0
    have : w = .ref p := Option.some.inj (hw.symm.trans ev)
    subst this
    have ho' : h = .lst vs0 := ho
    subst ho'
    refine ⟨Or.inl ⟨rfl, vs0, by rw [hK]; exact SqL.of hp⟩, env, ts, us, R, ?_⟩
    unfold RE.bind at q
    cases e1 : g env with
    | no => rw [e1] at q; exact q.elim
    | err x en => rw [e1] at q; exact fun H' R' => q H' R'
    | ok os en =>
      have := ha.pure rfl _ _ _ e1
      subst this
      rw [e1] at q
      simp only at q
      intro vs H1 R1 hl _ _ x1
      split at q
      · rename_i d ds eg
        match vs, hl with
        | [v], _ =>
          split at q
          · rename_i hfl
            split at q
            · rename_i k ek
              obtain ⟨o, eo, ed⟩ := Option.bind_eq_some_iff.mp eg
              have R1' : Rp c en σ (.dat d :: ts) (v :: us) H1 := R1
              obtain ⟨v', ev1, rv⟩ := R1'.peek eo ed
              rw [valP_ex (x1 rfl) ev] at ev1
              cases ev1
              obtain ⟨F', f', ry, _⟩ := Rp.dat R1'
              cases rv with
              | lst h1 h2 =>
                rename_i ws
                obtain ⟨m, z, e1, e2, e3, e4⟩ := findD_at (f'.sub.dp _ _ ry) hfl.1 h2 hfl.2 ek
                rw [Nat.zero_add] at e1
                subst e1
                exact ⟨p, ws, v, k, z, rfl, rfl, by rw [hK]; exact SqL.of h1, flat_dv ry hfl.1, flats_dv h2 hfl.2, e2, e3, e4, q _ H1 (R1'.pop.push fun F _ => .int _) fun _ => x1 rfl⟩
            · exact q.elim
          · exact q.elim
      · exact q.elim
  · exact q.elim
end
end DP
end

section
namespace DP
open PySem PySem.Spec PyProof.Rows L2
/-! ### dicts whose keys are ints, frozen data as values -/
def dI (kvs : List (Int × PyData)) : O := .node (.dic (kvs.map fun p => Sum.inl p.1)) (kvs.map fun p => .dat p.2)
def dkv : List Key → List O → Option (List (Int × PyData))
  | [], [] => some []
  | .inl n :: ks, .dat d :: xs => (dkv ks xs).map ((n, d) :: ·)
  | _, _ => none
def O.dic : O → Option (List (Int × PyData))
  | .node (.dic ks) xs => dkv ks xs
  | _ => none
theorem dkv_eq : ∀ {ks : List Key} {xs : List O} {kvs : List (Int × PyData)}, dkv ks xs = some kvs → ks = kvs.map (fun p => Sum.inl p.1) ∧ xs = kvs.map (fun p => O.dat p.2)
  | [], [], kvs, h => by cases h; exact ⟨rfl, rfl⟩
  | [], _ :: _, kvs, h => by cases h
  | .inr _ :: _, _, kvs, h => by cases h
  | .inl n :: ks, [], kvs, h => by cases h
  | .inl n :: ks, o :: xs, kvs, h => by
    cases o with
    | dat d =>
      unfold dkv at h
      cases e : dkv ks xs with
      | none => rw [e] at h; cases h
      | some l =>
        rw [e] at h
        cases h
        obtain ⟨a, b⟩ := dkv_eq e
        rw [a, b]
        exact ⟨rfl, rfl⟩
    | _ => cases h
theorem dkv_map : ∀ kvs : List (Int × PyData), dkv (kvs.map (fun p => Sum.inl p.1)) (kvs.map (fun p => O.dat p.2)) = some kvs
  | [] => rfl
  | p :: kvs => by
    show (dkv (kvs.map (fun p => Sum.inl p.1)) (kvs.map (fun p => O.dat p.2))).map ((p.1, p.2) :: ·) = _
    rw [dkv_map kvs]
    rfl
theorem dic_dI (kvs : List (Int × PyData)) : (dI kvs).dic = some kvs := dkv_map kvs
theorem dic_eq {o : O} {kvs : List (Int × PyData)} (h : o.dic = some kvs) : o = dI kvs := by
  cases o with
  | any => cases h
  | dat d => cases h
  | node s xs =>
    cases s with
    | dic ks =>
      obtain ⟨a, b⟩ := dkv_eq h
      rw [a, b]
      rfl
    | _ => cases h
def getI (kvs : List (Int × PyData)) (n : Int) : Option PyData := (kvs.find? fun p => decide (p.1 = n)).map (·.2)
def putI (kvs : List (Int × PyData)) (n : Int) (d : PyData) : List (Int × PyData) := if (kvs.any fun p => decide (p.1 = n)) = true then kvs.map (fun p => if p.1 = n then (p.1, d) else p) else kvs ++ [(n, d)]
def dropI (kvs : List (Int × PyData)) (n : Int) : List (Int × PyData) := kvs.filter fun p => decide (p.1 ≠ n)
inductive DKV (K : Frag) (F : Hp) : List (Key × V) → List (Int × PyData) → Prop
  | nil : DKV K F [] []
  | cons {n : Int} {v : V} {d : PyData} {l : List (Key × V)} {kvs : List (Int × PyData)} : DR K F v d → DKV K F l kvs → DKV K F ((.inl n, v) :: l) ((n, d) :: kvs)
section
variable {K : Frag} {F : Hp}
theorem DKV.of : ∀ {kvs : List (Int × PyData)} {vs : List V}, DRs K F vs (kvs.map (·.2)) → DKV K F ((kvs.map fun p => (Sum.inl p.1 : Key)).zip vs) kvs
  | [], _, h => by cases h; exact .nil
  | p :: kvs, _, h => by
    cases h with
    | cons h1 h2 => exact .cons h1 (DKV.of h2)
theorem DKV.to : ∀ {l : List (Key × V)} {kvs : List (Int × PyData)}, DKV K F l kvs → ∃ vs, l = (kvs.map fun p => (Sum.inl p.1 : Key)).zip vs ∧ kvs.length = vs.length ∧ DRs K F vs (kvs.map (·.2))
  | _, _, .nil => ⟨[], rfl, rfl, .nil⟩
  | _, _, .cons r t => by
    obtain ⟨vs, e, hl, h⟩ := DKV.to t
    exact ⟨_ :: vs, by rw [e]; rfl, by simp [hl], .cons r h⟩
theorem DKV.length : ∀ {l : List (Key × V)} {kvs : List (Int × PyData)}, DKV K F l kvs → l.length = kvs.length
  | _, _, .nil => rfl
  | _, _, .cons r t => by simp [DKV.length t]
theorem DKV.get : ∀ {l : List (Key × V)} {kvs : List (Int × PyData)} (n : Int), DKV K F l kvs → match getI kvs n with
    | some d => ∃ v, valV l (Sum.inl n) = some v ∧ DR K F v d
    | none => valV l (Sum.inl n) = none
  | _, _, n, .nil => rfl
  | _, _, n, .cons (n := m) (v := v) (d := d) (l := l) (kvs := kvs) r t => by
    have ih := DKV.get n t
    by_cases e : m = n
    · subst e
      have h1 : getI ((m, d) :: kvs) m = some d := by simp [getI, List.find?_cons]
      rw [h1]
      exact ⟨v, valV_pos rfl, r⟩
    · have h1 : getI ((m, d) :: kvs) n = getI kvs n := by simp [getI, List.find?_cons, e]
      have h2 : valV ((Sum.inl m, v) :: l) (Sum.inl n : Key) = valV l (Sum.inl n) := valV_neg (fun z => e (Sum.inl.inj z))
      rw [h1, h2]
      exact ih
theorem DKV.any : ∀ {l : List (Key × V)} {kvs : List (Int × PyData)} (n : Int), DKV K F l kvs → (l.any fun kv => decide (kv.1 = Sum.inl n)) = kvs.any fun p => decide (p.1 = n)
  | _, _, n, .nil => rfl
  | _, _, n, .cons (n := m) (v := v) (d := d) (l := l) (kvs := kvs) r t => by
    rw [List.any_cons, List.any_cons, DKV.any n t]
    congr 1
    exact decide_eq_decide.mpr ⟨fun z => Sum.inl.inj z, fun z => congrArg Sum.inl z⟩
theorem DKV.repl {n : Int} {v : V} {d : PyData} (r : DR K F v d) : ∀ {l : List (Key × V)} {kvs : List (Int × PyData)}, DKV K F l kvs → DKV K F (l.map fun kv => if kv.1 = Sum.inl n then (kv.1, v) else kv) (kvs.map fun p => if p.1 = n then (p.1, d) else p)
  | _, _, .nil => .nil
  | _, _, .cons (n := m) (v := u) (d := e) (l := l) (kvs := kvs) r' t => by
    rw [List.map_cons, List.map_cons]
    by_cases q : m = n
    · subst q
      simp only [if_true]
      exact .cons r (DKV.repl r t)
    · have q' : ¬ (Sum.inl m : Key) = Sum.inl n := fun z => q (Sum.inl.inj z)
      simp only [if_neg q, if_neg q']
      exact .cons r' (DKV.repl r t)
theorem DKV.snoc {n : Int} {v : V} {d : PyData} (r : DR K F v d) : ∀ {l : List (Key × V)} {kvs : List (Int × PyData)}, DKV K F l kvs → DKV K F (l ++ [(Sum.inl n, v)]) (kvs ++ [(n, d)])
  | _, _, .nil => .cons r .nil
  | _, _, .cons r' t => .cons r' (DKV.snoc r t)
theorem DKV.put {n : Int} {v : V} {d : PyData} {l : List (Key × V)} {kvs : List (Int × PyData)} (t : DKV K F l kvs) (r : DR K F v d) : DKV K F (putK l (Sum.inl n) v) (putI kvs n d) := by
  unfold putK putI
  rw [t.any n]
  split
  · exact t.repl r
  · exact t.snoc r
theorem DKV.drop {n : Int} : ∀ {l : List (Key × V)} {kvs : List (Int × PyData)}, DKV K F l kvs → DKV K F (dropK l (Sum.inl n)) (dropI kvs n)
  | _, _, .nil => .nil
  | _, _, .cons (n := m) (v := u) (d := e) (l := l) (kvs := kvs) r' t => by
    have ih := DKV.drop (n := n) t
    unfold dropK dropI at ih ⊢
    by_cases q : m = n
    · subst q
      rw [List.filter_cons_of_neg (by simp), List.filter_cons_of_neg (by simp)]
      exact ih
    · have q' : ¬ (Sum.inl m : Key) = Sum.inl n := fun z => q (Sum.inl.inj z)
      rw [List.filter_cons_of_pos (by simpa using q'), List.filter_cons_of_pos (by simpa using q)]
      exact .cons r' ih
theorem DKV.ex {F' : Hp} (x : Ex F F') : ∀ {l : List (Key × V)} {kvs : List (Int × PyData)}, DKV K F l kvs → DKV K F' l kvs
  | _, _, .nil => .nil
  | _, _, .cons r t => .cons (x.dp _ _ r) (DKV.ex x t)
theorem DKV.keys : ∀ {l : List (Key × V)} {kvs : List (Int × PyData)}, DKV K F l kvs → l.map (·.1) = (kvs.map (·.1)).map Sum.inl
  | _, _, .nil => rfl
  | _, _, .cons r t => by simp [DKV.keys t]
end
theorem DKV.ro {K : Frag} {F H : Hp} {p : Addr} {l : List (Key × V)} {kvs : List (Int × PyData)} (t : DKV K F l kvs) (hF : F p = none) (hH : H p = some (.dK l)) : RO K F H (dI kvs) (.ref p) [p] := by
  obtain ⟨vs, e, hl, r⟩ := t.to
  subst e
  have r2 : ROs K F H ((kvs.map (·.2)).map .dat) vs [] := dpAll_os r
  rw [List.map_map] at r2
  exact .node hF hH ⟨by simpa using hl, rfl⟩ r2
section
variable {c : Fc} {env : Env} {σ : L2.St} {ts : List O} {us : List V} {H : Hp} {i : Nat} {π : List Nat}
/-- a dict at a place -/
theorem Rp.dictAt {kvs : List (Int × PyData)} (R : Rp c env σ ts us H) (hg : getP env i π = some (dI kvs)) : ∃ p l F ft, valP H σ i π = some (.ref p) ∧ H p = some (.dK l) ∧ Fr c F H ∧ DKV c.K F l kvs ∧ ROs c.K F H ts us ft ∧ (∀ ws ds, DRs c.K F ws ds → Rp c env σ (ds.map .dat ++ ts) (ws ++ us) H) ∧
    ∀ (l' : List (Key × V)) (kvs' : List (Int × PyData)) (ts' : List O) (us' : List V) (ft' : List Addr), DKV c.K F l' kvs' → ROs c.K F H ts' us' ft' → Sub ft' ft → Rp c (putP env i π (dI kvs')) σ ts' us' (upd H p (.dK l')) := by
  have R0 := R
  obtain ⟨v, F, fo, fr, ft, ev, f, ro, t, nd, nw, ow, put⟩ := R.focus hg
  obtain ⟨p, vs, h, F2, fx, ft2, ev2, hp, ho, f2, rx, rt, mu⟩ := R0.mut (s := .dic (kvs.map fun p => Sum.inl p.1)) (xs := kvs.map fun p => .dat p.2) hg
  obtain ⟨hl, rfl⟩ := ho
  have rx' : ROs c.K F2 H ((kvs.map (·.2)).map .dat) vs fx := by rw [List.map_map]; exact rx
  obtain ⟨r, rfl⟩ := drs_of rx'
  refine ⟨p, _, F2, ft2, ev2, hp, f2, .of r, rt, fun ws ds rd => ?_, fun l' kvs' ts' us' ft' t' rt' sb => ?_⟩
  · have m := mu (.dic (kvs.map fun p => Sum.inl p.1)) (kvs.map fun p => .dat p.2) vs _ [] (ds.map .dat ++ ts) (ws ++ us) ft2 ⟨hl, rfl⟩ rx (by have q := (dpAll_os (F := F2) (H := H) rd).app rt; simpa using q) (Sub.refl _)
    rw [show O.node (.dic (kvs.map fun p => Sum.inl p.1)) (kvs.map fun p => .dat p.2) = dI kvs from rfl, putP_same hg] at m
    have e : upd H p (.dK ((kvs.map fun p => (Sum.inl p.1 : Key)).zip vs)) = H := by
      funext a
      by_cases z : a = p
      · subst z; rw [upd_same, hp]
      · rw [upd_ne z]
    rwa [e] at m
  · obtain ⟨ws, e, hl', r'⟩ := t'.to
    subst e
    have r2 : ROs c.K F2 H (kvs'.map fun p => O.dat p.2) ws [] := by
      have q : ROs c.K F2 H ((kvs'.map (·.2)).map .dat) ws [] := dpAll_os r'
      rwa [List.map_map] at q
    exact mu (.dic (kvs'.map fun p => Sum.inl p.1)) (kvs'.map fun p => .dat p.2) ws _ [] ts' us' ft' ⟨by simpa using hl', rfl⟩ r2 rt' sb
end
end DP
end

section
namespace DP
open PySem PySem.Spec PyProof.Rows L2
def dicP (env : Env) (i : Nat) (π : List Nat) : Option (List (Int × PyData)) := (getP env i π).bind O.dic
theorem dicP_eq {env : Env} {i : Nat} {π : List Nat} {kvs : List (Int × PyData)} (h : dicP env i π = some kvs) : getP env i π = some (dI kvs) := by
  obtain ⟨o, e1, e2⟩ := Option.bind_eq_some_iff.mp h
  rw [e1, dic_eq e2]
/-- e in place, e not in place -/
def kDIn (neg : Bool) (i : Nat) (π : List Nat) (f : EF) : EF := fun env => (f env).bind fun o e => match o, dicP e i π with
  | .dat (.int n), some kvs => .ok (.dat (.bool ((getI kvs n).isSome != neg))) e
  | _, _ => .no
/-- place[e] -/
def kDGet (i : Nat) (π : List Nat) (f : EF) : EF := fun env => match dicP env i π with
  | some _ => (f env).bind fun o e => match o, dicP e i π with
    | .dat (.int n), some kvs => match getI kvs n with
      | some d => .ok (.dat d) e
      | none => .no
    | _, _ => .no
  | none => .no
/-- place.get(e, x), both pure -/
def kDGet2 (i : Nat) (π : List Nat) (f g : EF) : EF := fun env => match dicP env i π with
  | some _ => (f env).bind fun o e => (g e).bind fun o2 e2 => match o, o2, dicP e2 i π with
    | .dat (.int n), .dat d, some kvs => .ok (.dat ((getI kvs n).getD d)) e2
    | _, _, _ => .no
  | none => .no
/-- place.pop(e), e pure -/
def kDPop (i : Nat) (π : List Nat) (f : EF) : EF := fun env => match dicP env i π with
  | some _ => (f env).bind fun o e => match o, dicP e i π with
    | .dat (.int n), some kvs => match getI kvs n with
      | some d => .ok (.dat d) (putP e i π (dI (dropI kvs n)))
      | none => .no
    | _, _ => .no
  | none => .no
/-- place[e] = v -/
def kDPut (i : Nat) (π : List Nat) (fv fk : EF) : Env → RS := fun env => (fv env).st fun o1 e1 => match dicP e1 i π with
  | some _ => (fk e1).st fun o2 e2 => match o1.toD, o2, dicP e2 i π with
    | some d, .dat (.int n), some kvs => if kvs.length < 1000000 then .nx (putP e2 i π (dI (putI kvs n d))) else .no
    | _, _, _ => .no
  | none => .no
def kDNew : EF := fun env => .ok (dI []) env
def kDCpy (i : Nat) (π : List Nat) : EF := fun env => match dicP env i π with
  | some kvs => .ok (dI kvs) env
  | none => .no
/-- sorting ints -/
def insZ (x : Int) : List Int → List Int
  | [] => [x]
  | y :: l => if y < x then y :: insZ x l else x :: y :: l
def sortZ : List Int → List Int
  | [] => []
  | x :: l => insZ x (sortZ l)
theorem insZ_perm (x : Int) : ∀ l, (insZ x l).Perm (x :: l)
  | [] => List.Perm.refl _
  | y :: l => by
    unfold insZ
    split
    · exact ((insZ_perm x l).cons y).trans (List.Perm.swap x y l)
    · exact List.Perm.refl _
theorem sortZ_perm : ∀ l, (sortZ l).Perm l
  | [] => List.Perm.refl _
  | x :: l => (insZ_perm x _).trans ((sortZ_perm l).cons x)
theorem insZ_le (x : Int) : ∀ {l}, l.Pairwise (· ≤ ·) → (insZ x l).Pairwise (· ≤ ·)
  | [], _ => List.pairwise_singleton _ _
  | y :: l, h => by
    obtain ⟨h1, h2⟩ := List.pairwise_cons.mp h
    unfold insZ
    split
    · rename_i z
      refine List.pairwise_cons.mpr ⟨fun u hu => ?_, insZ_le x h2⟩
      rcases List.mem_cons.mp ((insZ_perm x l).mem_iff.mp hu) with e | hu
      · omega
      · exact h1 u hu
    · rename_i z
      refine List.pairwise_cons.mpr ⟨fun u hu => ?_, h⟩
      rcases List.mem_cons.mp hu with e | hu
      · omega
      · have := h1 u hu; omega
theorem sortZ_le : ∀ l, (sortZ l).Pairwise (· ≤ ·)
  | [] => List.Pairwise.nil
  | x :: l => insZ_le x (sortZ_le l)
theorem sortZ_uniq : ∀ {l m : List Int}, l.Pairwise (· ≤ ·) → m.Pairwise (· ≤ ·) → l.Perm m → l = m
  | [], m, _, _, p => (List.Perm.eq_nil p.symm).symm
  | x :: l, [], _, _, p => absurd p.length_eq (by simp)
  | x :: l, y :: m, hl, hm, p => by
    obtain ⟨l1, l2⟩ := List.pairwise_cons.mp hl
    obtain ⟨m1, m2⟩ := List.pairwise_cons.mp hm
    have e : x = y := by
      have a : x ≤ y := by
        rcases List.mem_cons.mp (p.mem_iff.mpr List.mem_cons_self) with z | z
        · omega
        · exact l1 _ z
      have b : y ≤ x := by
        rcases List.mem_cons.mp (p.mem_iff.mp List.mem_cons_self) with z | z
        · omega
        · exact m1 _ z
      omega
    subst e
    rw [sortZ_uniq l2 m2 p.cons_inv]
def kDSrt (i : Nat) (π : List Nat) : EF := fun env => match dicP env i π with
  | some kvs => if kvs.length < 64 then .ok (.node .lst (((sortZ (kvs.map (·.1))).map .int).map .dat)) env else .no
  | none => .no
section
variable {X : Cx} {c : Fc} {i : Nat} {π : List Nat} {p1 : Bool}
theorem dget_at {K : Frag} {F H : Hp} {p : Addr} {l : List (Key × V)} {kvs : List (Int × PyData)} (t : DKV K F l kvs) (hp : H p = some (.dK l)) (n : Int) : DGet H p (.int n) (valV l (Sum.inl n)) := DGet.k (k := Sum.inl n) hp
theorem t_din {neg : Bool} {f : EF} {σ : L2.St} {H : Hp} {Q : VK} (q : tE c p1 (kDIn neg i π f) σ H Q) : tE c p1 f σ H fun y H1 => tP c i π σ H1 fun x H2 => ∃ a o, x = .ref a ∧ DGet H2 a y o ∧ Q (.bl (o.isSome != neg)) H2 := by
  obtain ⟨env, ts, us, R, q⟩ := q
  refine ⟨env, ts, us, R, ?_⟩
  unfold kDIn RE.bind at q
  cases e1 : f env with
  | no => rw [e1] at q; exact q.elim
  | err x en => rw [e1] at q; exact q
  | ok o1 en =>
    rw [e1] at q
    intro y H1 R1 x1
    simp only at q
    split at q
    · rename_i n kvs ek
      have eg := dicP_eq ek
      refine ⟨en, _, _, _, R1, eg, fun v hv => ?_⟩
      obtain ⟨p, l, F, ft, ev, hp, fr, t, rt, _, _⟩ := R1.dictAt eg
      rw [hv] at ev
      cases ev
      cases rt with
      | cons ro rt =>
        cases ro with
        | dat ro =>
          cases ro
          refine ⟨p, _, rfl, dget_at t hp n, ?_⟩
          have g := t.get n
          have e : (valV l (Sum.inl n)).isSome = (getI kvs n).isSome := by
            cases z : getI kvs n with
            | none => rw [z] at g; rw [g]; rfl
            | some d => rw [z] at g; obtain ⟨w, e, _⟩ := g; rw [e]; rfl
          rw [e]
          exact q _ H1 R1.pop.bpush x1
    · exact q.elim
theorem pu_din {neg : Bool} {f : EF} (h : Pu p1 f) : Pu p1 (kDIn neg i π f) := fun hp env o env' q => by
  unfold kDIn RE.bind at q
  cases e1 : f env with
  | no => simp only [e1] at q; cases q
  | err x en => simp only [e1] at q; cases q
  | ok o2 en =>
    simp only [e1] at q
    have z := h hp _ _ _ e1
    subst z
    split at q
    · cases q; rfl
    · cases q
theorem de_din {e d : Expr} {f : EF} {pos : Pos} (hu : X.A.units + 1 < cLine) (he : DE X c p1 e f) (hd : DPl X c d i π) (hm : behindInMarks .In d = false := by rfl) : DE X c p1 (.Compare e [.In] [d] pos) (kDIn false i π f) :=
  ⟨pu_din he.pure, (pe_cmp (pc_din hu he.run hd.run) hm).weak fun σ H Q q => by
    have := t_din q
    simpa [tDIn] using this⟩
theorem de_dnin {e d : Expr} {f : EF} {pos : Pos} (hu : X.A.units + 1 < cLine) (he : DE X c p1 e f) (hd : DPl X c d i π) (hm : behindInMarks .NotIn d = false := by rfl) : DE X c p1 (.Compare e [.NotIn] [d] pos) (kDIn true i π f) :=
  ⟨pu_din he.pure, (pe_cmp (pc_dnotin hu he.run hd.run) hm).weak fun σ H Q q => by
    have := t_din q
    simpa [tDNotIn] using this⟩
theorem de_dget {e d : Expr} {f : EF} {pos : Pos} (hu : X.A.units + 1 < cLine) (hd : DPl X c d i π) (he : DE X c true e f) (hs : NoSl e) : DE X c true (.Subscript d e pos) (kDGet i π f) := by
  refine ⟨fun _ env o env' q => ?_, (pe_dget hu hd.run he.run hs).weak fun σ H Q ⟨env, ts, us, R, q⟩ => ?_⟩
  · unfold kDGet at q
    split at q
    · unfold RE.bind at q
      cases e1 : f env with
      | no => simp only [e1] at q; cases q
      | err x en => simp only [e1] at q; cases q
      | ok o2 en =>
        simp only [e1] at q
        have z := he.pure rfl _ _ _ e1
        subst z
        split at q
        · split at q
          · cases q; rfl
          · cases q
        · cases q
    · cases q
  · unfold kDGet at q
    split at q
    · rename_i kvs0 ek0
      refine ⟨env, ts, us, _, R, dicP_eq ek0, fun w hw => ⟨env, ts, us, R, ?_⟩⟩
      unfold RE.bind at q
      cases e1 : f env with
      | no => rw [e1] at q; exact q.elim
      | err x en => rw [e1] at q; exact q
      | ok o1 en =>
        have z := he.pure rfl _ _ _ e1
        subst z
        rw [e1] at q
        intro y H1 R1 x1
        simp only at q
        split at q
        · rename_i n kvs ek
          split at q
          · rename_i d ed
            obtain ⟨p, l, F, ft, ev, hp, fr, t, rt, ps, _⟩ := R1.pop.dictAt (dicP_eq ek)
            rw [valP_ex (x1 rfl) hw] at ev
            cases ev
            obtain ⟨_, _, ry, _⟩ := Rp.dat R1
            cases ry
            have g := t.get n
            rw [ed] at g
            obtain ⟨v, e, rv⟩ := g
            exact ⟨p, v, rfl, e ▸ dget_at t hp n, q v H1 (ps [v] [d] (.cons rv .nil)) x1⟩
          · exact q.elim
        · exact q.elim
    · exact q.elim
theorem de_dget2 {e x d : Expr} {f g : EF} {apos cpos : Pos} (hu : X.A.units + 1 < cLine) (hd : DPl X c d i π) (he : DE X c true e f) (hx : DE X c true x g) (m : M2 X d "get" apos e x cpos) : DE X c true (.Call (.Attribute d "get" apos) [e, x] [] cpos) (kDGet2 i π f g) := by
  refine ⟨fun _ env o env' q => ?_, (pe_dget2 hu hd.run he.run hx.run m).weak fun σ H Q ⟨env, ts, us, R, q⟩ => ?_⟩
  · unfold kDGet2 at q
    split at q
    · unfold RE.bind at q
      cases e1 : f env with
      | no => simp only [e1] at q; cases q
      | err x en => simp only [e1] at q; cases q
      | ok o2 en =>
        simp only [e1] at q
        have z := he.pure rfl _ _ _ e1
        subst z
        cases e2 : g en with
        | no => simp only [e2] at q; cases q
        | err x en => simp only [e2] at q; cases q
        | ok o3 en3 =>
          simp only [e2] at q
          have z := hx.pure rfl _ _ _ e2
          subst z
          split at q
          · cases q; rfl
          · cases q
    · cases q
  · unfold kDGet2 at q
    split at q
    · rename_i kvs0 ek0
      refine ⟨env, ts, us, _, R, dicP_eq ek0, fun w hw => ?_⟩
      obtain ⟨p0, l0, F0, ft0, ev0, hp0, fr0, t0, rt0, ps0, _⟩ := R.dictAt (dicP_eq ek0)
      rw [hw] at ev0
      cases ev0
      refine ⟨p0, rfl, .inl ⟨l0, .inl hp0⟩, env, ts, us, R, ?_⟩
      unfold RE.bind at q
      cases e1 : f env with
      | no => rw [e1] at q; exact q.elim
      | err x en => rw [e1] at q; exact q
      | ok o1 en =>
        have z := he.pure rfl _ _ _ e1
        subst z
        rw [e1] at q
        intro y H1 R1 x1
        simp only at q
        refine ⟨en, _, _, R1, ?_⟩
        cases e2 : g en with
        | no => rw [e2] at q; exact q.elim
        | err x en => rw [e2] at q; exact fun H' R' => q H' R'.pop
        | ok o3 en3 =>
          have z := hx.pure rfl _ _ _ e2
          subst z
          rw [e2] at q
          intro z H2 R2 x2
          simp only at q
          split at q
          · rename_i n d kvs ek
            obtain ⟨p, l, F, ft, ev, hp, fr, t, rt, ps, _⟩ := R2.pop.pop.dictAt (dicP_eq ek)
            rw [valP_ex (x2 rfl) (valP_ex (x1 rfl) hw)] at ev
            cases ev
            obtain ⟨_, _, ry, _⟩ := Rp.dat R2.pop
            cases ry
            refine ⟨_, dget_at t hp n, ?_⟩
            have gg := t.get n
            have xx : true = true → Ex H H2 := fun _ => (x1 rfl).trans (x2 rfl)
            cases zz : getI kvs n with
            | none =>
              rw [zz] at gg q
              rw [gg]
              have R3 : Rp c en3 σ (.dat d :: ts) (z :: us) H2 := Rp.under (xs := [.dat (.int n)]) (vs := [.int n]) R2 rfl
              exact q _ H2 R3 xx
            | some e =>
              rw [zz] at gg q
              obtain ⟨v, e', rv⟩ := gg
              rw [e']
              exact q _ H2 (ps [v] [e] (.cons rv .nil)) xx
          · exact q.elim
    · exact q.elim
theorem de_dpop {e d : Expr} {f : EF} {apos cpos : Pos} (hd : DPl X c d i π) (he : DE X c true e f) (m : M1 X d "pop" apos e cpos) : DE X c false (.Call (.Attribute d "pop" apos) [e] [] cpos) (kDPop i π f) := by
  refine ⟨Pu.no, (pe_dpop1 hd.run he.run m).weak fun σ H Q ⟨env, ts, us, R, q⟩ => ?_⟩
  unfold kDPop at q
  split at q
  · rename_i kvs0 ek0
    refine ⟨env, ts, us, _, R, dicP_eq ek0, fun w hw => ?_⟩
    obtain ⟨p0, l0, F0, ft0, ev0, hp0, fr0, t0, rt0, ps0, _⟩ := R.dictAt (dicP_eq ek0)
    rw [hw] at ev0
    cases ev0
    refine ⟨p0, rfl, .inl ⟨l0, .inl hp0⟩, env, ts, us, R, ?_⟩
    unfold RE.bind at q
    cases e1 : f env with
    | no => rw [e1] at q; exact q.elim
    | err x en => rw [e1] at q; exact q
    | ok o1 en =>
      have z := he.pure rfl _ _ _ e1
      subst z
      rw [e1] at q
      intro y H1 R1 x1
      simp only at q
      split at q
      · rename_i n kvs ek
        split at q
        · rename_i d' ed
          obtain ⟨p, l, F, ft, ev, hp, fr, t, rt, ps, mu⟩ := R1.pop.dictAt (dicP_eq ek)
          rw [valP_ex (x1 rfl) hw] at ev
          cases ev
          obtain ⟨_, _, ry, _⟩ := Rp.dat R1
          cases ry
          have g := t.get n
          rw [ed] at g
          obtain ⟨v, e, rv⟩ := g
          exact ⟨l, .inl n, v, hp, rfl, e, q v _ (mu _ _ (.dat d' :: ts) (v :: us) ft t.drop (.cons (f1 := []) (.dat rv) rt) (Sub.refl _)) fun z => nomatch z⟩
        · exact q.elim
      · exact q.elim
  · exact q.elim
theorem de_dnew {pos : Pos} : DE X c false (.Dict [] [] pos) kDNew := ⟨Pu.no, pe_dnewK.weak fun σ H Q ⟨env, ts, us, R, q⟩ => fun p hp => q _ _ (Rp.mk (xs := []) (vs := []) R rfl hp ⟨rfl, rfl⟩) fun z => nomatch z⟩
/-- place[e] = v, e pure -/
theorem ds_dput {d e a : Expr} {fv fk : EF} {pos pos' : Pos} (hu : X.A.units + 1 < cLine) (hv : DE X c p1 a fv) (hd : DPl X c d i π) (he : DE X c true e fk) (hs : swapsWith a (some (.Subscript d e pos')) pos.line X.env = pure false := by rfl) :
    DS X c (.Assign [.Subscript d e pos'] a pos) (kDPut i π fv fk) := by
  refine ⟨(ps_dput hu hd.run he.run hv.run hs).weak fun D σ H ⟨env, ts, us, R, q⟩ => ⟨env, ts, us, R, ?_⟩⟩
  unfold kDPut RE.st at q
  cases e1 : fv env with
  | no => rw [e1] at q; exact q.elim
  | err x en => rw [e1] at q; exact fun H' R' => q σ H' R'
  | ok o1 en =>
    rw [e1] at q
    intro v H1 R1 _
    simp only at q
    split at q
    · rename_i kvs0 ek0
      refine ⟨en, _, _, _, R1, dicP_eq ek0, fun w hw => ⟨en, _, _, R1, ?_⟩⟩
      cases e2 : fk en with
      | no => rw [e2] at q; exact q.elim
      | err x en => rw [e2] at q; exact fun H' R' => q σ H' R'.pop
      | ok o2 en2 =>
        have z := he.pure rfl _ _ _ e2
        subst z
        rw [e2] at q
        intro y H2 R2 x2
        simp only at q
        split at q
        · rename_i dv n kvs ed ek
          split at q
          · rename_i hk
            have R3 : Rp c en2 σ (.dat dv :: .dat (.int n) :: ts) (v :: y :: us) H2 := (Rp.turn (xs := [.dat (.int n)]) (vs := [y]) R2 rfl).freeze ed
            obtain ⟨p, l, F, ft, ev, hp, fr, t, rt, ps, mu⟩ := R3.dictAt (dicP_eq ek)
            rw [valP_ex (x2 rfl) hw] at ev
            cases ev
            cases rt with
            | cons r1 rt =>
              cases rt with
              | cons r2 rt =>
                cases r1 with
                | dat r1 =>
                  cases r2 with
                  | dat r2 =>
                    cases r2
                    exact ⟨p, _, rfl, DPut.k (k := Sum.inl n) hp (by rw [t.length]; exact Nat.lt_of_lt_of_le hk (sz_ok (n := 1000000) (Nat.le_refl _))), q σ _ (mu _ _ ts us _ (t.put r1) rt (Sub.refl _))⟩
          · exact q.elim
        · exact q.elim
    · exact q.elim
theorem de_dcpy {e : Expr} {p pos : Pos} (hg : Gl X "dict") (hm : X.mg "dict" = none) (ha : DPl X c e i π) (hs : starEach [e] X.env = (false, eval e X.env) :: starEach [] X.env := by rfl) (hpl : (backTo pos (starEach [] X.env)).any (·.1) = false := by rfl) :
    DE X c false (.Call (.Name "dict" p) [e] [] pos) (kDCpy i π) := by
  have hc : CallR X (.type "dict") (fun xs H Q => ∃ (a : Addr) (l : List (Key × V)), xs = [.ref a] ∧ H a = some (.dK l) ∧ ∀ p, H p = none → Q (.ref p) (upd H p (.dK l))) := by
    intro pins s σ H xs us Q I r ⟨a, l, ex, hd, q⟩
    subst ex
    obtain ⟨u, rfl, ru⟩ := vals1 r
    obtain rfl : u = Value.ref a := ru
    exact d_copyOf I (.inl hd) fun p s' hp I' => ⟨.ref p, _, I', rfl, q p hp⟩
  refine ⟨Pu.no, (pe_callTy hc hg hm (by decide +kernel) (pa_cons ha.run pa_nil hs) (by decide) (by decide) hs hpl).weak fun σ H Q ⟨env, ts, us, R, q⟩ => ?_⟩
  unfold kDCpy at q
  split at q
  · rename_i kvs ek
    refine ⟨env, ts, us, _, R, dicP_eq ek, fun w hw => ?_⟩
    obtain ⟨p', l, F, ft, ev, hp, fr, t, rt, ps, _⟩ := R.dictAt (dicP_eq ek)
    rw [hw] at ev
    cases ev
    refine ⟨p', l, rfl, hp, fun p2 hp2 => ?_⟩
    obtain ⟨vs, el, hl, r⟩ := t.to
    have R2 : Rp c env σ ((kvs.map fun p => O.dat p.2) ++ ts) (vs ++ us) H := by
      have q := ps vs _ r
      rwa [List.map_map] at q
    subst el
    have hl1 : (kvs.map fun p => O.dat p.2).length = vs.length := by rw [List.length_map]; exact hl
    have hl2 : (kvs.map fun p => (Sum.inl p.1 : Key)).length = vs.length := by rw [List.length_map]; exact hl
    have R3 := Rp.mk (s := .dic (kvs.map fun p => Sum.inl p.1)) R2 hl1 hp2 ⟨hl2, rfl⟩
    exact q _ _ R3 fun z => nomatch z
  · exact q.elim
end
end DP
end

section
namespace DP
open PySem PySem.Spec PyProof.Rows L2
section
variable {X : Cx} {c : Fc} {i : Nat} {π : List Nat} {p1 : Bool}
/-- sorted(place), a dict there -/
theorem de_dsrt {e : Expr} {p pos : Pos} (hcm : X.calm = true) (hg : Gl X "sorted") (hm : X.mg "sorted" = none) (ha : DPl X c e i π) (hs : starEach [e] X.env = (false, eval e X.env) :: starEach [] X.env := by rfl) (hpl : (backTo pos (starEach [] X.env)).any (·.1) = false := by rfl) :
    DE X c false (.Call (.Name "sorted" p) [e] [] pos) (kDSrt i π) := by
  refine ⟨Pu.no, (pe_callB (call_sortedDI hcm) hg hm (by decide +kernel) (pa_cons ha.run pa_nil hs) (by decide) (by decide) hs hpl).weak fun σ H Q ⟨env, ts, us, R, q⟩ => ?_⟩
  unfold kDSrt at q
  split at q
  · rename_i kvs ek
    split at q
    · rename_i h64
      refine ⟨env, ts, us, _, R, dicP_eq ek, fun w hw => ?_⟩
      obtain ⟨p', l, F, ft, ev, hp, fr, t, rt, ps, _⟩ := R.dictAt (dicP_eq ek)
      rw [hw] at ev
      cases ev
      refine ⟨p', l, kvs.map (·.1), rfl, .inl hp, t.keys, by simpa using h64, fun ys a pm le ha' => ?_⟩
      have e : ys = sortZ (kvs.map (·.1)) := sortZ_uniq le (sortZ_le _) (pm.trans (sortZ_perm _).symm)
      subst e
      have R2 := ps ((sortZ (kvs.map (·.1))).map V.int) ((sortZ (kvs.map (·.1))).map .int) (DRs.ofInts _)
      have R3 := Rp.mk (s := .lst) R2 (by simp) ha' rfl
      exact q _ _ R3 fun z => nomatch z
    · exact q.elim
  · exact q.elim
/-- a temporary tuple's (or list's) item -/
def kIxN (k : Nat) (f : EF) : EF := fun env => (f env).bind fun o e => match o with
  | .node .tup xs => match xs[k]? with
    | some x => .ok x e
    | none => .no
  | .dat (.tuple ds) => match ds[k]? with
    | some d => .ok (.dat d) e
    | none => .no
  | .dat (.list ds) => match ds[k]? with
    | some d => .ok (.dat d) e
    | none => .no
  | .node .lst xs => match xs[k]? with
    | some x => .ok x e
    | none => .no
  | _ => .no
theorem ROs.pick {K : Frag} {F H : Hp} {xs : List O} {vs : List V} {fx : List Addr} {k : Nat} {o : O} (r : ROs K F H xs vs fx) (h : xs[k]? = some o) : ∃ v fo, vs[k]? = some v ∧ RO K F H o v fo ∧ Sub fo fx := by
  obtain ⟨v, fo, fr, ev, ro, pm, _⟩ := r.nth h
  exact ⟨v, fo, ev, ro, ⟨fr, pm.symm⟩⟩
theorem Rp.pickTop {env : Env} {σ : L2.St} {ts : List O} {us : List V} {H : Hp} {os : List O} {vs : List V} {k : Nat} {o : O} (R : Rp c env σ (os ++ ts) (vs ++ us) H) (hl : os.length = vs.length) (h : os[k]? = some o) : ∃ v, vs[k]? = some v ∧ Rp c env σ (o :: ts) (v :: us) H := by
  obtain ⟨F, fe, ft, f, e, t, nd, nw⟩ := R
  obtain ⟨f1, f2, rfl, t1, t2⟩ := t.split' hl
  obtain ⟨v, fo, ev, ro, sb⟩ := t1.pick h
  exact ⟨v, ev, Rp.of f e (.cons ro t2) (all := fe ++ (f1 ++ f2)) ((Sub.refl fe).app (sb.app (.refl f2))) nd nw⟩
theorem pu_ixN {k : Nat} {f : EF} (h : Pu p1 f) : Pu p1 (kIxN k f) := fun hp env o env' q => by
  unfold kIxN RE.bind at q
  cases e1 : f env with
  | no => simp only [e1] at q; cases q
  | err x en => simp only [e1] at q; cases q
  | ok o2 en =>
    simp only [e1] at q
    have z := h hp _ _ _ e1
    subst z
    split at q
    · split at q <;> first | (cases q; rfl) | cases q
    · split at q <;> first | (cases q; rfl) | cases q
    · split at q <;> first | (cases q; rfl) | cases q
    · split at q <;> first | (cases q; rfl) | cases q
    · cases q
theorem de_ixN {a : Expr} {k j : Nat} {f : EF} {pos pos' : Pos} (hK : X.K = c.K) (h1 : DE X c p1 a f) (hs : PlainIx (.Constant (.int (k : Int)) j pos')) : DE X c p1 (.Subscript a (.Constant (.int (k : Int)) j pos') pos) (kIxN k f) := by
  refine ⟨pu_ixN h1.pure, (pe_ix ix_seq h1.run pe_int hs).weak fun σ H Q ⟨env, ts, us, R, q⟩ => ⟨env, ts, us, R, ?_⟩⟩
  unfold kIxN RE.bind at q
  cases e1 : f env with
  | no => rw [e1] at q; exact q.elim
  | err x en => rw [e1] at q; exact q
  | ok o en =>
    rw [e1] at q
    intro v H1 R1 x1
    simp only at q
    show rIx X.K v (.int (k : Int)) H1 Q
    rw [hK]
    split at q
    · rename_i xs
      split at q
      · rename_i x ex
        obtain ⟨a, vs, ev, hq, hl, R2⟩ := R1.kids
        obtain ⟨u, eu, R3⟩ := R2.pickTop hl ex
        exact .inr (.inl ⟨a, vs, k, u, ev, rfl, hq, atI_nat eu, q u H1 R3 x1⟩)
      · exact q.elim
    · rename_i ds
      split at q
      · rename_i d ed
        obtain ⟨a, vs, ev, hq, hl, R2⟩ := R1.items
        obtain ⟨u, eu, R3⟩ := R2.pickTop (k := k) (o := .dat d) (by simpa using hl) (by rw [List.getElem?_map, ed]; rfl)
        exact .inr (.inl ⟨a, vs, k, u, ev, rfl, hq, atI_nat eu, q u H1 R3 x1⟩)
      · exact q.elim
    · rename_i ds
      split at q
      · rename_i d ed
        obtain ⟨a, vs, ev, hq, hl, R2⟩ := R1.itemsL
        obtain ⟨u, eu, R3⟩ := R2.pickTop (k := k) (o := .dat d) (by simpa using hl) (by rw [List.getElem?_map, ed]; rfl)
        exact .inl ⟨a, vs, k, u, ev, rfl, hq, atI_nat eu, q u H1 R3 x1⟩
      · exact q.elim
    · rename_i xs
      split at q
      · rename_i x ex
        obtain ⟨a, vs, ev, hq, hl, R2⟩ := R1.kidsL
        obtain ⟨u, eu, R3⟩ := R2.pickTop hl ex
        exact .inl ⟨a, vs, k, u, ev, rfl, hq, atI_nat eu, q u H1 R3 x1⟩
      · exact q.elim
    · exact q.elim
/-! min, max of a list of ints -/
def minZ : List Int → Int
  | [] => 0
  | [x] => x
  | x :: y :: l => if x < minZ (y :: l) then x else minZ (y :: l)
def maxZ : List Int → Int
  | [] => 0
  | [x] => x
  | x :: y :: l => if maxZ (y :: l) < x then x else maxZ (y :: l)
theorem minZ_mem : ∀ {l : List Int}, l ≠ [] → minZ l ∈ l ∧ ∀ y ∈ l, minZ l ≤ y
  | [], h => absurd rfl h
  | [x], _ => ⟨by simp [minZ], fun y hy => by simp at hy; simp [minZ, hy]⟩
  | x :: y :: l, _ => by
    obtain ⟨h1, h2⟩ := minZ_mem (l := y :: l) (by simp)
    unfold minZ
    split
    · refine ⟨List.mem_cons_self, fun z hz => ?_⟩
      rcases List.mem_cons.mp hz with e | hz
      · omega
      · have := h2 z hz; omega
    · refine ⟨List.mem_cons_of_mem _ h1, fun z hz => ?_⟩
      rcases List.mem_cons.mp hz with e | hz
      · omega
      · exact h2 z hz
theorem maxZ_mem : ∀ {l : List Int}, l ≠ [] → maxZ l ∈ l ∧ ∀ y ∈ l, y ≤ maxZ l
  | [], h => absurd rfl h
  | [x], _ => ⟨by simp [maxZ], fun y hy => by simp at hy; simp [maxZ, hy]⟩
  | x :: y :: l, _ => by
    obtain ⟨h1, h2⟩ := maxZ_mem (l := y :: l) (by simp)
    unfold maxZ
    split
    · refine ⟨List.mem_cons_self, fun z hz => ?_⟩
      rcases List.mem_cons.mp hz with e | hz
      · omega
      · have := h2 z hz; omega
    · refine ⟨List.mem_cons_of_mem _ h1, fun z hz => ?_⟩
      rcases List.mem_cons.mp hz with e | hz
      · omega
      · exact h2 z hz
def gMinL : List PyData → Option O
  | [.list ds] => match intsD ds with
    | some (n :: ns) => some (.dat (.int (minZ (n :: ns))))
    | _ => none
  | _ => none
def gMaxL : List PyData → Option O
  | [.list ds] => match intsD ds with
    | some (n :: ns) => some (.dat (.int (maxZ (n :: ns))))
    | _ => none
  | _ => none
theorem o_minL {K : Frag} : Opn K (rMin K) gMinL := by
  intro F H xs ds z s r g Q q
  unfold gMinL at g
  split at g
  · rename_i ds
    split at g
    · rename_i n ns e
      cases g
      have e2 := intsD_eq e
      subst e2
      cases r with
      | cons r t =>
        cases t
        cases r with
        | lst h1 g1 =>
          have e3 := g1.ints
          subst e3
          refine ⟨_, n :: ns, rfl, SqL.of (s _ _ h1), by simp, fun m hm hle => ?_⟩
          obtain ⟨a, b⟩ := minZ_mem (l := n :: ns) (by simp)
          have : m = minZ (n :: ns) := by have := hle _ a; have := b m hm; omega
          subst this
          exact q.sc s (.int _)
    · cases g
  · cases g
theorem o_maxL {K : Frag} : Opn K (rMax K) gMaxL := by
  intro F H xs ds z s r g Q q
  unfold gMaxL at g
  split at g
  · rename_i ds
    split at g
    · rename_i n ns e
      cases g
      have e2 := intsD_eq e
      subst e2
      cases r with
      | cons r t =>
        cases t
        cases r with
        | lst h1 g1 =>
          have e3 := g1.ints
          subst e3
          refine ⟨_, n :: ns, rfl, SqL.of (s _ _ h1), by simp, fun m hm hle => ?_⟩
          obtain ⟨a, b⟩ := maxZ_mem (l := n :: ns) (by simp)
          have : m = maxZ (n :: ns) := by have := hle _ a; have := b m hm; omega
          subst this
          exact q.sc s (.int _)
    · cases g
  · cases g
/-! slot[k][slot[j].pop(0)] = v -/
def intsO : List O → Option (List Int)
  | [] => some []
  | .dat (.int n) :: os => (intsO os).map (n :: ·)
  | _ => none
theorem intsO_eq : ∀ {os : List O} {ns : List Int}, intsO os = some ns → os = (ns.map PyData.int).map .dat
  | [], ns, h => by cases h; rfl
  | o :: os, ns, h => by
    cases o with
    | dat d =>
      cases d with
      | int n =>
        unfold intsO at h
        cases e : intsO os with
        | none => rw [e] at h; cases h
        | some l => rw [e] at h; cases h; rw [intsO_eq e]; rfl
      | _ => cases h
    | _ => cases h
theorem intsO_map : ∀ ns : List Int, intsO ((ns.map PyData.int).map .dat) = some ns
  | [] => rfl
  | n :: ns => by
    show (intsO ((ns.map PyData.int).map .dat)).map (n :: ·) = _
    rw [intsO_map ns]
    rfl
def kDPutPop (i k j : Nat) (fv : EF) : Env → RS := fun env => (fv env).st fun o1 e1 => match dicP e1 i [k], getP e1 i [j], o1.toD with
  | some kvs, some (.node .lst os), some d => match intsO os with
    | some (n :: ns) => if kvs.length < 1000000 ∧ j ≠ k then .nx (putP (putP e1 i [j] (.node .lst ((ns.map PyData.int).map .dat))) i [k] (dI (putI kvs n d))) else .no
    | _ => .no
  | _, _, _ => .no
theorem getP_ne {env : Env} {k j : Nat} {o z : O} (h : getP env i [k] = some o) (ne : j ≠ k) : getP (putP env i [j] z) i [k] = some o := by
  have one : ∀ t : O, t.get [k] = some o → (t.put [j] z).get [k] = some o := fun t ht => by
    cases t with
    | dat _ => cases ht
    | any => cases ht
    | node s xs =>
      have ht' : (match nth s xs k with | some u => u.get [] | none => none) = some o := ht
      show (match nth s xs j with | some u => O.node s (put1 s xs j (u.put [] z)) | none => O.node s xs).get [k] = some o
      cases ej : nth s xs j with
      | none => exact ht
      | some u =>
        show (match nth s (put1 s xs j (u.put [] z)) k with | some u => u.get [] | none => none) = some o
        have e : nth s (put1 s xs j (u.put [] z)) k = nth s xs k := by
          unfold nth put1
          cases e1 : s.at k with
          | none => rfl
          | some k' =>
            cases e2 : s.at j with
            | none => rfl
            | some j' =>
              have : j' ≠ k' := by
                cases s with
                | lst => cases e1; cases e2; exact ne
                | tup => cases e1; cases e2; exact ne
                | dic ks => cases e1
                | ins C fs =>
                  have e1' : (if 1000 ≤ k then some (k - 1000) else none) = some k' := e1
                  have e2' : (if 1000 ≤ j then some (j - 1000) else none) = some j' := e2
                  split at e1' <;> cases e1'
                  split at e2' <;> cases e2'
                  omega
              exact List.getElem?_set_ne this
        rw [e]
        exact ht'
  unfold getP at h ⊢
  unfold putP
  cases e : slotO env i with
  | none => rw [e] at h; cases h
  | some t =>
    rw [e] at h
    have e' : slotO (setO env i (t.put [j] z)) i = some (t.put [j] z) := by
      unfold slotO at e
      split at e
      · rename_i o0 e0
        cases e
        have e1 : setO env i (t.put [j] z) = env.set i (.v (t.put [j] z)) := by unfold setO; rw [e0]
        unfold slotO
        rw [e1, List.getElem?_set_self (List.getElem?_eq_some_iff.mp e0).1]
      · rename_i o0 e0
        cases e
        have e1 : setO env i (t.put [j] z) = env.set i (.io (t.put [j] z)) := by unfold setO; rw [e0]
        unfold slotO
        rw [e1, List.getElem?_set_self (List.getElem?_eq_some_iff.mp e0).1]
      · cases e
    show (match slotO (setO env i (t.put [j] z)) i with | some o => o.get [k] | none => none) = some o
    rw [e']
    exact one t h
theorem valP_one {H : Hp} {σ : L2.St} {k : Nat} {v : V} (h : valP H σ i [k] = some v) : ∃ S o, σ[i]? = some (some (.ref S)) ∧ H S = some o ∧ kidAt o k = some v := by
  unfold valP at h
  split at h
  · rename_i w e
    cases w with
    | ref S =>
      have h' : (match H S with | some o => (match kidAt o k with | some u => follow H u [] | none => none) | none => none) = some v := h
      cases e2 : H S with
      | none => rw [e2] at h'; cases h'
      | some o =>
        rw [e2] at h'
        simp only at h'
        cases e3 : kidAt o k with
        | none => rw [e3] at h'; cases h'
        | some u =>
          rw [e3] at h'
          have : u = v := by cases u <;> exact Option.some.inj h'
          subst this
          exact ⟨S, o, e, e2, e3⟩
    | _ => cases h
  · cases h
theorem ds_dputpop {d e2 a : Expr} {fv : EF} {k j : Nat} {kj : Nat} {pos pos' apos cpos pos2 : Pos} (hK : X.K = c.K) (hu : X.A.units + 1 < cLine) (hv : DE X c p1 a fv) (hd : DPl X c d i [k]) (he : DPl X c e2 i [j])
    (hs : swapsWith a (some (.Subscript d (.Call (.Attribute e2 "pop" apos) [.Constant (.int 0) kj pos2] [] cpos) pos')) pos.line X.env = pure false := by rfl)
    (hbase : attributeBase e2 "pop" X.env (eval e2 X.env) = eval e2 X.env := by rfl)
    (hfew : ((backTo cpos (starEach [.Constant (.int 0) kj pos2] X.env)).all (fun x => !x.1) && (backToKw cpos (keywordEach [] X.env)).all (fun x => x.1.isSome)
      && decide (([.Constant (.int 0) kj pos2] : List Expr).length + ([] : List Keyword).length + (if ([] : List Keyword).isEmpty then 0 else 1) < 30)) = true := by rfl)
    (hline : (apos.endLine == cpos.line) = true := by rfl) (hst : starEach [.Constant (.int 0) kj pos2] X.env = (false, eval (.Constant (.int 0) kj pos2) X.env) :: starEach [] X.env := by rfl) (hplain : (backTo cpos (starEach [] X.env)).any (·.1) = false := by rfl) :
    DS X c (.Assign [.Subscript d (.Call (.Attribute e2 "pop" apos) [.Constant (.int 0) kj pos2] [] cpos) pos'] a pos) (kDPutPop i k j fv) := by
  refine ⟨(ps_dput hu hd.run (pe_bm PySem.F.plainAttrs_list PySem.F.slot_list_pop PySem.F.type_list_pop mt_popAt he.run (pa_cons pe_int pa_nil hst) hbase hfew hline hst hplain) hv.run hs).weak fun D σ H ⟨env, ts, us, R, q⟩ => ⟨env, ts, us, R, ?_⟩⟩
  unfold kDPutPop RE.st at q
  cases e1 : fv env with
  | no => rw [e1] at q; exact q.elim
  | err x en => rw [e1] at q; exact fun H' R' => q σ H' R'
  | ok o1 en =>
    rw [e1] at q
    intro v H1 R0 _
    simp only at q
    split at q
    · rename_i kvs os dv ek ej ed
      split at q
      · rename_i n ns eo
        split at q
        · rename_i hk
          have R1 := R0.freeze ed
          have eo2 := intsO_eq eo
          subst eo2
          refine ⟨en, _, _, _, R1, dicP_eq ek, fun x hx => ⟨en, _, _, _, R1, ej, fun w hw => ?_⟩⟩
          obtain ⟨p2, vs, h, F, fx, ft, ev, hp, ho, f, rx, rt, put⟩ := R1.mut ej
          rw [hw] at ev
          cases ev
          have ho' : h = .lst vs := ho
          subst ho'
          obtain ⟨rd, rfl⟩ := drs_of rx
          have ev2 := rd.ints
          subst ev2
          refine ⟨.inl ⟨rfl, _, by rw [hK]; exact SqL.of hp⟩, p2, _, 0, 0, .int n, rfl, rfl, hp, by omega, by omega, by simp [seqIndex?], rfl, ?_⟩
          have R2 := put .lst ((ns.map PyData.int).map .dat) (ns.map V.int) (.lst (ns.map V.int)) [] (.dat (.int n) :: .dat dv :: ts) (.int n :: v :: us) ft rfl (dpAll_os (DRs.ofInts ns)) (.cons (f1 := []) (.dat (.int n)) rt) (Sub.refl _)
          obtain ⟨p', l, F', ft', ev, hp', fr, t, rt', ps, mu⟩ := R2.dictAt (getP_ne (dicP_eq ek) hk.2)
          have ex : x = .ref p' := by
            obtain ⟨S, o, a1, a2, a3⟩ := valP_one hx
            obtain ⟨S', o', b1, b2, b3⟩ := valP_one ev
            rw [a1] at b1
            cases b1
            by_cases z : S = p2
            · subst z
              rw [hp] at a2
              cases a2
              have a3' : ((n :: ns).map V.int)[k]? = some x := a3
              rw [upd_same] at b2
              cases b2
              have b3' : (ns.map V.int)[k]? = some (.ref p') := b3
              rw [List.getElem?_map] at b3'
              cases z2 : ns[k]? with
              | none => rw [z2] at b3'; cases b3'
              | some m => rw [z2] at b3'; cases b3'
            · rw [upd_ne z, a2] at b2
              cases b2
              rw [a3] at b3
              exact Option.some.inj b3
          subst ex
          cases rt' with
          | cons r1 rt' =>
            cases rt' with
            | cons r2 rt' =>
              cases r2 with
              | dat r2 => exact ⟨p', _, rfl, DPut.k (k := Sum.inl n) hp' (by rw [t.length]; exact Nat.lt_of_lt_of_le hk.1 (sz_ok (n := 1000000) (Nat.le_refl _))), q σ _ (mu _ _ ts us _ (t.put r2) rt' (Sub.right _ _ |>.trans (Sub.refl _)))⟩
        · exact q.elim
      · exact q.elim
    · exact q.elim
end
end DP
end

section
namespace DP
open PySem PySem.Spec PyProof.Rows L2
/-! ### [1 for k in s[k2] if s[k2][k][0] == s[k0]] -/
def due1 : PyData → Option Int
  | .list (.int d :: _) => some d
  | _ => none
def duesD : List (Int × PyData) → Option (List Int)
  | [] => some []
  | p :: r => match due1 p.2, duesD r with
    | some d, some l => some (d :: l)
    | _, _ => none
def onesZ (day : Int) (l : List Int) : List Int := (l.filter fun d => decide (d = day)).map fun _ => 1
def kDue (i w k2 k0 : Nat) : EF := fun env => match getP env i [], dicP env i [k2], getP env i [k0] with
  | some (.node .lst _), some kvs, some (.dat (.int day)) => match duesD kvs with
    | some l => if l.length < 1000000 ∧ w < env.length ∧ (kvs.map (·.1)).Nodup then .ok (.node .lst (((onesZ day l).map PyData.int).map .dat)) env else .no
    | none => .no
  | _, _, _ => .no
inductive Dues (K : Frag) (F : Hp) : List (Key × V) → List Int → Prop
  | nil : Dues K F [] []
  | cons {n d : Int} {a : Addr} {us : List V} {l : List (Key × V)} {ds : List Int} : F a = some (.lst (.int d :: us)) → Dues K F l ds → Dues K F ((.inl n, .ref a) :: l) (d :: ds)
theorem dues_of {K : Frag} {F : Hp} : ∀ {l : List (Key × V)} {kvs : List (Int × PyData)} {ds : List Int}, DKV K F l kvs → duesD kvs = some ds → Dues K F l ds
  | _, _, ds, .nil, h => by cases h; exact .nil
  | _, _, ds, .cons (n := n) (d := d) (kvs := kvs) r t, h => by
    unfold duesD at h
    cases e1 : due1 d with
    | none => simp only [e1] at h; cases h
    | some z =>
      cases e2 : duesD kvs with
      | none => simp only [e1, e2] at h; cases h
      | some l' =>
        simp only [e1, e2] at h
        cases h
        cases r with
        | lst h1 h2 =>
          cases h2 with
          | nil => cases e1
          | cons h3 h4 =>
            cases h3 with
            | int i => cases e1; exact .cons h1 (dues_of t e2)
            | _ => cases e1
        | _ => cases e1
theorem Dues.length {K : Frag} {F : Hp} : ∀ {l : List (Key × V)} {ds : List Int}, Dues K F l ds → l.length = ds.length
  | _, _, .nil => rfl
  | _, _, .cons _ t => by simp [Dues.length t]
theorem Dues.at {K : Frag} {F : Hp} : ∀ {l : List (Key × V)} {ds : List Int} {j : Nat}, Dues K F l ds → ∀ (_ : j < ds.length), ∃ n a us d, l[j]? = some (Sum.inl n, V.ref a) ∧ ds[j]? = some d ∧ F a = some (.lst (.int d :: us))
  | _, _, _, .nil, h => absurd h (Nat.not_lt_zero _)
  | _, _, 0, .cons h _, _ => ⟨_, _, _, _, rfl, rfl, h⟩
  | _, _, j + 1, .cons _ t, h => by
    obtain ⟨n, a, us, d, e1, e2, e3⟩ := Dues.at (j := j) t (by simpa using h)
    exact ⟨n, a, us, d, by simpa using e1, by simpa using e2, e3⟩
theorem key_at : ∀ {l : List (Key × V)} {j : Nat} {k : Key} {v : V}, (l.map (·.1)).Nodup → l[j]? = some (k, v) → valV l k = some v
  | [], j, k, v, _, h => by simp at h
  | p :: l, 0, k, v, _, h => by
    have h' : p = (k, v) := by simpa using h
    subst h'
    exact valV_pos rfl
  | p :: l, j + 1, k, v, nd, h => by
    rw [List.map_cons, List.nodup_cons] at nd
    have h' : l[j]? = some (k, v) := by simpa using h
    have ne : ¬ p.1 = k := fun e => nd.1 (by rw [e]; exact List.mem_map.mpr ⟨(k, v), List.mem_of_getElem? h', rfl⟩)
    rw [valV_neg ne]
    exact key_at nd.2 h'
theorem ones_next {day d : Int} {ds : List Int} {j : Nat} (h : ds[j]? = some d) : onesZ day (ds.take (j + 1)) = onesZ day (ds.take j) ++ (if d = day then [1] else []) := by
  obtain ⟨hj, e⟩ := List.getElem?_eq_some_iff.mp h
  unfold onesZ
  rw [List.take_succ, h]
  by_cases z : d = day <;> simp [z, List.filter_append]
section
variable {X : Cx} {c : Fc} {i w k2 k0 : Nat}
abbrev tAt (K : Frag) (i k : Nat) : TE := tOp (rIx K) (tVar i) (tC (.int (k : Int)))
theorem ix_at {K : Frag} {H : Hp} {Q : VK} {S : Addr} {vs : List V} {k : Nat} {v : V} (hS : SqL K H S vs) (hv : vs[k]? = some v) (q : Q v H) : rIx K (.ref S) (.int (k : Int)) H Q := .inl ⟨_, _, _, _, rfl, rfl, hS, atI_nat hv, q⟩
theorem ixb {s : Shared} {H : Hp} {scope : Scope} {e : PySem.Env} {fp : List Addr} : IxR (X.blk s H scope e fp) (rIx X.K) := ix_seq
theorem de_due {x : Str} {D D' Q0 : Expr} {scope : Scope} {j1 j2 : Nat} {p1 p2 p3 p4 p5 p6 p7 pos : Pos} (hK : X.K = c.K) (hu : X.A.units + 1 < cLine) (hc : X.calm = true) (hN : X.N.Nodup) (hw : i ≠ w) (hD : PE X D (tAt X.K i k2)) (ok : BlkOk X.N X.env.scope scope [(x, w)])
    (hg : BlkE X scope fun Y => PG Y (.Name x p2) (gName w)) (hx : BlkE X scope fun Y => PE Y (.Name x p3) (tVar w)) (hD' : BlkE X scope fun Y => PE Y D' (tAt X.K i k2)) (hQ : BlkE X scope fun Y => PE Y Q0 (tAt X.K i k0)) (hs : ∀ z, foldedSetIterable D X.env z = pure z := by intro _; rfl) :
    DE X c false (.ListComp (.Constant (.int 1) j1 p1) [⟨.Name x p2, D, [.Compare (.Subscript (.Subscript D' (.Name x p3) p4) (.Constant (.int 0) j2 p5) p6) [.Eq] [Q0] p7], 0⟩] scope pos) (kDue i w k2 k0) := by
  refine ⟨Pu.no, (pe_lock (pe_lc hc hN (pi_keys hD) ok hg (fun s H C cl fp => pts_one (pt_cmpR op_eq (pe_ix ixb (pe_dget hu (hD' s H C cl fp) (hx s H C cl fp) (fun _ _ => rfl)) pe_int (fun _ _ => rfl)) (hQ s H C cl fp) (nomark _))) (fun _ _ _ _ _ => pe_int) hs)).weak fun σ H Q ⟨env, ts, us, R, q⟩ => ?_⟩
  unfold kDue at q
  split at q
  · rename_i os kvs day egs ek eg0
    split at q
    · rename_i ds eds
      split at q
      · rename_i hl6
        obtain ⟨p, l, F, ft, ev, hp, fr, t, rt, ps, _⟩ := R.dictAt (dicP_eq ek)
        obtain ⟨v0, ev0, rv0⟩ := R.peek eg0 rfl
        cases rv0
        obtain ⟨S, vs, o, F3, fx, ft3, evs, hS, hoS, f3, rx, _, _⟩ := R.mut egs
        obtain ⟨S1, o1, a1, a2, a3⟩ := valP_one ev
        obtain ⟨S2, o2, b1, b2, b3⟩ := valP_one ev0
        have hoS' : o = .lst vs := hoS
        subst hoS'
        have eS : σ[i]? = some (some (.ref S)) := by
          unfold valP at evs
          split at evs
          · rename_i w' ew
            have : w' = .ref S := by cases w' <;> exact Option.some.inj evs
            rw [ew, this]
          · cases evs
        rw [eS] at a1 b1
        cases a1
        cases b1
        rw [hS] at a2 b2
        cases a2
        cases b2
        have a3' : vs[k2]? = some (.ref p) := a3
        have b3' : vs[k0]? = some (.int day) := b3
        have tD := dues_of t eds
        have lD := tD.length
        have nd : (l.map (·.1)).Nodup := by
          rw [t.keys]
          exact (List.pairwise_map.mpr (hl6.2.2.imp fun ne e => ne (Sum.inl.inj e)))
        have hw2 : w < σ.length := R.elen ▸ hl6.2.1
        have pS : S ≠ p := fun z => by rw [z, hp] at hS; cases hS
        refine ⟨p, .dK l, hp, trivial, fun od => ?_⟩
        have LS : (upd H p (.frz od (.dK l))) S = some (.lst vs) := by rw [upd_ne pS]; exact hS
        refine ⟨_, eS, ix_at (SqL.of LS) a3' ⟨p, od, rfl, .inl ⟨l, upd_same, fun D hD => ?_⟩⟩⟩
        have pD : p ≠ D := fun z => by rw [← z, upd_same] at hD; cases hD
        have SD : S ≠ D := fun z => by rw [← z, LS] at hD; cases hD
        refine ⟨fun j m H' => m = l.length - j ∧ j ≤ l.length ∧ H' = upd (upd H p (.frz od (.dK l))) D (.lst ((onesZ day (ds.take j)).map V.int)), ⟨l.length, by simp, Nat.zero_le _, by simp [onesZ]⟩, ?_⟩
        rintro j m H' ⟨rfl, hj, rfl⟩
        have Hp' : ∀ L, (upd (upd H p (.frz od (.dK l))) D L) p = some (.frz od (.dK l)) := fun L => by rw [upd_ne pD, upd_same]
        have HS' : ∀ L, (upd (upd H p (.frz od (.dK l))) D L) S = some (.lst vs) := fun L => by rw [upd_ne SD]; exact LS
        by_cases hlt : j < l.length
        · refine .inr ⟨⟨Hp' _, hlt⟩, fun H2 => H2 = upd (upd H p (.frz od (.dK l))) D (.lst ((onesZ day (ds.take (j + 1))).map V.int)), fun H2 e => ⟨l.length - (j + 1), by omega, rfl, by omega, e⟩, fun x' H2 y => ?_⟩
          obtain ⟨rfl, k, v, elj, rfl⟩ := y
          obtain ⟨n, a, us2, d, f1, f2, f3⟩ := tD.at (j := j) (lD ▸ hlt)
          rw [elj] at f1
          cases f1
          have Ha : H a = some (.lst (.int d :: us2)) := fr.sub _ _ f3
          have ap : a ≠ p := fun z => by rw [z, hp] at Ha; cases Ha
          have aD : a ≠ D := fun z => by rw [← z, upd_ne ap, Ha] at hD; cases hD
          have Ha' : ∀ L, (upd (upd H p (.frz od (.dK l))) D L) a = some (.lst (.int d :: us2)) := fun L => by rw [upd_ne aD, upd_ne ap]; exact Ha
          show _ ∧ _
          refine ⟨?_, ?_⟩
          · show ((σ.set w none).set w (some (.int n))).set w none = σ.set w none
            rw [List.set_set, List.set_set]
          have sw : ((L2.wipe σ (List.map (fun q : Str × Nat => q.2) [(x, w)])).set w (some (V.int n))) = σ.set w (some (.int n)) := by
            show (σ.set w none).set w (some (.int n)) = _
            rw [List.set_set]
          have ei : (σ.set w (some (V.int n)))[i]? = some (some (.ref S)) := by rw [List.getElem?_set_ne (Ne.symm hw)]; exact eS
          have ew : (σ.set w (some (V.int n)))[w]? = some (some (.int n)) := List.getElem?_set_self hw2
          rw [show kV (Sum.inl n) = V.int n from rfl, sw]
          refine ⟨_, ei, ix_at (SqL.of (HS' _)) a3' ⟨_, ew, p, .ref a, rfl, .inl ⟨l, .inl n, .inr ⟨od, Hp' _⟩, rfl, (key_at nd elj).symm⟩, ?_⟩⟩
          refine ix_at (k := 0) (v := .int d) (SqL.of (Ha' _)) rfl ?_
          refine ⟨_, ei, ix_at (SqL.of (HS' _)) b3' ⟨rfl, decide (V.int d = V.int day), rfl, ?_⟩⟩
          have on := ones_next (day := day) f2
          show (if decide (V.int d = V.int day) = true then _ else _)
          by_cases z : d = day
          · rw [if_pos (by rw [z]; exact decide_eq_true rfl)]
            rw [if_pos z] at on
            refine ⟨(onesZ day (ds.take j)).map V.int, upd_same, ?_, ?_⟩
            · rw [List.length_map]
              have : (onesZ day (ds.take j)).length ≤ ds.length := by
                unfold onesZ
                rw [List.length_map]
                exact Nat.le_trans (List.length_filter_le _ _) (by rw [List.length_take]; omega)
              exact Nat.lt_of_lt_of_le (by omega) (sz_ok (n := 1000000) (Nat.le_refl _))
            · rw [upd_upd, on, List.map_append]
              rfl
          · rw [if_neg (fun e => z (V.int.inj (of_decide_eq_true e)))]
            rw [if_neg z, List.append_nil] at on
            rw [on]
        · have e : j = l.length := by omega
          subst e
          refine .inl ⟨⟨Hp' _, Nat.le_refl _⟩, Hp' _, ?_⟩
          rw [lD, List.take_length]
          have eH : upd (upd (upd H p (.frz od (.dK l))) D (.lst ((onesZ day ds).map V.int))) p (.dK l) = upd H D (.lst ((onesZ day ds).map V.int)) := by
            funext b
            by_cases z : b = p
            · subst z
              rw [upd_same, upd_ne pD, hp]
            · rw [upd_ne z]
              by_cases y : b = D
              · subst y
                rw [upd_same, upd_same]
              · rw [upd_ne y, upd_ne y, upd_ne z]
          rw [eH]
          have hD' : H D = none := by rw [upd_ne (Ne.symm pD)] at hD; exact hD
          have R2 := ps ((onesZ day ds).map V.int) ((onesZ day ds).map .int) (DRs.ofInts _)
          exact q _ _ (Rp.mk (s := .lst) R2 (by simp) hD' rfl) fun z => nomatch z
      · exact q.elim
    · exact q.elim
  · exact q.elim
end
end DP
end

section
namespace DP
open PySem PySem.Spec PyProof.Rows L2
/-! ### a slot's own list: x[e], x[e] = v, x.extend(..), x is None; ranges by steps -/
def kIxP (i : Nat) (f : EF) : EF := fun env => match getP env i [] with
  | some (.node .lst _) => (f env).bind fun o e => match o, getP e i [] with
    | .dat (.int j), some (.node .lst xs) => match atI xs j with
      | some (.dat d) => .ok (.dat d) e
      | _ => .no
    | _, _ => .no
  | _ => .no
def kSetIx (i : Nat) (fv fk : EF) : Env → RS := fun env => (fv env).st fun o1 e1 => match getP e1 i [] with
  | some (.node .lst _) => (fk e1).st fun o2 e2 => match o2, getP e2 i [] with
    | .dat (.int j), some (.node .lst xs) => match ixN xs.length j with
      | some k => .nx (putP e2 i [] (.node .lst (xs.set k o1)))
      | none => .no
    | _, _ => .no
  | _ => .no
def kExt (i : Nat) (f : EF) : EF := fun env => match getP env i [] with
  | some (.node .lst _) => (f env).bind fun o e => match o, getP e i [] with
    | .node .lst ys, some (.node .lst xs) => if xs.length + ys.length < 1000000 then .ok (.dat .none) (putP e i [] (.node .lst (xs ++ ys))) else .no
    | _, _ => .no
  | _ => .no
def kNone (neg : Bool) (i : Nat) : EF := fun env => match getP env i [] with
  | some (.dat d) => .ok (.dat (.bool (isN d != neg))) env
  | some (.node _ _) => .ok (.dat (.bool neg)) env
  | _ => .no
theorem valP_nil {H H' : Hp} {σ : L2.St} {i : Nat} : valP H' σ i [] = valP H σ i [] := by
  unfold valP
  split
  · rename_i w _
    cases w <;> rfl
  · rfl
section
variable {X : Cx} {c : Fc} {i : Nat} {p1 p2 : Bool}
theorem de_ixP {e d : Expr} {f : EF} {pos : Pos} (hK : X.K = c.K) (hd : DPl X c d i []) (he : DE X c p1 e f) (hs : PlainIx e) : DE X c p1 (.Subscript d e pos) (kIxP i f) := by
  refine ⟨fun hp env o env' q => ?_, (pe_ix ix_seq hd.run he.run hs).weak fun σ H Q ⟨env, ts, us, R, q⟩ => ?_⟩
  · unfold kIxP at q
    split at q
    · unfold RE.bind at q
      cases e1 : f env with
      | no => simp only [e1] at q; cases q
      | err x en => simp only [e1] at q; cases q
      | ok o2 en =>
        simp only [e1] at q
        have z := he.pure hp _ _ _ e1
        subst z
        split at q
        · split at q <;> first | (cases q; rfl) | cases q
        · cases q
    · cases q
  · unfold kIxP at q
    split at q
    · rename_i xs0 eg0
      refine ⟨env, ts, us, _, R, eg0, fun w hw => ⟨env, ts, us, R, ?_⟩⟩
      unfold RE.bind at q
      cases e1 : f env with
      | no => rw [e1] at q; exact q.elim
      | err x en => rw [e1] at q; exact q
      | ok o1 en =>
        rw [e1] at q
        intro y H1 R1 x1
        simp only at q
        split at q
        · rename_i j xs eg
          split at q
          · rename_i dd ed
            obtain ⟨F0, f0, ry, _⟩ := Rp.dat R1
            cases ry
            obtain ⟨p, vs, h, F, fx, ft, ev, hp, ho, f, rx, rt, put⟩ := R1.pop.mut eg
            rw [valP_nil (H := H), hw] at ev
            cases ev
            have ho' : h = .lst vs := ho
            subst ho'
            have hl := rx.length
            obtain ⟨k, ek, exk⟩ := Option.bind_eq_some_iff.mp ed
            obtain ⟨v, ev2, rv⟩ := rx.at' exk
            have ea : atI vs j = some v := by
              unfold atI
              rw [← hl, ek]
              exact ev2
            show rIx X.K (.ref p) (.int j) H1 Q
            rw [hK]
            refine .inl ⟨p, vs, j, v, rfl, rfl, SqL.of hp, ea, q v H1 ?_ x1⟩
            have m := put .lst xs vs _ fx (.dat dd :: ts) (v :: us) ft rfl rx (.cons (f1 := []) (.dat rv) rt) (Sub.refl _)
            have e : upd H1 p (.lst vs) = H1 := by
              funext a
              by_cases z : a = p
              · subst z; rw [upd_same, hp]
              · rw [upd_ne z]
            rw [putP_same eg, e] at m
            exact m
          · exact q.elim
        · exact q.elim
    · exact q.elim
theorem ds_setIx {d e a : Expr} {fv fk : EF} {pos pos2 : Pos} (hv : DE X c p1 a fv) (hd : DPl X c d i []) (he : DE X c p2 e fk) (hs : swapsWithSole [.Subscript d e pos2] a pos.line X.env = pure false := by rfl) (hw : swappedStores [.Subscript d e pos2] a X.env = pure none := by rfl)
    (h3 : (assignEach [.Subscript d e pos2] X.env).map (·.2) = [assign (.Subscript d e pos2) X.env] := by rfl)
    (ha : ∀ v, assign (.Subscript d e pos2) X.env v = (do
      let ov ← holding [v] (eval d X.env); let iv ← holding [v, ov] (eval e X.env); standAt pos2; holding [v, ov, iv] (setItem ov iv v); release [v, ov, iv] []) := by intro _; rfl) : DS X c (.Assign [.Subscript d e pos2] a pos) (kSetIx i fv fk) := by
  refine ⟨(ps_asg hv.run (pg_sub hd.run he.run set_list ha) hs hw h3).weak fun D σ H ⟨env, ts, us, R, q⟩ => ⟨env, ts, us, R, ?_⟩⟩
  unfold kSetIx RE.st at q
  cases e1 : fv env with
  | no => rw [e1] at q; exact q.elim
  | err x en => rw [e1] at q; exact fun H' R' => q σ H' R'
  | ok o1 en =>
    rw [e1] at q
    intro v H1 R1 _
    simp only at q
    split at q
    · rename_i xs0 eg0
      refine ⟨en, _, _, _, R1, eg0, fun w hw' => ⟨en, _, _, R1, ?_⟩⟩
      cases e2 : fk en with
      | no => rw [e2] at q; exact q.elim
      | err x en => rw [e2] at q; exact fun H' R' => q σ H' R'.pop
      | ok o2 en2 =>
        rw [e2] at q
        intro y H2 R2 _
        simp only at q
        split at q
        · rename_i j xs eg
          split at q
          · rename_i k ek
            obtain ⟨F0, f0, ry, _⟩ := Rp.dat R2
            cases ry
            obtain ⟨p, vs, h, F, fx, ft, ev, hp, ho, f, rx, rt, put⟩ := R2.pop.mut eg
            rw [valP_nil (H := H1), hw'] at ev
            cases ev
            have ho' : h = .lst vs := ho
            subst ho'
            have hl := rx.length
            refine ⟨p, vs, j, k, rfl, rfl, hp, by rw [← hl]; exact ek, ?_⟩
            cases rt with
            | cons ro rt =>
              rename_i f1 f2
              obtain ⟨fx', r', sb⟩ := ROs.setTop ro k rx
              refine q σ _ (put .lst _ _ _ fx' ts us f2 rfl r' rt ?_)
              refine (sb.app (.refl f2)).trans ?_
              rw [List.append_assoc]
              exact Sub.swap f1 fx f2
          · exact q.elim
        · exact q.elim
    · exact q.elim
theorem de_ext {e a : Expr} {f : EF} {apos cpos : Pos} (hK : X.K = c.K) (he : DPl X c e i []) (ha : DE X c p1 a f)
    (hbase : attributeBase e "extend" X.env (eval e X.env) = eval e X.env := by rfl)
    (hfew : ((backTo cpos (starEach [a] X.env)).all (fun x => !x.1) && (backToKw cpos (keywordEach [] X.env)).all (fun x => x.1.isSome)
      && decide (([a] : List Expr).length + ([] : List Keyword).length + (if ([] : List Keyword).isEmpty then 0 else 1) < 30)) = true := by rfl)
    (hline : (apos.endLine == cpos.line) = true := by rfl) (hs : starEach [a] X.env = (false, eval a X.env) :: starEach [] X.env := by rfl) (hplain : (backTo cpos (starEach [] X.env)).any (·.1) = false := by rfl) :
    DE X c false (.Call (.Attribute e "extend" apos) [a] [] cpos) (kExt i f) := by
  refine ⟨Pu.no, (pe_bm PySem.F.plainAttrs_list PySem.F.slot_list_extend PySem.F.type_list_extend mt_extend he.run (pa_cons ha.run pa_nil hs) hbase hfew hline hs hplain).weak fun σ H Q ⟨env, ts, us, R, q⟩ => ?_⟩
  unfold kExt at q
  split at q
  · rename_i xs0 eg0
    refine ⟨env, ts, us, _, R, eg0, fun w hw => ?_⟩
    obtain ⟨p, vs0, h, F, fx, ft, ev, hp, ho, f0, rx, rt, put⟩ := R.mut eg0
    have : w = .ref p := Option.some.inj (hw.symm.trans ev)
    subst this
    have ho' : h = .lst vs0 := ho
    subst ho'
    refine ⟨Or.inl ⟨rfl, vs0, by rw [hK]; exact SqL.of hp⟩, env, ts, us, R, ?_⟩
    unfold RE.bind at q
    cases e1 : f env with
    | no => rw [e1] at q; exact q.elim
    | err x en => rw [e1] at q; exact fun H' R' => q H' R'
    | ok o en =>
      rw [e1] at q
      simp only at q
      intro v H1 R1 _
      split at q
      · rename_i ys xs eg
        split at q
        · rename_i hk
          obtain ⟨p', vs1, h1, F1, fx1, ft1, ev1, hp1, ho1, f1, rx1, rt1, put1⟩ := R1.mut eg
          rw [valP_nil (H := H), hw] at ev1
          cases ev1
          have ho1' : h1 = .lst vs1 := ho1
          subst ho1'
          cases rt1 with
          | cons ro rt1 =>
            rename_i fa fb
            cases ro with
            | node n1 n2 n3 n4 =>
              rename_i b ws hb fy
              have n3' : hb = .lst ws := n3
              subst n3'
              have l1 := rx1.length
              have l2 := n4.length
              refine ⟨p, b, vs1, ws, rfl, rfl, hp1, n2, Nat.le_trans (by omega) (sz_ok (n := 1000000) (Nat.le_refl _)), ?_⟩
              refine q .non _ (Rp.push (put1 .lst _ _ _ (fx1 ++ fy) ts us fb rfl (rx1.app n4) rt1 ?_) fun F _ => .non) (fun h => by cases h)
              rw [List.append_assoc]
              refine (Sub.refl fx1).app ?_
              exact (Sub.right [b] fy).app (Sub.refl fb)
        · exact q.elim
      · exact q.elim
  · exact q.elim
theorem de_none {a : Expr} {j : Nat} {p pos : Pos} (ha : DPl X c a i []) : DE X c true (.Compare a [.Is] [.Constant .none j p] pos) (kNone false i) := by
  refine ⟨fun _ env o env' q => ?_, (pe_cmpR op_isN ha.run pe_non (nomark _)).weak fun σ H Q ⟨env, ts, us, R, q⟩ => ?_⟩
  · unfold kNone at q
    split at q <;> first | (cases q; rfl) | cases q
  · unfold kNone at q
    split at q
    · rename_i d eg
      refine ⟨env, ts, us, _, R, eg, fun w hw => ?_⟩
      obtain ⟨v', ev, rv⟩ := R.peek eg rfl
      rw [hw] at ev
      cases ev
      refine ⟨rfl, ?_⟩
      rw [isN_dec rv]
      have : (isN d != false) = isN d := by cases isN d <;> rfl
      rw [this] at q
      exact q _ H R.bpush fun _ => Ex.refl H
    · rename_i s xs eg
      refine ⟨env, ts, us, _, R, eg, fun w hw => ?_⟩
      obtain ⟨p', vs, h, F, fx, ft, ev, hp, _⟩ := R.mut eg
      rw [hw] at ev
      cases ev
      exact ⟨rfl, q _ H R.bpush fun _ => Ex.refl H⟩
    · exact q.elim
theorem de_notnone {a : Expr} {j : Nat} {p pos : Pos} (ha : DPl X c a i []) : DE X c true (.Compare a [.IsNot] [.Constant .none j p] pos) (kNone true i) := by
  refine ⟨fun _ env o env' q => ?_, (pe_cmpR op_notN ha.run pe_non (nomark _)).weak fun σ H Q ⟨env, ts, us, R, q⟩ => ?_⟩
  · unfold kNone at q
    split at q <;> first | (cases q; rfl) | cases q
  · unfold kNone at q
    split at q
    · rename_i d eg
      refine ⟨env, ts, us, _, R, eg, fun w hw => ?_⟩
      obtain ⟨v', ev, rv⟩ := R.peek eg rfl
      rw [hw] at ev
      cases ev
      refine ⟨rfl, ?_⟩
      rw [isN_dec rv]
      have : (isN d != true) = !isN d := by cases isN d <;> rfl
      rw [this] at q
      exact q _ H R.bpush fun _ => Ex.refl H
    · rename_i s xs eg
      refine ⟨env, ts, us, _, R, eg, fun w hw => ?_⟩
      obtain ⟨p', vs, h, F, fx, ft, ev, hp, _⟩ := R.mut eg
      rw [hw] at ev
      cases ev
      exact ⟨rfl, q _ H R.bpush fun _ => Ex.refl H⟩
    · exact q.elim
/-! ranges by steps -/
def stepD (lo c : Int) (n : Nat) : List PyData := (List.range n).map fun (i : Nat) => PyData.int (lo + i * c)
theorem stepD_get {lo c : Int} {n i : Nat} {d : PyData} (h : (stepD lo c n)[i]? = some d) : i < n ∧ d = .int (lo + i * c) := by
  unfold stepD at h
  rw [List.getElem?_map] at h
  by_cases z : i < n
  · rw [List.getElem?_range z] at h
    cases h
    exact ⟨z, rfl⟩
  · rw [List.getElem?_eq_none (by simpa using Nat.le_of_not_lt z)] at h
    cases h
theorem walk_rc {lo k : Int} {n : Nat} : Walk c (stepD lo k n) [] [] (Itc lo k n) := by
  refine ⟨fun i d hd env σ ts us H R => ?_, fun env σ ts us H R => ?_⟩
  · obtain ⟨h1, rfl⟩ := stepD_get hd
    refine ⟨h1, fun x H' ⟨e1, e2⟩ => ?_⟩
    subst e1 e2
    exact Rp.push R fun _ _ => .int _
  · show n ≤ (stepD lo k n).length
    unfold stepD
    simp
/-- range(lo, hi, k), k a small positive number -/
def kRng3 (g : Env → RE (List O)) : IF := fun env => (g env).bind fun os e1 => match os with
  | [.dat (.int i), .dat (.int j), .dat (.int k)] => if 0 ≤ i ∧ i < 1000000000 ∧ 0 ≤ j ∧ j < 1000000000 ∧ 1 ≤ k ∧ k < 1000000 then .ok (stepD i k (if j ≤ i then 0 else ((j - i - 1) / k + 1).toNat)) e1 else .no
  | _ => .no
end
end DP
end

section
namespace DP
open PySem PySem.Spec PyProof.Rows L2
section
variable {X : Cx} {c : Fc} {i : Nat} {π : List Nat} {p1 p2 : Bool}
theorem dt_pkL {op : CmpOp} {a b : Expr} {r : R2} {g : PyData → PyData → Option O} {f : EF} {pos : Pos} (ho : OpR X (compareOp op) r) (hr : Op2 c.K r g) (ha : DPl X c a i π) (hb : DE X c true b f) (hm : behindInMarks op b = false) : DT X c true (.Compare a [op] [b] pos) (kB (kPkL g i π f)) :=
  ⟨pu_kB (pu_pkL hb.pure), (pt_cmpR ho ha.run hb.run hm).weak fun _ _ _ q => t_pkL hr hb.pure (t_kB q)⟩
theorem dt_pkR {op : CmpOp} {a b : Expr} {r : R2} {g : PyData → PyData → Option O} {f : EF} {pos : Pos} (ho : OpR X (compareOp op) r) (hr : Op2 c.K r g) (ha : DE X c p1 a f) (hb : DPl X c b i π) (hm : behindInMarks op b = false) : DT X c p1 (.Compare a [op] [b] pos) (kB (kPkR g f i π)) :=
  ⟨pu_kB (pu_pkR ha.pure), (pt_cmpR ho ha.run hb.run hm).weak fun _ _ _ q => t_pkR hr (t_kB q)⟩
theorem dt_din {e d : Expr} {f : EF} {pos : Pos} (hu : X.A.units + 1 < cLine) (he : DE X c p1 e f) (hd : DPl X c d i π) (hm : behindInMarks .In d = false := by rfl) : DT X c p1 (.Compare e [.In] [d] pos) (kB (kDIn false i π f)) :=
  ⟨pu_kB (pu_din he.pure), (pt_cmp (pc_din hu he.run hd.run) hm).weak fun σ H Q q => by
    have := t_din (t_kB q)
    simpa [tDIn, tB] using this⟩
theorem dt_dnin {e d : Expr} {f : EF} {pos : Pos} (hu : X.A.units + 1 < cLine) (he : DE X c p1 e f) (hd : DPl X c d i π) (hm : behindInMarks .NotIn d = false := by rfl) : DT X c p1 (.Compare e [.NotIn] [d] pos) (kB (kDIn true i π f)) :=
  ⟨pu_kB (pu_din he.pure), (pt_cmp (pc_dnotin hu he.run hd.run) hm).weak fun σ H Q q => by
    have := t_din (t_kB q)
    simpa [tDNotIn, tB] using this⟩
theorem t_none {neg : Bool} {σ : L2.St} {H : Hp} {Q : VK} (q : tE c true (kNone neg i) σ H Q) : tP c i [] σ H fun x H1 => ∃ k, decide (x = V.non) = k ∧ Q (.bl (k != neg)) H1 := by
  obtain ⟨env, ts, us, R, q⟩ := q
  unfold kNone at q
  split at q
  · rename_i d eg
    refine ⟨env, ts, us, _, R, eg, fun w hw => ?_⟩
    obtain ⟨v', ev, rv⟩ := R.peek eg rfl
    rw [hw] at ev
    cases ev
    exact ⟨_, isN_dec rv, q _ H R.bpush fun _ => Ex.refl H⟩
  · rename_i s xs eg
    refine ⟨env, ts, us, _, R, eg, fun w hw => ?_⟩
    obtain ⟨p', vs, h, F, fx, ft, ev, hp, _⟩ := R.mut eg
    rw [hw] at ev
    cases ev
    exact ⟨false, rfl, by have := q _ H R.bpush fun _ => Ex.refl H; cases neg <;> exact this⟩
  · exact q.elim
theorem pu_none {neg : Bool} : Pu true (kNone neg i) := fun _ env o env' q => by
  unfold kNone at q
  split at q <;> first | (cases q; rfl) | cases q
theorem dt_none {a : Expr} {j : Nat} {p pos : Pos} (ha : DPl X c a i []) : DT X c true (.Compare a [.Is] [.Constant .none j p] pos) (kB (kNone false i)) :=
  ⟨pu_kB pu_none, (pt_cmpR op_isN ha.run pe_non (nomark _)).weak fun σ H Q q => by
    obtain ⟨env, ts, us, o, R, eg, h⟩ := t_none (t_kB q)
    refine ⟨env, ts, us, o, R, eg, fun v hv => ?_⟩
    obtain ⟨k, ek, b, eb, qb⟩ := h v hv
    refine ⟨rfl, decide (v = V.non), rfl, ?_⟩
    cases eb
    rw [ek]
    simpa using qb⟩
theorem dt_notnone {a : Expr} {j : Nat} {p pos : Pos} (ha : DPl X c a i []) : DT X c true (.Compare a [.IsNot] [.Constant .none j p] pos) (kB (kNone true i)) :=
  ⟨pu_kB pu_none, (pt_cmpR op_notN ha.run pe_non (nomark _)).weak fun σ H Q q => by
    obtain ⟨env, ts, us, o, R, eg, h⟩ := t_none (t_kB q)
    refine ⟨env, ts, us, o, R, eg, fun v hv => ?_⟩
    obtain ⟨k, ek, b, eb, qb⟩ := h v hv
    refine ⟨rfl, !decide (v = V.non), rfl, ?_⟩
    cases eb
    rw [ek]
    simpa using qb⟩
end
/-! x is True, x is False -/
def gIsB (neg : Bool) : PyData → PyData → Option O
  | .bool a, .bool b => some (.dat (.bool (decide (a = b) != neg)))
  | _, _ => none
theorem o_isB {K : Frag} : Op2 K (fun x y H Q => ∃ a b, x = .bl a ∧ y = .bl b ∧ Q (.bl (decide (a = b))) H) (gIsB false) := by
  intro F H x y d1 d2 z s r1 r2 g Q q
  unfold gIsB at g
  split at g
  · rename_i a b
    cases g; cases r1; cases r2
    refine ⟨a, b, rfl, rfl, ?_⟩
    have := q.sc s (.bl _)
    simpa using this
  · cases g
theorem o_notB {K : Frag} : Op2 K (fun x y H Q => ∃ a b, x = .bl a ∧ y = .bl b ∧ Q (.bl (!decide (a = b))) H) (gIsB true) := by
  intro F H x y d1 d2 z s r1 r2 g Q q
  unfold gIsB at g
  split at g
  · rename_i a b
    cases g; cases r1; cases r2
    refine ⟨a, b, rfl, rfl, ?_⟩
    have := q.sc s (.bl _)
    simpa using this
  · cases g
end DP
end

section
namespace DP
open PySem PySem.Spec PyProof.Rows L2
section
variable {X : Cx} {c : Fc} {p1 : Bool}
/-- list(range(e)) -/
def kLsRg (f : EF) : EF := fun env => (f env).bind fun o e => match o with
  | .dat (.int n) => if 0 ≤ n ∧ n ≤ 1000000 then .ok (.node .lst ((rngD 0 n.toNat).map .dat)) e else .no
  | _ => .no
theorem rgV_eq (n : Int) : rgV 0 n = (List.range n.toNat).map fun i => V.int ((0 : Int) + (i : Nat)) := by
  unfold rgV
  rw [Int.sub_zero]
theorem drs_rng {K : Frag} {F : Hp} (n : Int) : DRs K F (rgV 0 n) (rngD 0 n.toNat) := by
  rw [rgV_eq]
  unfold rngD
  generalize List.range n.toNat = l
  induction l with
  | nil => exact .nil
  | cons i l ih => exact .cons (.int _) ih
theorem Rp.pushes {env : Env} {σ : L2.St} {ts : List O} {us : List V} {H : Hp} {vs : List V} {ds : List PyData} (R : Rp c env σ ts us H) (h : ∀ F, DRs c.K F vs ds) : Rp c env σ (ds.map .dat ++ ts) (vs ++ us) H := by
  obtain ⟨F, fe, ft, f, e, t, nd, nw⟩ := R
  exact ⟨F, fe, [] ++ ft, f, e, (dpAll_os (h F)).app t, nd, nw⟩
theorem de_listRg {a : Expr} {f : EF} {p p2 pos pos2 : Pos} (hc : X.calm = true) (hg : Gl X "list") (hm : X.mg "list" = none) (hg2 : Gl X "range") (hm2 : X.mg "range" = none) (ha : DE X c p1 a f)
    (n1 : starEach [a] X.env = (false, eval a X.env) :: starEach [] X.env := by rfl) (n2 : starEach [.Call (.Name "range" p2) [a] [] pos2] X.env = (false, eval (.Call (.Name "range" p2) [a] [] pos2) X.env) :: starEach [] X.env := by rfl) :
    DE X c false (.Call (.Name "list" p) [.Call (.Name "range" p2) [a] [] pos2] [] pos) (kLsRg f) := by
  refine ⟨Pu.no, (pe_listRg hc hg hm (prg_1 hg2 hm2 ha.run n1) n2).weak fun σ H Q ⟨env, ts, us, R, q⟩ => ⟨env, ts, us, R, ?_⟩⟩
  unfold kLsRg RE.bind at q
  cases e1 : f env with
  | no => rw [e1] at q; exact q.elim
  | err x en => rw [e1] at q; exact q
  | ok o en =>
    rw [e1] at q
    intro v H1 R1 _
    simp only at q
    split at q
    · rename_i n
      split at q
      · rename_i hn
        obtain ⟨F, f', r, _⟩ := Rp.dat R1
        cases r
        refine ⟨n, rfl, RgOk.of_le (by omega) (by omega) (by omega) (by omega), fun q' hq => ?_⟩
        have R2 := Rp.pushes R1.pop (fun F => drs_rng (K := c.K) (F := F) n)
        exact q _ _ (Rp.mk (s := .lst) R2 (by simp [rngD, rgV]) hq rfl) fun z => nomatch z
      · exact q.elim
    · exact q.elim
theorem rg_ok {i j k : Int} (h : 0 ≤ i ∧ i < 1000000000 ∧ 0 ≤ j ∧ j < 1000000000 ∧ 1 ≤ k ∧ k < 1000000) : RgC i j k (if j ≤ i then 0 else ((j - i - 1) / k + 1).toNat) := by
  obtain ⟨h1, h2, h3, h4, h5, h6⟩ := h
  have h0 : 0 ≤ (j - i - 1) / k ∨ j ≤ i := by
    by_cases z : j ≤ i
    · exact .inr z
    · exact .inl (Int.ediv_nonneg (by omega) (by omega))
  have hb : (j - i - 1) / k ≤ j - i - 1 ∨ j ≤ i := by
    by_cases z : j ≤ i
    · exact .inr z
    · exact .inl (Int.ediv_le_self _ (by omega))
  have hk : k > 0 := by omega
  refine ⟨by omega, by omega, ?_, ?_⟩
  · unfold Builtin.Range.small Builtin.Range.rangeSize
    simp only [Builtin.Range.rangeFitsLong, Bool.and_eq_true, Bool.or_eq_true, decide_eq_true_eq, beq_iff_eq, hk, if_true]
    have hm : ∀ m : Int, 0 ≤ m → m ≤ 1000000001 → 0 ≤ m * k ∧ m * k ≤ 1000000001 * 1000000 := fun m m0 m1 => ⟨Int.mul_nonneg m0 (by omega), Int.mul_le_mul m1 (by omega) (by omega) (by omega)⟩
    split
    · have := hm ((j - i - 1) / k + 1) (by omega) (by omega)
      omega
    · omega
  · unfold Builtin.Range.rangeSize
    rw [if_pos (by omega)]
    split <;> split <;> omega
theorem di_range3 {tg a b d : Expr} {p pos : Pos} {g : Env → RE (List O)} {ios : List (Option Nat)} (hg : Gl X "range") (hm : X.mg "range" = none) (ha : DA X c p1 ios [a, b, d] g)
    (hs : starEach [a, b, d] X.env = (false, eval a X.env) :: starEach [b, d] X.env := by rfl) (hpl : (backTo pos (starEach [b, d] X.env)).any (·.1) = false := by rfl) : DI X c tg (.Call (.Name "range" p) [a, b, d] [] pos) (kRng3 g) := by
  refine ⟨(pi_range3 hg hm ha.run hs hpl).weak fun σ H R ⟨env, ts, us, Rr, q⟩ => ⟨env, ts, us, Rr, ?_⟩⟩
  unfold kRng3 RE.bind at q
  cases e1 : g env with
  | no => rw [e1] at q; exact q.elim
  | err x en => rw [e1] at q; exact q
  | ok os en =>
    rw [e1] at q
    simp only at q
    intro vs H' R' hl hli _ _
    split at q
    · rename_i i j k
      split at q
      · rename_i hz
        match vs, hl with
        | [v1, v2, v3], _ =>
          have R2 : Rp c en σ (.dat (.int i) :: .dat (.int j) :: .dat (.int k) :: ts) (v1 :: v2 :: v3 :: us) H' := R'
          obtain ⟨_, _, r1, _⟩ := Rp.dat R2
          obtain ⟨_, _, r2, _⟩ := Rp.dat R2.pop
          obtain ⟨_, _, r3, _⟩ := Rp.dat R2.pop.pop
          cases r1; cases r2; cases r3
          exact ⟨i, j, k, _, rfl, rg_ok hz, q _ H' [] [] R2.pop.pop.pop rfl walk_rc⟩
      · exact q.elim
    · exact q.elim
end
end DP
end

section
namespace DP
open PySem PySem.Spec PyProof.Rows L2
/-- a, b, d = e1, e2, e3 -/
def kPar3 (i j l : Nat) (g : Env → RE (List O)) : Env → RS := fun env => (g env).st fun os e => match os with
  | [o1, o2, o3] => match hName i o1 e with
    | some e1 => match hName j o2 e1 with
      | some e2 => match hName l o3 e2 with
        | some e3 => .nx e3
        | none => .no
      | none => .no
    | none => .no
  | _ => .no
section
variable {X : Cx} {c : Fc} {p1 : Bool}
theorem ds_par3 {a b d : Expr} {i j l : Nat} {x y z : Str} {px py pz pt pos : Pos} {kt k2 pt2} {ios : List (Option Nat)} {g : Env → RE (List O)} (hc : X.calm = true) (hN : X.N.Nodup) (hi : X.N[i]? = some x) (hj : X.N[j]? = some y) (hl : X.N[l]? = some z) (hij : i ≠ j) (hil : i ≠ l) (hjl : j ≠ l)
    (hx : X.env.scope.names.lookup x = some .local) (hy : X.env.scope.names.lookup y = some .local) (hz : X.env.scope.names.lookup z = some .local) (ha : DA X c p1 ios [a, b, d] g)
    (hw : swappedStores [.Tuple [.Name x px, .Name y py, .Name z pz] kt pt] (.Tuple [a, b, d] k2 pt2) X.env = pure (some [x, y, z]))
    (hs : swapsWithSole [.Tuple [.Name x px, .Name y py, .Name z pz] kt pt] (.Tuple [a, b, d] k2 pt2) pos.line X.env = pure false := by rfl) :
    DS X c (.Assign [.Tuple [.Name x px, .Name y py, .Name z pz] kt pt] (.Tuple [a, b, d] k2 pt2) pos) (kPar3 i j l g) := by
  refine ⟨(ps_par3 hc hN hi hj hl hij hil hjl hx hy hz ha.run hw hs).weak fun D σ H ⟨env, ts, us, R, q⟩ => ?_⟩
  refine ⟨env, ts, us, R, ?_⟩
  unfold kPar3 RE.st at q
  cases e : g env with
  | no => rw [e] at q; exact q.elim
  | err x en => rw [e] at q; exact fun H' R' => q σ H' R'
  | ok os en =>
    rw [e] at q
    simp only at q
    intro vs H' R' hl _ _ _
    split at q
    · rename_i o1 o2 o3
      match vs, hl with
      | [v1, v2, v3], _ =>
        refine ⟨v1, v2, v3, rfl, ?_⟩
        split at q
        · rename_i e1 z1
          split at q
          · rename_i e2 z2
            split at q
            · rename_i e3 z3
              have R' : Rp c en σ (o1 :: o2 :: o3 :: ts) (v1 :: v2 :: v3 :: us) H' := R'
              refine post_name (Q := fun σ1 H1 => D.nx ((σ1.set j (some v2)).set l (some v3)) H1) R' ?_
              rw [z1]
              intro σ1 H1 R1 _ _
              refine post_name (Q := fun σ2 H2 => D.nx (σ2.set l (some v3)) H2) R1 ?_
              rw [z2]
              intro σ2 H2 R2 _ _
              refine post_name (Q := D.nx) R2 ?_
              rw [z3]
              exact fun σ3 H3 R3 _ _ => q σ3 H3 R3
            · exact q.elim
          · exact q.elim
        · exact q.elim
    · exact q.elim
/-- f() -/
theorem de_call0 {k : Nat} {f : Addr} {fd : FuncData} {den : List O → RF} {x : Str} {p pos : Pos} (G : FnOk X.prog X.w X.K X.mg X.base (L2.CX X.prog X.w) k f fd [] (spD c.K c.cls [] den)) (hr : Room k X.A) (hg : Gl X x) (hm : X.mg x = some (.ref f)) (hk : PySem.W.keepIn X.K (.ref f) = true) (hb : Binds X.K fd [] [])
    (hx : ∀ σ, PassesAt (L2.CX X.prog X.w) X σ (WE c.W σ)) (hdb : (x == ("__debug__" : Str)) = false := by decide) :
    DE X c false (.Call (.Name x p) [] [] pos) (kCall [] [] den kNil) := by
  have run : PE X (.Call (.Name x p) [] [] pos) (tCallS (spD c.K c.cls [] den) (WE c.W) tNil) := by
    refine ⟨fun pins s σ H Q I h => ?_⟩
    refine wpAny_Call_Name_kw (ld_glob I hg hm ?_ hdb)
    exact PySem.W.callWith_K0 I.kIn hk (run_fnS G hr hb (hx σ) I .nil h)
  refine ⟨Pu.no, run.weak fun σ H Q q => ?_⟩
  have := t_call (p1 := true) (fa := kNil) (ios := []) q
  obtain ⟨env, ts, us, R, q'⟩ := this
  exact q' [] H R rfl rfl (fun k i z => by simp at z) fun _ => Ex.refl H
/-- a slot's own list op e -/
def kPk0 (g : PyData → PyData → Option O) (i : Nat) (f : EF) : EF := fun env => match getP env i [] with
  | some _ => (f env).bind fun o2 e2 => match getP e2 i [], o2.toD with
    | some o, some d2 => match o.toD with
      | some d1 => match g d1 d2 with
        | some (.dat z) => if flatD z = true then .ok (.dat z) e2 else .no
        | _ => .no
      | none => .no
    | _, _ => .no
  | none => .no
theorem t_pk0 {i : Nat} {r : R2} {g : PyData → PyData → Option O} {f : EF} {σ : L2.St} {H : Hp} {Q : VK} (hr : Op2 c.K r g) (q : tE c false (kPk0 g i f) σ H Q) : tOp r (tP c i []) (tE c p1 f) σ H Q := by
  obtain ⟨env, ts, us, R, q⟩ := q
  unfold kPk0 at q
  split at q
  · rename_i o0 eg0
    refine ⟨env, ts, us, o0, R, eg0, fun v hv => ⟨env, ts, us, R, ?_⟩⟩
    unfold RE.bind at q
    cases e1 : f env with
    | no => rw [e1] at q; exact q.elim
    | err x en => rw [e1] at q; exact q
    | ok o2 en =>
      rw [e1] at q
      intro y H2 R2 x2
      simp only at q
      split at q
      · rename_i o d2 eg ed2
        split at q
        · rename_i d1 ed
          split at q
          · rename_i z ez
            split at q
            · rename_i hz
              have R3 := R2.freeze ed2
              obtain ⟨v', ev, rv⟩ := R3.peek eg ed
              rw [valP_nil (H := H), hv] at ev
              cases ev
              obtain ⟨F, f, ry, _⟩ := Rp.dat R3
              refine hr H2 H2 v y d1 d2 (.dat z) (Ex.refl H2) rv (f.sub.dp _ _ ry) ez Q (R3.pop.res hz fun w H' R' x' => q w H' R' fun h => nomatch h)
            · exact q.elim
          · exact q.elim
        · exact q.elim
      · exact q.elim
  · exact q.elim
theorem de_pk0 {i : Nat} {op : CmpOp} {a b : Expr} {r : R2} {g : PyData → PyData → Option O} {f : EF} {pos : Pos} (ho : OpR X (compareOp op) r) (hr : Op2 c.K r g) (ha : DPl X c a i []) (hb : DE X c p1 b f) (hm : behindInMarks op b = false) : DE X c false (.Compare a [op] [b] pos) (kPk0 g i f) :=
  ⟨Pu.no, (pe_cmpR ho ha.run hb.run hm).weak fun _ _ _ q => t_pk0 hr q⟩
theorem dt_pk0 {i : Nat} {op : CmpOp} {a b : Expr} {r : R2} {g : PyData → PyData → Option O} {f : EF} {pos : Pos} (ho : OpR X (compareOp op) r) (hr : Op2 c.K r g) (ha : DPl X c a i []) (hb : DE X c p1 b f) (hm : behindInMarks op b = false) : DT X c false (.Compare a [op] [b] pos) (kB (kPk0 g i f)) :=
  ⟨Pu.no, (pt_cmpR ho ha.run hb.run hm).weak fun _ _ _ q => t_pk0 hr (t_kB q)⟩
end
end DP
end

section

end

section
namespace DP.G
open PySem PySem.Spec PyProof.Rows L2
def c_LOWS : PyData := .tuple [.int 1, .int 1, .int 0, .int 0, .int 0, .int 0]
def c_HIGHS : PyData := .tuple [.int 4, .int 30, .int 3, .int 30, .int 10, .int 30]
def c_MAX_READER : PyData := .int 999
def c_MAX_EVENTS : PyData := .int 600
def c_MAX_DAYS : PyData := .int 1000
def c_WORDS : PyData := .tuple [.str "borrow", .str "return", .str "renew", .str "wait", .str "leave"]
def c_MOST_DAYS : PyData := .int 1000000000000
def c_MAX_PLACE : PyData := .int 20
def c_LAST_READER : PyData := .int 99
def c_MAX_PLAN : PyData := .int 60
def c_STRANGER : PyData := .int 500
def c_ITEMS : PyData := .int 6
def c_MOST_RULES : PyData := .int 6
/-- is_integer: value, low, high -/
def g_is_integer : Env → RS := kRt (kAndV (k1 (gIsi "int") (kVar 0)) (kAndV (kNotV (k1 (gIsi "bool") (kVar 0))) (kCh gLe gLe (kVar 1) (kVar 0) (kVar 2))))
def d_is_integer : List O → RF := fun os => finF [false, false, false] (g_is_integer (startE [false, false, false] os 3))
/-- is_reader: value -/
def g_is_reader : Env → RS := kRt (kCall [false, false, false] [none, none, none] d_is_integer (kCons (kVar 0) (kCons (kD (.int 0)) (kCons (kD c_MAX_READER) (kNil)))))
def d_is_reader : List O → RF := fun os => finF [false] (g_is_reader (startE [false] os 1))
/-- is_rules: value, item, low, high -/
def g_is_rules : Env → RS := kSq (kIf (kOr (kNot (kB (k1 (gIsi "tuple") (kVar 0)))) (kB (k2 gNe (kn gLen (kCons (kVar 0) (kNil))) (kD (.int 6))))) (kRt (kD (.bool false))) (kNx)) (kRt (kn gAll (kCons (kLc [1, 2, 3] (kZip3 (kCons (kVar 0) (kCons (kD c_LOWS) (kCons (kD c_HIGHS) (kNil))))) (hTup 3 (hCons (hName 1) (hCons (hName 2) (hCons (hName 3) (hNil))))) (kYes) (kCall [false, false, false] [none, none, none] d_is_integer (kCons (kVar 1) (kCons (kVar 2) (kCons (kVar 3) (kNil)))))) (kNil))))
def d_is_rules : List O → RF := fun os => finF [false] (g_is_rules (startE [false] os 4))
/-- is_event: value -/
def g_is_event : Env → RS := kSq (kIf (kOr (kNot (kB (k1 (gIsi "tuple") (kVar 0)))) (kOr (kB (k2 gNe (kn gLen (kCons (kVar 0) (kNil))) (kD (.int 2)))) (kNot (kB (k1 (gIsi "str") (k2 gIx (kVar 0) (kD (.int 0)))))))) (kRt (kD (.bool false))) (kNx)) (kSq (kIf (kB (k2 gEq (k2 gIx (kVar 0) (kD (.int 0))) (kD (.str "days")))) (kRt (kCall [false, false, false] [none, none, none] d_is_integer (kCons (k2 gIx (kVar 0) (kD (.int 1))) (kCons (kD (.int 1)) (kCons (kD c_MAX_DAYS) (kNil)))))) (kNx)) (kRt (kAndV (k2 gIn (k2 gIx (kVar 0) (kD (.int 0))) (kD c_WORDS)) (kCall [false] [none] d_is_reader (kCons (k2 gIx (kVar 0) (kD (.int 1))) (kNil))))))
def d_is_event : List O → RF := fun os => finF [false] (g_is_event (startE [false] os 1))
/-- is_history: value, event -/
def g_is_history : Env → RS := kRt (kAndV (k1 (gIsi "tuple") (kVar 0)) (kAndV (k2 gLe (kn gLen (kCons (kVar 0) (kNil))) (kD c_MAX_EVENTS)) (kn gAll (kCons (kLc [1] (kIt (kVar 0)) (hName 1) (kYes) (kCall [false] [none] d_is_event (kCons (kVar 1) (kNil)))) (kNil)))))
def d_is_history : List O → RF := fun os => finF [false] (g_is_history (startE [false] os 2))
/-- _law_source: script, k, cell, primes, seed -/
def g__law_source : Env → RS := kSq (kAs (kD (.int 0)) (hName 2)) (kSq (kIf (kB (k2 gLt (kVar 1) (kn gLen (kCons (kVar 0) (kNil))))) (kAs (k2 gIx (kVar 0) (kVar 1)) (hName 2)) (kNx)) (kSq (kAs (kMk .lst (kCons (kD (.int 2147483647)) (kCons (kD (.int 2147483629)) (kCons (kD (.int 2147483587)) (kCons (kD (.int 2147483579)) (kCons (kD (.int 2147483563)) (kCons (kD (.int 2147483549)) (kCons (kD (.int 2147483543)) (kCons (kD (.int 2147483497)) (kNil)))))))))) (hName 3)) (kSq (kAs (k2 gMod (k2 gMul (k2 gAdd (k2 gMod (kVar 2) (kD (.int 2147483489))) (kD (.int 1))) (k2 gAdd (kD (.int 48271)) (k2 gMul (kD (.int 2)) (kVar 1)))) (kD (.int 2147483489))) (hName 4)) (kSq (kAs (k2 gAdd (k2 gAdd (k2 gMod (k2 gMul (kVar 4) (kVar 4)) (kD (.int 2147483477))) (kVar 1)) (kD (.int 1))) (hName 4)) (kSq (kIf (kB (k2 gGe (kVar 2) (k2 gPow (kD (.int 10)) (kD (.int 18))))) (kRt (kMk .lst (kCons (kVar 2) (kCons (kVar 4) (kCons (k2 gIx (kFrz 3) (k2 gMod (kVar 1) (kD (.int 8)))) (kNil)))))) (kNx)) (kRt (kMk .lst (kCons (kD (.int 0)) (kCons (kVar 4) (kCons (k2 gIx (kFrz 3) (k2 gMod (kVar 1) (kD (.int 8)))) (kNil)))))))))))
def d__law_source : List O → RF := fun os => finF [false, false] (g__law_source (startE [false, false] os 5))
/-- _law_pick: source, size, drawn -/
def g__law_pick : Env → RS := kSq (kIf (kB (k2 gGt (kLeaf 0 ([] ++ [0])) (kD (.int 0)))) (kSq (kAs (k2 gMod (kLeaf 0 ([] ++ [0])) (kVar 1)) (hName 2)) (kSq (kSetP 0 [] 0 (k2 gDiv (kLeaf 0 ([] ++ [0])) (kVar 1))) (kRt (kVar 2)))) (kNx)) (kSq (kSetP 0 [] 1 (k2 gAdd (k2 gMod (k2 gMul (kLeaf 0 ([] ++ [1])) (kD (.int 48271))) (kLeaf 0 ([] ++ [2]))) (kD (.int 1)))) (kRt (k2 gMod (k2 gDiv (k2 gMod (k2 gMul (kLeaf 0 ([] ++ [1])) (kLeaf 0 ([] ++ [1]))) (kD (.int 2147483423))) (kD (.int 7))) (kVar 1))))
def d__law_pick : List O → RF := fun os => finF [true, false] (g__law_pick (startE [true, false] os 3))
/-- _law_is_bool: actual, expected -/
def g__law_is_bool : Env → RS := kRt (kAndV (k1 (gIsi "bool") (kVar 0)) (k2 gEq (kVar 0) (kVar 1)))
def d__law_is_bool : List O → RF := fun os => finF [false, false] (g__law_is_bool (startE [false, false] os 2))
/-- _law_is_integer: value, low, high -/
def g__law_is_integer : Env → RS := kRt (kAndV (k1 (gIsi "int") (kVar 0)) (kAndV (kNotV (k1 (gIsi "bool") (kVar 0))) (kAndV (k2 gLe (kVar 1) (kVar 0)) (k2 gLe (kVar 0) (kVar 2)))))
def d__law_is_integer : List O → RF := fun os => finF [false, false, false] (g__law_is_integer (startE [false, false, false] os 3))
/-- _law_rules: source, copies_so, loan_so, window_so, ready_so, rest_so -/
def g__law_rules : Env → RS := kSq (kAs (k2 gAdd (kD (.int 1)) (kCall [true, false] [some 0, none] d__law_pick (kCons (kMark 0) (kCons (kD (.int 4)) (kNil))))) (hName 1)) (kSq (kAs (k2 gAdd (kD (.int 1)) (kCall [true, false] [some 0, none] d__law_pick (kCons (kMark 0) (kCons (k2 gIx (kMk .lst (kCons (kD (.int 4)) (kCons (kD (.int 30)) (kNil)))) (kCall [true, false] [some 0, none] d__law_pick (kCons (kMark 0) (kCons (kD (.int 2)) (kNil))))) (kNil))))) (hName 2)) (kSq (kAs (kCall [true, false] [some 0, none] d__law_pick (kCons (kMark 0) (kCons (k2 gIx (kMk .lst (kCons (kD (.int 4)) (kCons (kD (.int 31)) (kNil)))) (kCall [true, false] [some 0, none] d__law_pick (kCons (kMark 0) (kCons (kD (.int 2)) (kNil))))) (kNil)))) (hName 3)) (kSq (kAs (kCall [true, false] [some 0, none] d__law_pick (kCons (kMark 0) (kCons (k2 gIx (kMk .lst (kCons (kD (.int 3)) (kCons (kD (.int 11)) (kNil)))) (kCall [true, false] [some 0, none] d__law_pick (kCons (kMark 0) (kCons (kD (.int 2)) (kNil))))) (kNil)))) (hName 4)) (kSq (kAs (kCall [true, false] [some 0, none] d__law_pick (kCons (kMark 0) (kCons (k2 gIx (kMk .lst (kCons (kD (.int 3)) (kCons (kD (.int 31)) (kNil)))) (kCall [true, false] [some 0, none] d__law_pick (kCons (kMark 0) (kCons (kD (.int 2)) (kNil))))) (kNil)))) (hName 5)) (kRt (kMk .tup (kCons (kVar 1) (kCons (kVar 2) (kCons (kCall [true, false] [some 0, none] d__law_pick (kCons (kMark 0) (kCons (kD (.int 4)) (kNil)))) (kCons (kVar 3) (kCons (kVar 4) (kCons (kVar 5) (kNil)))))))))))))
def d__law_rules : List O → RF := fun os => finF [true] (g__law_rules (startE [true] os 6))
/-- _law_first: rules_so -/
def g__law_first : Env → RS := kRt (kMk .lst (kCons (kD (.int 0)) (kCons (k2 gIx (kVar 0) (kD (.int 0))) (kCons (kDNew) (kCons (kDNew) (kCons (kMk .lst (kNil)) (kCons (kDNew) (kNil))))))))
def d__law_first : List O → RF := fun os => finF [false] (g__law_first (startE [false] os 1))
/-- _law_back: rules_so, state_so -/
def g__law_back : Env → RS := kIf (kB (kPkL gEq 1 ([] ++ [4]) (kMk .lst (kNil)))) (kSetP 1 [] 1 (k2 gAdd (kLeaf 1 ([] ++ [1])) (kD (.int 1)))) (kDPutPop 1 3 4 (k2 gAdd (kLeaf 1 ([] ++ [0])) (k2 gIx (kVar 0) (kD (.int 4)))))
def d__law_back : List O → RF := fun os => finF [false, true] (g__law_back (startE [false, true] os 2))
/-- _law_may_come: state_so, who -/
def g__law_may_come : Env → RS := kRt (kAndV (kDIn true 0 ([] ++ [2]) (kVar 1)) (k2 gLe (kDGet2 0 ([] ++ [5]) (kVar 1) (kD (.int 0))) (kLeaf 0 ([] ++ [0]))))
def d__law_may_come : List O → RF := fun os => finF [true, false] (g__law_may_come (startE [true, false] os 2))
/-- _law_borrow: rules_so, state_so, who -/
def g__law_borrow : Env → RS := kSq (kIf (kOr (kNot (kB (kCall [true, false] [some 1, none] d__law_may_come (kCons (kMark 1) (kCons (kVar 2) (kNil)))))) (kAnd (kB (kDIn true 1 ([] ++ [3]) (kVar 2))) (kB (k2 gEq (kLeaf 1 ([] ++ [1])) (kD (.int 0)))))) (kRt (kD (.bool false))) (kNx)) (kSq (kIf (kB (kDIn false 1 ([] ++ [3]) (kVar 2))) (kEx (kDPop 1 ([] ++ [3]) (kVar 2))) (kSetP 1 [] 1 (k2 gSub (kLeaf 1 ([] ++ [1])) (kD (.int 1))))) (kSq (kDPut 1 ([] ++ [2]) (kMk .lst (kCons (k2 gAdd (kLeaf 1 ([] ++ [0])) (k2 gIx (kVar 0) (kD (.int 1)))) (kCons (kD (.int 0)) (kNil)))) (kVar 2)) (kRt (kD (.bool true)))))
def d__law_borrow : List O → RF := fun os => finF [false, true, false] (g__law_borrow (startE [false, true, false] os 3))
/-- _law_renew: rules_so, state_so, who, due_so, count -/
def g__law_renew : Env → RS := kSq (kIf (kOr (kB (kDIn true 1 ([] ++ [2]) (kVar 2))) (kB (kPkL gNe 1 ([] ++ [4]) (kMk .lst (kNil))))) (kRt (kD (.bool false))) (kNx)) (kSq (kAs (kDGet 1 ([] ++ [2]) (kVar 2)) (hTupL 2 (hCons (hName 3) (hCons (hName 4) (hNil))))) (kSq (kIf (kOr (kB (k2 gEq (kVar 4) (k2 gIx (kVar 0) (kD (.int 2))))) (kB (k2 gGt (k2 gSub (kVar 3) (kLeaf 1 ([] ++ [0]))) (k2 gIx (kVar 0) (kD (.int 3)))))) (kRt (kD (.bool false))) (kNx)) (kSq (kDPut 1 ([] ++ [2]) (kMk .lst (kCons (k2 gAdd (kVar 3) (k2 gIx (kVar 0) (kD (.int 1)))) (kCons (k2 gAdd (kVar 4) (kD (.int 1))) (kNil)))) (kVar 2)) (kRt (kD (.bool true))))))
def d__law_renew : List O → RF := fun os => finF [false, true, false] (g__law_renew (startE [false, true, false] os 5))
/-- _law_wait: rules_so, state_so, who -/
def g__law_wait : Env → RS := kSq (kIf (kOr (kNot (kB (kCall [true, false] [some 1, none] d__law_may_come (kCons (kMark 1) (kCons (kVar 2) (kNil)))))) (kOr (kB (kDIn false 1 ([] ++ [3]) (kVar 2))) (kB (kPkR gIn (kVar 2) 1 ([] ++ [4]))))) (kRt (kD (.bool false))) (kNx)) (kSq (kEx (kAppP 1 ([] ++ [4]) (kCons (kVar 2) (kNil)))) (kSq (kIf (kB (k2 gGt (kLeaf 1 ([] ++ [1])) (kD (.int 0)))) (kSq (kSetP 1 [] 1 (k2 gSub (kLeaf 1 ([] ++ [1])) (kD (.int 1)))) (kEx (kCall [false, true] [none, some 1] d__law_back (kCons (kVar 0) (kCons (kMark 1) (kNil)))))) (kNx)) (kRt (kD (.bool true)))))
def d__law_wait : List O → RF := fun os => finF [false, true, false] (g__law_wait (startE [false, true, false] os 3))
/-- _law_leave: rules_so, state_so, who -/
def g__law_leave : Env → RS := kSq (kIf (kB (kPkR gIn (kVar 2) 1 ([] ++ [4]))) (kSq (kEx (kPopP 1 ([] ++ [4]) (kCons (kIdxP 1 ([] ++ [4]) (kCons (kVar 2) (kNil))) (kNil)))) (kRt (kD (.bool true)))) (kNx)) (kSq (kIf (kB (kDIn true 1 ([] ++ [3]) (kVar 2))) (kRt (kD (.bool false))) (kNx)) (kSq (kEx (kDPop 1 ([] ++ [3]) (kVar 2))) (kSq (kEx (kCall [false, true] [none, some 1] d__law_back (kCons (kVar 0) (kCons (kMark 1) (kNil))))) (kRt (kD (.bool true))))))
def d__law_leave : List O → RF := fun os => finF [false, true, false] (g__law_leave (startE [false, true, false] os 3))
/-- _law_day: rules_so, state_so, over, who -/
def l__law_day_0 : Env → RS := kSq (kEx (kDPop 1 ([] ++ [3]) (kVar 3))) (kEx (kCall [false, true] [none, some 1] d__law_back (kCons (kVar 0) (kCons (kMark 1) (kNil)))))
def g__law_day : Env → RS := kSq (kIf (kB (k2 gNe (kDue 1 3 2 0) (kMk .lst (kNil)))) (kRt (kD (.bool false))) (kNx)) (kSq (kSetP 1 [] 0 (k2 gAdd (kLeaf 1 ([] ++ [0])) (kD (.int 1)))) (kSq (kAs (kLc [3] (kIt (kDSrt 1 ([] ++ [3]))) (hName 3) (kB (k2 gLt (kDGet 1 ([] ++ [3]) (kVar 3)) (kLeaf 1 ([] ++ [0])))) (kVar 3)) (hName 2)) (kSq (kFor (kIt (kFrz 2)) (hName 3) l__law_day_0) (kRt (kD (.bool true))))))
def d__law_day : List O → RF := fun os => finF [false, true] (g__law_day (startE [false, true] os 4))
/-- _law_happens: rules_so, state_so, event_so, word, value, turn -/
def l__law_happens_0 : Env → RS := kIf (kNot (kB (kCall [false, true] [none, some 1] d__law_day (kCons (kVar 0) (kCons (kMark 1) (kNil)))))) (kRt (kD (.bool false))) (kNx)
def g__law_happens : Env → RS := kSq (kAs (kVar 2) (hTup 2 (hCons (hName 3) (hCons (hName 4) (hNil))))) (kSq (kIf (kB (k2 gEq (kVar 3) (kD (.str "borrow")))) (kRt (kCall [false, true, false] [none, some 1, none] d__law_borrow (kCons (kVar 0) (kCons (kMark 1) (kCons (kVar 4) (kNil)))))) (kNx)) (kSq (kIf (kB (k2 gEq (kVar 3) (kD (.str "renew")))) (kRt (kCall [false, true, false] [none, some 1, none] d__law_renew (kCons (kVar 0) (kCons (kMark 1) (kCons (kVar 4) (kNil)))))) (kNx)) (kSq (kIf (kB (k2 gEq (kVar 3) (kD (.str "wait")))) (kRt (kCall [false, true, false] [none, some 1, none] d__law_wait (kCons (kVar 0) (kCons (kMark 1) (kCons (kVar 4) (kNil)))))) (kNx)) (kSq (kIf (kB (k2 gEq (kVar 3) (kD (.str "leave")))) (kRt (kCall [false, true, false] [none, some 1, none] d__law_leave (kCons (kVar 0) (kCons (kMark 1) (kCons (kVar 4) (kNil)))))) (kNx)) (kSq (kIf (kB (k2 gEq (kVar 3) (kD (.str "return")))) (kSq (kIf (kB (kDIn true 1 ([] ++ [2]) (kVar 4))) (kRt (kD (.bool false))) (kNx)) (kSq (kEx (kDPop 1 ([] ++ [2]) (kVar 4))) (kSq (kDPut 1 ([] ++ [5]) (k2 gAdd (kLeaf 1 ([] ++ [0])) (k2 gIx (kVar 0) (kD (.int 5)))) (kVar 4)) (kSq (kEx (kCall [false, true] [none, some 1] d__law_back (kCons (kVar 0) (kCons (kMark 1) (kNil))))) (kRt (kD (.bool true))))))) (kNx)) (kSq (kFor (kRng1 (kCons (kVar 4) (kNil))) (hName 5) l__law_happens_0) (kRt (kD (.bool true)))))))))
def d__law_happens : List O → RF := fun os => finF [false, true, false] (g__law_happens (startE [false, true, false] os 6))
/-- _law_history: source, rules_so, most, wild, state_so, found, turn, way, who, word, lent, event_so, limit, copy, one -/
def l__law_history_0 : Env → RS := kSq (kAs (kCall [true, false] [some 0, none] d__law_pick (kCons (kMark 0) (kCons (kD (.int 9)) (kNil)))) (hName 7)) (kSq (kAs (kCall [true, false] [some 0, none] d__law_pick (kCons (kMark 0) (kCons (kD (.int 7)) (kNil)))) (hName 8)) (kSq (kAs (k2 gIx (kMk .lst (kCons (kD (.str "borrow")) (kCons (kD (.str "borrow")) (kCons (kD (.str "return")) (kCons (kD (.str "renew")) (kCons (kD (.str "wait")) (kCons (kD (.str "wait")) (kCons (kD (.str "leave")) (kCons (kD (.str "days")) (kCons (kD (.str "days")) (kNil))))))))))) (kVar 7)) (hName 9)) (kSq (kAs (kDSrt 4 ([] ++ [2])) (hName 10)) (kSq (kIf (kAnd (kB (k2 gIn (kVar 9) (kMk .tup (kCons (kD (.str "return")) (kCons (kD (.str "renew")) (kNil)))))) (kB (k2 gNe (kFrz 10) (kMk .lst (kNil))))) (kAs (k2 gIx (kFrz 10) (kCall [true, false] [some 0, none] d__law_pick (kCons (kMark 0) (kCons (kn gLen (kCons (kFrz 10) (kNil))) (kNil))))) (hName 8)) (kNx)) (kSq (kAs (kMk .tup (kCons (kVar 9) (kCons (kVar 8) (kNil)))) (hName 11)) (kSq (kIf (kB (k2 gEq (kVar 9) (kD (.str "days")))) (kSq (kAs (kMk .tup (kCons (kVar 9) (kCons (k2 gAdd (kD (.int 1)) (kCall [true, false] [some 0, none] d__law_pick (kCons (kMark 0) (kCons (k2 gIx (kMk .lst (kCons (kD (.int 2)) (kCons (k2 gAdd (k2 gIx (kVar 1) (kD (.int 1))) (kD (.int 2))) (kNil)))) (kCall [true, false] [some 0, none] d__law_pick (kCons (kMark 0) (kCons (kD (.int 2)) (kNil))))) (kNil))))) (kNil)))) (hName 11)) (kSq (kAs (k2 gSub (kn gMinL (kCons (k2 gAdd (kLc [14] (kIt (kFrz 10)) (hName 14) (kYes) (k2 gIx (kDGet 4 ([] ++ [2]) (kVar 14)) (kD (.int 0)))) (kMk .lst (kCons (k2 gPow (kD (.int 10)) (kD (.int 6))) (kNil)))) (kNil))) (kLeaf 4 ([] ++ [0]))) (hName 12)) (kIf (kB (k2 gEq (kVar 12) (kD (.int 0)))) (kAs (kMk .tup (kCons (kD (.str "return")) (kCons (k2 gIx (kLc [14] (kIt (kFrz 10)) (hName 14) (kB (k2 gEq (k2 gIx (kDGet 4 ([] ++ [2]) (kVar 14)) (kD (.int 0))) (kLeaf 4 ([] ++ [0])))) (kVar 14)) (kD (.int 0))) (kNil)))) (hName 11)) (kIf (kOr (kNot (kB (kVar 3))) (kB (k2 gGt (kCall [true, false] [some 0, none] d__law_pick (kCons (kMark 0) (kCons (kD (.int 8)) (kNil)))) (kD (.int 0))))) (kAs (kMk .tup (kCons (kVar 9) (kCons (kn gMin2 (kCons (kVar 12) (kCons (k2 gIx (kVar 11) (kD (.int 1))) (kNil)))) (kNil)))) (hName 11)) (kNx))))) (kNx)) (kSq (kAs (kMk .lst (kCons (kLeaf 4 ([] ++ [0])) (kCons (kLeaf 4 ([] ++ [1])) (kCons (kDCpy 4 ([] ++ [2])) (kCons (kDCpy 4 ([] ++ [3])) (kCons (kLsP 4 ([] ++ [4])) (kCons (kDCpy 4 ([] ++ [5])) (kNil)))))))) (hName 13)) (kIf (kB (kCall [false, true, false] [none, some 13, none] d__law_happens (kCons (kVar 1) (kCons (kMark 13) (kCons (kVar 11) (kNil)))))) (kSq (kAs (kMov 13) (hName 4)) (kAs (k2 gAdd (kVar 5) (kMk .tup (kCons (kVar 11) (kNil)))) (hName 5))) (kIf (kAnd (kB (kVar 3)) (kB (k2 gEq (kCall [true, false] [some 0, none] d__law_pick (kCons (kMark 0) (kCons (kD (.int 6)) (kNil)))) (kD (.int 0))))) (kAs (k2 gAdd (kVar 5) (kMk .tup (kCons (kVar 11) (kNil)))) (hName 5)) (kNx))))))))))
def g__law_history : Env → RS := kSq (kAs (kMk .tup (kCons (kCall [false] [none] d__law_first (kCons (kVar 1) (kNil))) (kCons (kMk .tup (kNil)) (kNil)))) (hTup 2 (hCons (hName 4) (hCons (hName 5) (hNil))))) (kSq (kFor (kRng1 (kCons (kCall [true, false] [some 0, none] d__law_pick (kCons (kMark 0) (kCons (k2 gAdd (kVar 2) (kD (.int 1))) (kNil)))) (kNil))) (hName 6) l__law_history_0) (kRt (kVar 5)))
def d__law_history : List O → RF := fun os => finF [true, false, false, false] (g__law_history (startE [true, false, false, false] os 15))
/-- require_rules: value -/
def g_require_rules : Env → RS := kIf (kNot (kB (kCall [false] [none] d_is_rules (kCons (kVar 0) (kNil))))) ((fun env => .err "InvalidRules" env)) (kNx)
def d_require_rules : List O → RF := fun os => finF [false] (g_require_rules (startE [false] os 1))
/-- require_history: value -/
def g_require_history : Env → RS := kIf (kNot (kB (kCall [false] [none] d_is_history (kCons (kVar 0) (kNil))))) ((fun env => .err "InvalidHistory" env)) (kNx)
def d_require_history : List O → RF := fun os => finF [false] (g_require_history (startE [false] os 1))
/-- first_state: rules -/
def g_first_state : Env → RS := kRt (kMk .tup (kCons (kD (.int 0)) (kCons (k2 gIx (kVar 0) (kD (.int 0))) (kCons (kMk .tup (kNil)) (kCons (kMk .tup (kNil)) (kCons (kMk .tup (kNil)) (kCons (kMk .tup (kNil)) (kNil))))))))
def d_first_state : List O → RF := fun os => finF [false] (g_first_state (startE [false] os 1))
/-- without: rows, reader, row -/
def g_without : Env → RS := kRt (kn gTuple (kCons (kLc [2] (kIt (kVar 0)) (hName 2) (kB (k2 gNe (k2 gIx (kVar 2) (kD (.int 0))) (kVar 1))) (kVar 2)) (kNil)))
def d_without : List O → RF := fun os => finF [false, false] (g_without (startE [false, false] os 3))
/-- row_of: rows, reader, some, row -/
def g_row_of : Env → RS := kSq (kAs (kLc [3] (kIt (kVar 0)) (hName 3) (kB (k2 gEq (k2 gIx (kVar 3) (kD (.int 0))) (kVar 1))) (kVar 3)) (hName 2)) (kRt (kIte (kB (k2 gNe (kFrz 2) (kMk .lst (kNil)))) (k2 gIx (kFrz 2) (kD (.int 0))) (kD .none)))
def d_row_of : List O → RF := fun os => finF [false, false] (g_row_of (startE [false, false] os 4))
/-- come_back: rules, state, day, shelf, loans, ready, waiting, rests, later -/
def g_come_back : Env → RS := kSq (kAs (kVar 1) (hTup 6 (hCons (hName 2) (hCons (hName 3) (hCons (hName 4) (hCons (hName 5) (hCons (hName 6) (hCons (hName 7) (hNil))))))))) (kSq (kIf (kB (k2 gEq (kVar 6) (kMk .tup (kNil)))) (kRt (kMk .tup (kCons (kVar 2) (kCons (k2 gAdd (kVar 3) (kD (.int 1))) (kCons (kVar 4) (kCons (kVar 5) (kCons (kVar 6) (kCons (kVar 7) (kNil))))))))) (kNx)) (kSq (kAs (kn gTuple (kCons (kn gSortA (kCons (k2 gAdd (kVar 5) (kMk .tup (kCons (kMk .tup (kCons (k2 gIx (kVar 6) (kD (.int 0))) (kCons (k2 gAdd (kVar 2) (k2 gIx (kVar 0) (kD (.int 4)))) (kNil)))) (kNil)))) (kNil))) (kNil))) (hName 8)) (kRt (kMk .tup (kCons (kVar 2) (kCons (kVar 3) (kCons (kVar 4) (kCons (kVar 8) (kCons (kSl (kVar 6) (kPart (kD (.int 1))) kNoPart) (kCons (kVar 7) (kNil)))))))))))
def d_come_back : List O → RF := fun os => finF [false, false] (g_come_back (startE [false, false] os 9))
/-- can_come: state, reader, day, shelf, loans, ready, waiting, rests, rest -/
def g_can_come : Env → RS := kSq (kAs (kVar 0) (hTup 6 (hCons (hName 2) (hCons (hName 3) (hCons (hName 4) (hCons (hName 5) (hCons (hName 6) (hCons (hName 7) (hNil))))))))) (kSq (kAs (kCall [false, false] [none, none] d_row_of (kCons (kVar 7) (kCons (kVar 1) (kNil)))) (hName 8)) (kRt (kAndV (k2 gIs (kCall [false, false] [none, none] d_row_of (kCons (kVar 4) (kCons (kVar 1) (kNil)))) (kD .none)) (kOrV (k2 gIs (kVar 8) (kD .none)) (k2 gLe (k2 gIx (kVar 8) (kD (.int 1))) (kVar 2))))))
def d_can_come : List O → RF := fun os => finF [false, false] (g_can_come (startE [false, false] os 9))
/-- borrowed: rules, state, reader, day, shelf, loans, ready, waiting, rests, later -/
def g_borrowed : Env → RS := kSq (kAs (kVar 1) (hTup 6 (hCons (hName 3) (hCons (hName 4) (hCons (hName 5) (hCons (hName 6) (hCons (hName 7) (hCons (hName 8) (hNil))))))))) (kSq (kIf (kNot (kB (kCall [false, false] [none, none] d_can_come (kCons (kVar 1) (kCons (kVar 2) (kNil)))))) (kRt (kD .none)) (kNx)) (kSq (kAs (kn gTuple (kCons (kn gSortA (kCons (k2 gAdd (kVar 5) (kMk .tup (kCons (kMk .tup (kCons (kVar 2) (kCons (k2 gAdd (kVar 3) (k2 gIx (kVar 0) (kD (.int 1)))) (kCons (kD (.int 0)) (kNil))))) (kNil)))) (kNil))) (kNil))) (hName 9)) (kSq (kIf (kB (k2 gIsNot (kCall [false, false] [none, none] d_row_of (kCons (kVar 6) (kCons (kVar 2) (kNil)))) (kD .none))) (kRt (kMk .tup (kCons (kVar 3) (kCons (kVar 4) (kCons (kVar 9) (kCons (kCall [false, false] [none, none] d_without (kCons (kVar 6) (kCons (kVar 2) (kNil)))) (kCons (kVar 7) (kCons (kVar 8) (kNil))))))))) (kNx)) (kRt (kIte (kB (k2 gGt (kVar 4) (kD (.int 0)))) (kMk .tup (kCons (kVar 3) (kCons (k2 gSub (kVar 4) (kD (.int 1))) (kCons (kVar 9) (kCons (kVar 6) (kCons (kVar 7) (kCons (kVar 8) (kNil)))))))) (kD .none))))))
def d_borrowed : List O → RF := fun os => finF [false, false, false] (g_borrowed (startE [false, false, false] os 10))
/-- returned: rules, state, reader, day, shelf, loans, ready, waiting, rests, later -/
def g_returned : Env → RS := kSq (kAs (kVar 1) (hTup 6 (hCons (hName 3) (hCons (hName 4) (hCons (hName 5) (hCons (hName 6) (hCons (hName 7) (hCons (hName 8) (hNil))))))))) (kSq (kIf (kB (k2 gIs (kCall [false, false] [none, none] d_row_of (kCons (kVar 5) (kCons (kVar 2) (kNil)))) (kD .none))) (kRt (kD .none)) (kNx)) (kSq (kAs (k2 gAdd (kCall [false, false] [none, none] d_without (kCons (kVar 8) (kCons (kVar 2) (kNil)))) (kMk .tup (kCons (kMk .tup (kCons (kVar 2) (kCons (k2 gAdd (kVar 3) (k2 gIx (kVar 0) (kD (.int 5)))) (kNil)))) (kNil)))) (hName 9)) (kRt (kCall [false, false] [none, none] d_come_back (kCons (kVar 0) (kCons (kMk .tup (kCons (kVar 3) (kCons (kVar 4) (kCons (kCall [false, false] [none, none] d_without (kCons (kVar 5) (kCons (kVar 2) (kNil)))) (kCons (kVar 6) (kCons (kVar 7) (kCons (kVar 9) (kNil)))))))) (kNil)))))))
def d_returned : List O → RF := fun os => finF [false, false, false] (g_returned (startE [false, false, false] os 10))
/-- renewed: rules, state, reader, day, shelf, loans, ready, waiting, rests, loan, row -/
def g_renewed : Env → RS := kSq (kAs (kVar 1) (hTup 6 (hCons (hName 3) (hCons (hName 4) (hCons (hName 5) (hCons (hName 6) (hCons (hName 7) (hCons (hName 8) (hNil))))))))) (kSq (kAs (kCall [false, false] [none, none] d_row_of (kCons (kVar 5) (kCons (kVar 2) (kNil)))) (hName 9)) (kSq (kIf (kOr (kB (k2 gIs (kVar 9) (kD .none))) (kOr (kB (k2 gNe (kVar 7) (kMk .tup (kNil)))) (kOr (kB (k2 gGe (k2 gIx (kVar 9) (kD (.int 2))) (k2 gIx (kVar 0) (kD (.int 2))))) (kB (k2 gGt (k2 gSub (k2 gIx (kVar 9) (kD (.int 1))) (kVar 3)) (k2 gIx (kVar 0) (kD (.int 3)))))))) (kRt (kD .none)) (kNx)) (kSq (kAs (kMk .tup (kCons (kVar 2) (kCons (k2 gAdd (k2 gIx (kVar 9) (kD (.int 1))) (k2 gIx (kVar 0) (kD (.int 1)))) (kCons (k2 gAdd (k2 gIx (kVar 9) (kD (.int 2))) (kD (.int 1))) (kNil))))) (hName 10)) (kRt (kMk .tup (kCons (kVar 3) (kCons (kVar 4) (kCons (kn gTuple (kCons (kn gSortA (kCons (k2 gAdd (kCall [false, false] [none, none] d_without (kCons (kVar 5) (kCons (kVar 2) (kNil)))) (kMk .tup (kCons (kVar 10) (kNil)))) (kNil))) (kNil))) (kCons (kVar 6) (kCons (kVar 7) (kCons (kVar 8) (kNil))))))))))))
def d_renewed : List O → RF := fun os => finF [false, false, false] (g_renewed (startE [false, false, false] os 11))
/-- waited: rules, state, reader, day, shelf, loans, ready, waiting, rests, later -/
def g_waited : Env → RS := kSq (kAs (kVar 1) (hTup 6 (hCons (hName 3) (hCons (hName 4) (hCons (hName 5) (hCons (hName 6) (hCons (hName 7) (hCons (hName 8) (hNil))))))))) (kSq (kIf (kOr (kNot (kB (kCall [false, false] [none, none] d_can_come (kCons (kVar 1) (kCons (kVar 2) (kNil)))))) (kOr (kB (k2 gIn (kVar 2) (kVar 7))) (kB (k2 gIsNot (kCall [false, false] [none, none] d_row_of (kCons (kVar 6) (kCons (kVar 2) (kNil)))) (kD .none))))) (kRt (kD .none)) (kNx)) (kSq (kAs (kMk .tup (kCons (kVar 3) (kCons (kVar 4) (kCons (kVar 5) (kCons (kVar 6) (kCons (k2 gAdd (kVar 7) (kMk .tup (kCons (kVar 2) (kNil)))) (kCons (kVar 8) (kNil)))))))) (hName 9)) (kSq (kIf (kB (k2 gGt (kVar 4) (kD (.int 0)))) (kRt (kCall [false, false] [none, none] d_come_back (kCons (kVar 0) (kCons (kMk .tup (kCons (kVar 3) (kCons (k2 gSub (kVar 4) (kD (.int 1))) (kCons (kVar 5) (kCons (kVar 6) (kCons (k2 gAdd (kVar 7) (kMk .tup (kCons (kVar 2) (kNil)))) (kCons (kVar 8) (kNil)))))))) (kNil))))) (kNx)) (kRt (kVar 9)))))
def d_waited : List O → RF := fun os => finF [false, false, false] (g_waited (startE [false, false, false] os 10))
/-- left: rules, state, reader, day, shelf, loans, ready, waiting, rests, one -/
def g_left : Env → RS := kSq (kAs (kVar 1) (hTup 6 (hCons (hName 3) (hCons (hName 4) (hCons (hName 5) (hCons (hName 6) (hCons (hName 7) (hCons (hName 8) (hNil))))))))) (kSq (kIf (kB (k2 gIn (kVar 2) (kVar 7))) (kRt (kMk .tup (kCons (kVar 3) (kCons (kVar 4) (kCons (kVar 5) (kCons (kVar 6) (kCons (kn gTuple (kCons (kLc [9] (kIt (kVar 7)) (hName 9) (kB (k2 gNe (kVar 9) (kVar 2))) (kVar 9)) (kNil))) (kCons (kVar 8) (kNil))))))))) (kNx)) (kSq (kIf (kB (k2 gIs (kCall [false, false] [none, none] d_row_of (kCons (kVar 6) (kCons (kVar 2) (kNil)))) (kD .none))) (kRt (kD .none)) (kNx)) (kRt (kCall [false, false] [none, none] d_come_back (kCons (kVar 0) (kCons (kMk .tup (kCons (kVar 3) (kCons (kVar 4) (kCons (kVar 5) (kCons (kCall [false, false] [none, none] d_without (kCons (kVar 6) (kCons (kVar 2) (kNil)))) (kCons (kVar 7) (kCons (kVar 8) (kNil)))))))) (kNil)))))))
def d_left : List O → RF := fun os => finF [false, false, false] (g_left (startE [false, false, false] os 10))
/-- next_day: rules, state, day, shelf, loans, ready, waiting, rests, over, row -/
def l_next_day_0 : Env → RS := kAs (kCall [false, false] [none, none] d_come_back (kCons (kVar 0) (kCons (kVar 1) (kNil)))) (hName 1)
def g_next_day : Env → RS := kSq (kAs (kVar 1) (hTup 6 (hCons (hName 2) (hCons (hName 3) (hCons (hName 4) (hCons (hName 5) (hCons (hName 6) (hCons (hName 7) (hNil))))))))) (kSq (kIf (kB (kn gAny (kCons (kLc [9] (kIt (kVar 4)) (hName 9) (kYes) (k2 gLe (k2 gIx (kVar 9) (kD (.int 1))) (kVar 2))) (kNil)))) (kRt (kD .none)) (kNx)) (kSq (kAs (kLc [9] (kIt (kVar 5)) (hName 9) (kB (k2 gLe (k2 gIx (kVar 9) (kD (.int 1))) (kVar 2))) (kVar 9)) (hName 8)) (kSq (kAs (kMk .tup (kCons (k2 gAdd (kVar 2) (kD (.int 1))) (kCons (kVar 3) (kCons (kVar 4) (kCons (kn gTuple (kCons (kLc [9] (kIt (kVar 5)) (hName 9) (kB (k2 gGt (k2 gIx (kVar 9) (kD (.int 1))) (kVar 2))) (kVar 9)) (kNil))) (kCons (kVar 6) (kCons (kVar 7) (kNil)))))))) (hName 1)) (kSq (kFor (kIt (kFrz 8)) (hName 9) l_next_day_0) (kRt (kVar 1))))))
def d_next_day : List O → RF := fun os => finF [false, false] (g_next_day (startE [false, false] os 10))
/-- passed: rules, state, days, turn -/
def l_passed_0 : Env → RS := kSq (kAs (kCall [false, false] [none, none] d_next_day (kCons (kVar 0) (kCons (kVar 1) (kNil)))) (hName 1)) (kIf (kB (k2 gIs (kVar 1) (kD .none))) (kRt (kD .none)) (kNx))
def g_passed : Env → RS := kSq (kFor (kRng1 (kCons (kVar 2) (kNil))) (hName 3) l_passed_0) (kRt (kVar 1))
def d_passed : List O → RF := fun os => finF [false, false, false] (g_passed (startE [false, false, false] os 4))
/-- next_state: rules, state, event, word, value -/
def g_next_state : Env → RS := kSq (kAs (kVar 2) (hTup 2 (hCons (hName 3) (hCons (hName 4) (hNil))))) (kSq (kIf (kB (k2 gEq (kVar 3) (kD (.str "borrow")))) (kRt (kCall [false, false, false] [none, none, none] d_borrowed (kCons (kVar 0) (kCons (kVar 1) (kCons (kVar 4) (kNil)))))) (kNx)) (kSq (kIf (kB (k2 gEq (kVar 3) (kD (.str "return")))) (kRt (kCall [false, false, false] [none, none, none] d_returned (kCons (kVar 0) (kCons (kVar 1) (kCons (kVar 4) (kNil)))))) (kNx)) (kSq (kIf (kB (k2 gEq (kVar 3) (kD (.str "renew")))) (kRt (kCall [false, false, false] [none, none, none] d_renewed (kCons (kVar 0) (kCons (kVar 1) (kCons (kVar 4) (kNil)))))) (kNx)) (kSq (kIf (kB (k2 gEq (kVar 3) (kD (.str "wait")))) (kRt (kCall [false, false, false] [none, none, none] d_waited (kCons (kVar 0) (kCons (kVar 1) (kCons (kVar 4) (kNil)))))) (kNx)) (kRt (kIte (kB (k2 gEq (kVar 3) (kD (.str "leave")))) (kCall [false, false, false] [none, none, none] d_left (kCons (kVar 0) (kCons (kVar 1) (kCons (kVar 4) (kNil))))) (kCall [false, false, false] [none, none, none] d_passed (kCons (kVar 0) (kCons (kVar 1) (kCons (kVar 4) (kNil)))))))))))
def d_next_state : List O → RF := fun os => finF [false, false, false] (g_next_state (startE [false, false, false] os 5))
/-- run_of: rules, history, state, index, event -/
def l_run_of_0 : Env → RS := kSq (kAs (kCall [false, false, false] [none, none, none] d_next_state (kCons (kVar 0) (kCons (kVar 2) (kCons (kVar 4) (kNil))))) (hName 2)) (kIf (kB (k2 gIs (kVar 2) (kD .none))) (kRt (kMk .tup (kCons (kD .none) (kCons (kVar 3) (kNil))))) (kNx))
def g_run_of : Env → RS := kSq (kAs (kCall [false] [none] d_first_state (kCons (kVar 0) (kNil))) (hName 2)) (kSq (kFor (kEnumA (kCons (kVar 1) (kNil))) (hTup 2 (hCons (hName 3) (hCons (hName 4) (hNil)))) l_run_of_0) (kRt (kMk .tup (kCons (kVar 2) (kCons (kD .none) (kNil))))))
def d_run_of : List O → RF := fun os => finF [false, false] (g_run_of (startE [false, false] os 5))
/-- state_behind: rules, history, state, index -/
def g_state_behind : Env → RS := kSq (kAs (kCall [false, false] [none, none] d_run_of (kCons (kVar 0) (kCons (kVar 1) (kNil)))) (hTup 2 (hCons (hName 2) (hCons (hName 3) (hNil))))) (kSq (kIf (kB (k2 gIs (kVar 2) (kD .none))) ((fun env => .err "NotAllowed" env)) (kNx)) (kRt (kVar 2)))
def d_state_behind : List O → RF := fun os => finF [false, false] (g_state_behind (startE [false, false] os 4))
/-- stand: rules, history -/
def g_stand : Env → RS := kSq (kEx (kCall [false] [none] d_require_rules (kCons (kVar 0) (kNil)))) (kSq (kEx (kCall [false] [none] d_require_history (kCons (kVar 1) (kNil)))) (kRt (kSl (kCall [false, false] [none, none] d_state_behind (kCons (kVar 0) (kCons (kVar 1) (kNil)))) kNoPart (kPart (kD (.int 5))))))
def d_stand : List O → RF := fun os => finF [false, false] (g_stand (startE [false, false] os 2))
/-- first_refused: rules, history -/
def g_first_refused : Env → RS := kSq (kEx (kCall [false] [none] d_require_rules (kCons (kVar 0) (kNil)))) (kSq (kEx (kCall [false] [none] d_require_history (kCons (kVar 1) (kNil)))) (kRt (kIxN 1 (kCall [false, false] [none, none] d_run_of (kCons (kVar 0) (kCons (kVar 1) (kNil)))))))
def d_first_refused : List O → RF := fun os => finF [false, false] (g_first_refused (startE [false, false] os 2))
/-- _law_ran: rules_so, history_so, state_so, index, event_so -/
def l__law_ran_0 : Env → RS := kIf (kNot (kB (kCall [false, true, false] [none, some 2, none] d__law_happens (kCons (kVar 0) (kCons (kMark 2) (kCons (kVar 4) (kNil))))))) (kRt (kMk .tup (kCons (kD .none) (kCons (kVar 3) (kNil))))) (kNx)
def g__law_ran : Env → RS := kSq (kAs (kCall [false] [none] d__law_first (kCons (kVar 0) (kNil))) (hName 2)) (kSq (kFor (kEnumA (kCons (kVar 1) (kNil))) (hTup 2 (hCons (hName 3) (hCons (hName 4) (hNil)))) l__law_ran_0) (kRt (kMk .tup (kCons (kMov 2) (kCons (kD .none) (kNil))))))
def d__law_ran : List O → RF := fun os => finF [false, false] (g__law_ran (startE [false, false] os 5))
/-- _law_told_stand: state_so, loans_so, ready_so, who -/
def g__law_told_stand : Env → RS := kSq (kAs (kn gTuple (kCons (kLc [3] (kIt (kDSrt 0 ([] ++ [2]))) (hName 3) (kYes) (kMk .tup (kCons (kVar 3) (kCons (k2 gIx (kDGet 0 ([] ++ [2]) (kVar 3)) (kD (.int 0))) (kCons (k2 gIx (kDGet 0 ([] ++ [2]) (kVar 3)) (kD (.int 1))) (kNil)))))) (kNil))) (hName 1)) (kSq (kAs (kn gTuple (kCons (kLc [3] (kIt (kDSrt 0 ([] ++ [3]))) (hName 3) (kYes) (kMk .tup (kCons (kVar 3) (kCons (kDGet 0 ([] ++ [3]) (kVar 3)) (kNil))))) (kNil))) (hName 2)) (kRt (kMk .tup (kCons (kLeaf 0 ([] ++ [0])) (kCons (kLeaf 0 ([] ++ [1])) (kCons (kVar 1) (kCons (kVar 2) (kCons (kTpP 0 ([] ++ [4])) (kNil)))))))))
def d__law_told_stand : List O → RF := fun os => finF [true] (g__law_told_stand (startE [true] os 4))
/-- require_number: value, low, high -/
def g_require_number : Env → RS := kIf (kNot (kB (kCall [false, false, false] [none, none, none] d_is_integer (kCons (kVar 0) (kCons (kVar 1) (kCons (kVar 2) (kNil))))))) ((fun env => .err "InvalidNumber" env)) (kNx)
def d_require_number : List O → RF := fun os => finF [false, false, false] (g_require_number (startE [false, false, false] os 3))
/-- longest_loan_of: rules -/
def g_longest_loan_of : Env → RS := kRt (k2 gMul (k2 gIx (kVar 0) (kD (.int 1))) (k2 gAdd (kD (.int 1)) (k2 gIx (kVar 0) (kD (.int 2)))))
def d_longest_loan_of : List O → RF := fun os => finF [false] (g_longest_loan_of (startE [false] os 1))
/-- most_days: rules, days, had, turn -/
def g_most_days : Env → RS := kSq (kEx (kCall [false] [none] d_require_rules (kCons (kVar 0) (kNil)))) (kSq (kEx (kCall [false, false, false] [none, none, none] d_require_number (kCons (kVar 1) (kCons (kD (.int 0)) (kCons (kD c_MOST_DAYS) (kNil)))))) (kSq (kAs (kCall [false] [none] d_longest_loan_of (kCons (kVar 0) (kNil))) (hName 2)) (kSq (kAs (k2 gAdd (kVar 2) (k2 gIx (kVar 0) (kD (.int 5)))) (hName 3)) (kRt (k2 gAdd (k2 gMul (k2 gDiv (kVar 1) (kVar 3)) (kVar 2)) (kn gMin2 (kCons (k2 gMod (kVar 1) (kVar 3)) (kCons (kVar 2) (kNil)))))))))
def d_most_days : List O → RF := fun os => finF [false, false] (g_most_days (startE [false, false] os 4))
/-- rounded_up: top, bottom -/
def g_rounded_up : Env → RS := kRt (k2 gDiv (k2 gSub (k2 gAdd (kVar 0) (kVar 1)) (kD (.int 1))) (kVar 1))
def d_rounded_up : List O → RF := fun os => finF [false, false] (g_rounded_up (startE [false, false] os 2))
/-- renewal_days: rules, count -/
def g_renewal_days : Env → RS := kRt (kLc [1] (kRng2 (kCons (kD (.int 1)) (kCons (k2 gAdd (k2 gIx (kVar 0) (kD (.int 2))) (kD (.int 1))) (kNil)))) (hName 1) (kYes) (kn gMax2 (kCons (kD (.int 0)) (kCons (k2 gSub (k2 gMul (k2 gIx (kVar 0) (kD (.int 1))) (kVar 1)) (k2 gIx (kVar 0) (kD (.int 3)))) (kNil)))))
def d_renewal_days : List O → RF := fun os => finF [false] (g_renewal_days (startE [false] os 2))
/-- best_renewals: rules, rows, index, day, most, count -/
def l_best_renewals_0 : Env → RS := kEx (kApp 1 [] (kCons (kMk .tup (kCons (k2 gSub (k2 gMul (k2 gIx (kVar 0) (kD (.int 1))) (k2 gAdd (kVar 2) (kD (.int 2)))) (kVar 3)) (kCons (k1 gNeg (k2 gAdd (kVar 2) (kD (.int 1)))) (kNil)))) (kNil)))
def g_best_renewals : Env → RS := kSq (kAs (kMk .lst (kCons (kMk .tup (kCons (k2 gIx (kVar 0) (kD (.int 1))) (kCons (kD (.int 0)) (kNil)))) (kNil))) (hName 1)) (kSq (kFor (kEnumA (kCons (kCall [false] [none] d_renewal_days (kCons (kVar 0) (kNil))) (kNil))) (hTup 2 (hCons (hName 2) (hCons (hName 3) (hNil)))) l_best_renewals_0) (kSq (kAs (k2 gIx (kn gSortA (kCons (kFrz 1) (kNil))) (k1 gNeg (kD (.int 1)))) (hTup 2 (hCons (hName 4) (hCons (hName 5) (hNil))))) (kRt (kMk .tup (kCons (kVar 4) (kCons (k1 gNeg (kVar 5)) (kNil)))))))
def d_best_renewals : List O → RF := fun os => finF [false] (g_best_renewals (startE [false] os 6))
/-- turn_of: rules -/
def g_turn_of : Env → RS := kRt (k2 gAdd (k2 gIx (kVar 0) (kD (.int 4))) (k2 gIx (kVar 0) (kD (.int 1))))
def d_turn_of : List O → RF := fun os => finF [false] (g_turn_of (startE [false] os 1))
/-- longest_of: rules, place, first -/
def g_longest_of : Env → RS := kSq (kAs (kn gMax2 (kCons (kIxN 0 (kCall [false] [none] d_best_renewals (kCons (kVar 0) (kNil)))) (kCons (kCall [false] [none] d_turn_of (kCons (kVar 0) (kNil))) (kNil)))) (hName 2)) (kRt (k2 gAdd (kVar 2) (k2 gMul (kCall [false] [none] d_turn_of (kCons (kVar 0) (kNil))) (k2 gSub (kCall [false, false] [none, none] d_rounded_up (kCons (kVar 1) (kCons (k2 gIx (kVar 0) (kD (.int 0))) (kNil)))) (kD (.int 1))))))
def d_longest_of : List O → RF := fun os => finF [false, false] (g_longest_of (startE [false, false] os 3))
/-- longest_wait: rules, place -/
def g_longest_wait : Env → RS := kSq (kEx (kCall [false] [none] d_require_rules (kCons (kVar 0) (kNil)))) (kSq (kEx (kCall [false, false, false] [none, none, none] d_require_number (kCons (kVar 1) (kCons (kD (.int 1)) (kCons (kD c_MAX_PLACE) (kNil)))))) (kRt (kCall [false, false] [none, none] d_longest_of (kCons (kVar 0) (kCons (kVar 1) (kNil))))))
def d_longest_wait : List O → RF := fun os => finF [false, false] (g_longest_wait (startE [false, false] os 2))
/-- days_event: days -/
def g_days_event : Env → RS := kRt (kIte (kB (k2 gGt (kVar 0) (kD (.int 0)))) (kMk .lst (kCons (kMk .tup (kCons (kD (.str "days")) (kCons (kVar 0) (kNil)))) (kNil))) (kMk .lst (kNil)))
def d_days_event : List O → RF := fun os => finF [false] (g_days_event (startE [false] os 1))
/-- renewed_start: rules, count, today, found, day, reader -/
def l_renewed_start_0 : Env → RS := kSq (kAs (k2 gAdd (k2 gAdd (kMov 3) (kCall [false] [none] d_days_event (kCons (k2 gSub (kVar 4) (kVar 2)) (kNil)))) (kLc [5] (kRng1 (kCons (k2 gIx (kVar 0) (kD (.int 0))) (kNil))) (hName 5) (kYes) (kMk .tup (kCons (kD (.str "renew")) (kCons (kVar 5) (kNil)))))) (hName 3)) (kAs (kVar 4) (hName 2))
def g_renewed_start : Env → RS := kSq (kAs (kD (.int 0)) (hName 2)) (kSq (kAs (kLc [5] (kRng1 (kCons (k2 gIx (kVar 0) (kD (.int 0))) (kNil))) (hName 5) (kYes) (kMk .tup (kCons (kD (.str "borrow")) (kCons (kVar 5) (kNil))))) (hName 3)) (kSq (kFor (kIt (kSl (kCall [false] [none] d_renewal_days (kCons (kVar 0) (kNil))) kNoPart (kPart (kVar 1)))) (hName 4) l_renewed_start_0) (kRt (kMov 3))))
def d_renewed_start : List O → RF := fun os => finF [false, false] (g_renewed_start (startE [false, false] os 6))
/-- ready_start: rules, found, reader -/
def g_ready_start : Env → RS := kSq (kAs (kLc [2] (kRng1 (kCons (k2 gIx (kVar 0) (kD (.int 0))) (kNil))) (hName 2) (kYes) (kMk .tup (kCons (kD (.str "borrow")) (kCons (kVar 2) (kNil))))) (hName 1)) (kSq (kAs (k2 gAdd (kMov 1) (kLc [2] (kRng1 (kCons (k2 gIx (kVar 0) (kD (.int 0))) (kNil))) (hName 2) (kYes) (kMk .tup (kCons (kD (.str "wait")) (kCons (k2 gAdd (kD (.int 10)) (kVar 2)) (kNil)))))) (hName 1)) (kSq (kAs (k2 gAdd (kMov 1) (kCall [false] [none] d_days_event (kCons (k2 gIx (kVar 0) (kD (.int 1))) (kNil)))) (hName 1)) (kRt (k2 gAdd (kFrz 1) (kLc [2] (kRng1 (kCons (k2 gIx (kVar 0) (kD (.int 0))) (kNil))) (hName 2) (kYes) (kMk .tup (kCons (kD (.str "return")) (kCons (kVar 2) (kNil)))))))))
def d_ready_start : List O → RF := fun os => finF [false] (g_ready_start (startE [false] os 3))
/-- waiting_history: rules, place, most, count, ahead, waits, found, having, number, reader -/
def l_waiting_history_0 : Env → RS := kSq (kAs (k2 gAdd (k2 gAdd (kMov 6) (kLc [9] (kIt (kFrz 7)) (hName 9) (kYes) (kMk .tup (kCons (kD (.str "return")) (kCons (kVar 9) (kNil)))))) (kCall [false] [none] d_days_event (kCons (k2 gIx (kVar 0) (kD (.int 4))) (kNil)))) (hName 6)) (kSq (kPar 7 4 (kCons (kSl (kFrz 4) kNoPart (kPart (k2 gIx (kVar 0) (kD (.int 0))))) (kCons (kSl (kFrz 4) (kPart (k2 gIx (kVar 0) (kD (.int 0)))) kNoPart) (kNil)))) (kAs (k2 gAdd (k2 gAdd (kMov 6) (kLc [9] (kIt (kFrz 7)) (hName 9) (kYes) (kMk .tup (kCons (kD (.str "borrow")) (kCons (kVar 9) (kNil)))))) (kCall [false] [none] d_days_event (kCons (k2 gIx (kVar 0) (kD (.int 1))) (kNil)))) (hName 6)))
def g_waiting_history : Env → RS := kSq (kEx (kCall [false] [none] d_require_rules (kCons (kVar 0) (kNil)))) (kSq (kEx (kCall [false, false, false] [none, none, none] d_require_number (kCons (kVar 1) (kCons (kD (.int 1)) (kCons (kD c_MAX_PLACE) (kNil)))))) (kSq (kAs (kCall [false] [none] d_best_renewals (kCons (kVar 0) (kNil))) (hTup 2 (hCons (hName 2) (hCons (hName 3) (hNil))))) (kSq (kAs (k2 gAdd (kLc [8] (kRng1 (kCons (k2 gSub (kVar 1) (kD (.int 1))) (kNil))) (hName 8) (kYes) (k2 gAdd (kD (.int 20)) (kVar 8))) (kMk .lst (kCons (kD c_LAST_READER) (kNil)))) (hName 4)) (kSq (kAs (kLc [9] (kIt (kFrz 4)) (hName 9) (kYes) (kMk .tup (kCons (kD (.str "wait")) (kCons (kVar 9) (kNil))))) (hName 5)) (kSq (kIf (kB (k2 gGe (kVar 2) (kCall [false] [none] d_turn_of (kCons (kVar 0) (kNil))))) (kSq (kAs (k2 gAdd (k2 gAdd (kCall [false, false] [none, none] d_renewed_start (kCons (kVar 0) (kCons (kVar 3) (kNil)))) (kFrz 5)) (kCall [false] [none] d_days_event (kCons (kVar 2) (kNil)))) (hName 6)) (kAs (kLsRg (k2 gIx (kVar 0) (kD (.int 0)))) (hName 7))) (kSq (kAs (kLc [9] (kRng1 (kCons (k2 gIx (kVar 0) (kD (.int 0))) (kNil))) (hName 9) (kYes) (k2 gAdd (kD (.int 10)) (kVar 9))) (hName 7)) (kSq (kAs (k2 gAdd (k2 gAdd (k2 gAdd (kCall [false] [none] d_ready_start (kCons (kVar 0) (kNil))) (kFrz 5)) (kCall [false] [none] d_days_event (kCons (k2 gIx (kVar 0) (kD (.int 4))) (kNil)))) (kLc [9] (kIt (kFrz 7)) (hName 9) (kYes) (kMk .tup (kCons (kD (.str "borrow")) (kCons (kVar 9) (kNil)))))) (hName 6)) (kAs (k2 gAdd (kMov 6) (kCall [false] [none] d_days_event (kCons (k2 gIx (kVar 0) (kD (.int 1))) (kNil)))) (hName 6))))) (kSq (loopW (kB (k2 gGt (kn gLen (kCons (kFrz 4) (kNil))) (k2 gIx (kVar 0) (kD (.int 0))))) l_waiting_history_0 100000) (kRt (kn gTuple (kCons (k2 gAdd (kFrz 6) (kLc [9] (kIt (kSl (kFrz 7) kNoPart (kPart (kn gLen (kCons (kFrz 4) (kNil)))))) (hName 9) (kYes) (kMk .tup (kCons (kD (.str "return")) (kCons (kVar 9) (kNil)))))) (kNil))))))))))
def d_waiting_history : List O → RF := fun os => finF [false, false] (g_waiting_history (startE [false, false] os 10))
/-- _law_up: top, bottom -/
def g__law_up : Env → RS := kRt (k2 gSub (kD (.int 0)) (k2 gDiv (k2 gSub (kD (.int 0)) (kVar 0)) (kVar 1)))
def d__law_up : List O → RF := fun os => finF [false, false] (g__law_up (startE [false, false] os 2))
/-- _law_longest: rules_so, place, copies_so, loan_so, renewals_so, window_so, ready_so, rest_so, turn, first -/
def g__law_longest : Env → RS := kSq (kAs (kVar 0) (hTup 6 (hCons (hName 2) (hCons (hName 3) (hCons (hName 4) (hCons (hName 5) (hCons (hName 6) (hCons (hName 7) (hNil))))))))) (kSq (kAs (k2 gAdd (kVar 6) (kVar 3)) (hName 8)) (kSq (kAs (kn gMax2 (kCons (kVar 8) (kCons (kn gMin2 (kCons (k2 gMul (kVar 3) (k2 gAdd (kD (.int 1)) (kVar 4))) (kCons (k2 gAdd (kVar 3) (kVar 5)) (kNil)))) (kNil)))) (hName 9)) (kRt (k2 gAdd (kVar 9) (k2 gMul (kVar 8) (k2 gSub (kCall [false, false] [none, none] d__law_up (kCons (kVar 1) (kCons (kVar 2) (kNil)))) (kD (.int 1))))))))
def d__law_longest : List O → RF := fun os => finF [false, false] (g__law_longest (startE [false, false] os 10))
/-- fewest_copies: rules, place, days, some, count -/
def g_fewest_copies : Env → RS := kSq (kEx (kCall [false] [none] d_require_rules (kCons (kVar 0) (kNil)))) (kSq (kEx (kCall [false, false, false] [none, none, none] d_require_number (kCons (kVar 1) (kCons (kD (.int 1)) (kCons (kD c_MAX_PLACE) (kNil)))))) (kSq (kEx (kCall [false, false, false] [none, none, none] d_require_number (kCons (kVar 2) (kCons (kD (.int 0)) (kCons (kD c_MAX_DAYS) (kNil)))))) (kSq (kAs (kLc [4] (kRng2 (kCons (kD (.int 1)) (kCons (k2 gAdd (kVar 1) (kD (.int 1))) (kNil)))) (hName 4) (kB (k2 gLe (kCall [false, false] [none, none] d_longest_of (kCons (k2 gAdd (kMk .tup (kCons (kVar 4) (kNil))) (kSl (kVar 0) (kPart (kD (.int 1))) kNoPart)) (kCons (kVar 1) (kNil)))) (kVar 2))) (kVar 4)) (hName 3)) (kRt (kIte (kB (k2 gNe (kFrz 3) (kMk .lst (kNil)))) (k2 gIx (kFrz 3) (kD (.int 0))) (kD .none))))))
def d_fewest_copies : List O → RF := fun os => finF [false, false, false] (g_fewest_copies (startE [false, false, false] os 5))
/-- longest_loan: rules, place, days, some, loan -/
def g_longest_loan : Env → RS := kSq (kEx (kCall [false] [none] d_require_rules (kCons (kVar 0) (kNil)))) (kSq (kEx (kCall [false, false, false] [none, none, none] d_require_number (kCons (kVar 1) (kCons (kD (.int 1)) (kCons (kD c_MAX_PLACE) (kNil)))))) (kSq (kEx (kCall [false, false, false] [none, none, none] d_require_number (kCons (kVar 2) (kCons (kD (.int 0)) (kCons (kD c_MAX_DAYS) (kNil)))))) (kSq (kAs (kLc [4] (kRng2 (kCons (kD (.int 1)) (kCons (k2 gAdd (k2 gIx (kD c_HIGHS) (kD (.int 1))) (kD (.int 1))) (kNil)))) (hName 4) (kB (k2 gLe (kCall [false, false] [none, none] d_longest_of (kCons (k2 gAdd (kMk .tup (kCons (k2 gIx (kVar 0) (kD (.int 0))) (kCons (kVar 4) (kNil)))) (kSl (kVar 0) (kPart (kD (.int 2))) kNoPart)) (kCons (kVar 1) (kNil)))) (kVar 2))) (kVar 4)) (hName 3)) (kRt (kIte (kB (k2 gNe (kFrz 3) (kMk .lst (kNil)))) (k2 gIx (kFrz 3) (k1 gNeg (kD (.int 1)))) (kD .none))))))
def d_longest_loan : List O → RF := fun os => finF [false, false, false] (g_longest_loan (startE [false, false, false] os 5))
/-- wait_table: rules, place -/
def g_wait_table : Env → RS := kSq (kEx (kCall [false] [none] d_require_rules (kCons (kVar 0) (kNil)))) (kRt (kLc [1] (kRng2 (kCons (kD (.int 1)) (kCons (k2 gAdd (kD c_MAX_PLACE) (kD (.int 1))) (kNil)))) (hName 1) (kYes) (kCall [false, false] [none, none] d_longest_of (kCons (kVar 0) (kCons (kVar 1) (kNil))))))
def d_wait_table : List O → RF := fun os => finF [false] (g_wait_table (startE [false] os 2))
/-- last_place: rules, days, place -/
def g_last_place : Env → RS := kSq (kEx (kCall [false] [none] d_require_rules (kCons (kVar 0) (kNil)))) (kSq (kEx (kCall [false, false, false] [none, none, none] d_require_number (kCons (kVar 1) (kCons (kD (.int 0)) (kCons (kD c_MAX_DAYS) (kNil)))))) (kRt (kn gLen (kCons (kLc [2] (kRng2 (kCons (kD (.int 1)) (kCons (k2 gAdd (kD c_MAX_PLACE) (kD (.int 1))) (kNil)))) (hName 2) (kB (k2 gLe (kCall [false, false] [none, none] d_longest_of (kCons (kVar 0) (kCons (kVar 2) (kNil)))) (kVar 1))) (kD (.int 1))) (kNil)))))
def d_last_place : List O → RF := fun os => finF [false, false] (g_last_place (startE [false, false] os 3))
/-- whole_loan: rules -/
def g_whole_loan : Env → RS := kRt (k2 gMul (k2 gIx (kVar 0) (kD (.int 1))) (k2 gAdd (kD (.int 1)) (k2 gIx (kVar 0) (kD (.int 2)))))
def d_whole_loan : List O → RF := fun os => finF [false] (g_whole_loan (startE [false] os 1))
/-- fewest_of: rules -/
def g_fewest_of : Env → RS := kRt (k2 gAdd (k2 gIx (kVar 0) (kD (.int 0))) (kCall [false, false] [none, none] d_rounded_up (kCons (k2 gMul (k2 gIx (kVar 0) (kD (.int 0))) (k2 gIx (kVar 0) (kD (.int 5)))) (kCons (kCall [false] [none] d_whole_loan (kCons (kVar 0) (kNil))) (kNil)))))
def d_fewest_of : List O → RF := fun os => finF [false] (g_fewest_of (startE [false] os 1))
/-- fewest_friends: rules -/
def g_fewest_friends : Env → RS := kSq (kEx (kCall [false] [none] d_require_rules (kCons (kVar 0) (kNil)))) (kRt (kCall [false] [none] d_fewest_of (kCons (kVar 0) (kNil))))
def d_fewest_friends : List O → RF := fun os => finF [false] (g_fewest_friends (startE [false] os 1))
/-- turns_until: rules, days, copies, long, count, found, number, first -/
def l_turns_until_0 : Env → RS := kSq (kAs (kn gMax2 (kCons (kD (.int 0)) (kCons (k2 gDiv (k2 gMul (k2 gSub (kVar 6) (kVar 2)) (kVar 3)) (kVar 2)) (kNil)))) (hName 7)) (kSq (kEx (kApp 5 [] (kCons (kMk .tup (kCons (kVar 7) (kCons (k2 gDiv (k2 gMul (kVar 6) (kVar 3)) (kVar 2)) (kCons (k2 gMod (k2 gSub (kVar 6) (kD (.int 1))) (kVar 4)) (kNil))))) (kNil)))) (kAs (k2 gAdd (kVar 6) (kD (.int 1))) (hName 6)))
def g_turns_until : Env → RS := kSq (kPar3 2 3 4 (kCons (k2 gIx (kVar 0) (kD (.int 0))) (kCons (kCall [false] [none] d_whole_loan (kCons (kVar 0) (kNil))) (kCons (kCall [false] [none] d_fewest_of (kCons (kVar 0) (kNil))) (kNil))))) (kSq (kPar 5 6 (kCons (kMk .lst (kNil)) (kCons (kD (.int 1)) (kNil)))) (kSq (loopW (kB (k2 gLe (kn gMax2 (kCons (kD (.int 0)) (kCons (k2 gDiv (k2 gMul (k2 gSub (kVar 6) (kVar 2)) (kVar 3)) (kVar 2)) (kNil)))) (kVar 1))) l_turns_until_0 100000) (kRt (kMov 5))))
def d_turns_until : List O → RF := fun os => finF [false, false] (g_turns_until (startE [false, false] os 8))
/-- events_on: rules, turns, today, found, first, last, friend, turn, later -/
def l_events_on_0 : Env → RS := kIf (kB (k2 gEq (k2 gIx (kVar 7) (kD (.int 1))) (kVar 2))) (kAs (k2 gAdd (kMov 3) (kMk .lst (kCons (kMk .tup (kCons (kD (.str "return")) (kCons (k2 gIx (kVar 7) (kD (.int 2))) (kNil)))) (kCons (kMk .tup (kCons (kD (.str "borrow")) (kCons (k2 gIx (kVar 8) (kD (.int 2))) (kNil)))) (kNil))))) (hName 3)) (kNx)
def l_events_on_1 : Env → RS := kIf (kAnd (kB (kCh gLe gLt (kVar 4) (kVar 2) (kVar 5))) (kAnd (kB (k2 gGt (kVar 2) (kVar 4))) (kB (k2 gEq (k2 gMod (k2 gSub (kVar 2) (kVar 4)) (k2 gIx (kVar 0) (kD (.int 1)))) (kD (.int 0)))))) (kEx (kApp 3 [] (kCons (kMk .tup (kCons (kD (.str "renew")) (kCons (kVar 6) (kNil)))) (kNil)))) (kNx)
def g_events_on : Env → RS := kSq (kAs (kMk .lst (kNil)) (hName 3)) (kSq (kIf (kB (k2 gEq (kVar 2) (kD (.int 0)))) (kAs (kLc [7] (kIt (kSl (kVar 1) kNoPart (kPart (k2 gIx (kVar 0) (kD (.int 0)))))) (hName 7) (kYes) (kMk .tup (kCons (kD (.str "borrow")) (kCons (k2 gIx (kVar 7) (kD (.int 2))) (kNil))))) (hName 3)) (kNx)) (kSq (kFor (kIt (kVar 1)) (hTup 3 (hCons (hName 4) (hCons (hName 5) (hCons (hName 6) (hNil))))) l_events_on_1) (kSq (kFor (kZip2 (kCons (kVar 1) (kCons (kSl (kVar 1) (kPart (k2 gIx (kVar 0) (kD (.int 0)))) kNoPart) (kNil)))) (hTup 2 (hCons (hName 7) (hCons (hName 8) (hNil)))) l_events_on_0) (kRt (kMov 3)))))
def d_events_on : List O → RF := fun os => finF [false, false, false] (g_events_on (startE [false, false, false] os 9))
/-- friends_plan: rules, days, turns, found, today -/
def l_friends_plan_0 : Env → RS := kSq (kAs (k2 gAdd (kMov 3) (kCall [false, false, false] [none, none, none] d_events_on (kCons (kVar 0) (kCons (kFrz 2) (kCons (kVar 4) (kNil)))))) (hName 3)) (kIf (kB (k2 gLt (kVar 4) (kVar 1))) (kAs (k2 gAdd (kMov 3) (kCall [false] [none] d_days_event (kCons (kD (.int 1)) (kNil)))) (hName 3)) (kNx))
def g_friends_plan : Env → RS := kSq (kEx (kCall [false] [none] d_require_rules (kCons (kVar 0) (kNil)))) (kSq (kEx (kCall [false, false, false] [none, none, none] d_require_number (kCons (kVar 1) (kCons (kD (.int 0)) (kCons (kD c_MAX_PLAN) (kNil)))))) (kSq (kPar 2 3 (kCons (kCall [false, false] [none, none] d_turns_until (kCons (kVar 0) (kCons (kVar 1) (kNil)))) (kCons (kMk .lst (kNil)) (kNil)))) (kSq (kFor (kRng1 (kCons (k2 gAdd (kVar 1) (kD (.int 1))) (kNil))) (hName 4) l_friends_plan_0) (kRt (kn gTuple (kCons (kFrz 3) (kNil)))))))
def d_friends_plan : List O → RF := fun os => finF [false, false] (g_friends_plan (startE [false, false] os 5))
/-- share: rules, top, bottom, one, other -/
def l_share_0 : Env → RS := kPar 3 4 (kCons (kVar 4) (kCons (k2 gMod (kVar 3) (kVar 4)) (kNil)))
def g_share : Env → RS := kSq (kEx (kCall [false] [none] d_require_rules (kCons (kVar 0) (kNil)))) (kSq (kPar 1 2 (kCons (kCall [false] [none] d_longest_loan_of (kCons (kVar 0) (kNil))) (kCons (k2 gAdd (kCall [false] [none] d_longest_loan_of (kCons (kVar 0) (kNil))) (k2 gIx (kVar 0) (kD (.int 5)))) (kNil)))) (kSq (kPar 3 4 (kCons (kVar 1) (kCons (kVar 2) (kNil)))) (kSq (loopW (kB (k2 gGt (kVar 4) (kD (.int 0)))) l_share_0 100000) (kRt (kMk .tup (kCons (k2 gDiv (kVar 1) (kVar 3)) (kCons (k2 gDiv (kVar 2) (kVar 3)) (kNil))))))))
def d_share : List O → RF := fun os => finF [false] (g_share (startE [false] os 5))
/-- _law_permits: one, other, count -/
def l__law_permits_0 : Env → RS := kIf (kB (k2 gGt (k2 gSub (k2 gMul (k2 gIx (kVar 1) (kD (.int 1))) (kVar 2)) (k2 gIx (kVar 1) (kD (.int 3)))) (kn gMax2 (kCons (kD (.int 0)) (kCons (k2 gSub (k2 gMul (k2 gIx (kVar 0) (kD (.int 1))) (kVar 2)) (k2 gIx (kVar 0) (kD (.int 3)))) (kNil)))))) (kRt (kD (.bool false))) (kNx)
def g__law_permits : Env → RS := kSq (kIf (kOr (kB (k2 gNe (k2 gIx (kVar 0) (kD (.int 0))) (k2 gIx (kVar 1) (kD (.int 0))))) (kOr (kB (k2 gNe (k2 gIx (kVar 0) (kD (.int 4))) (k2 gIx (kVar 1) (kD (.int 4))))) (kOr (kB (k2 gGt (k2 gIx (kVar 0) (kD (.int 1))) (k2 gIx (kVar 1) (kD (.int 1))))) (kOr (kB (k2 gLt (k2 gIx (kVar 0) (kD (.int 5))) (k2 gIx (kVar 1) (kD (.int 5))))) (kB (k2 gGt (k2 gIx (kVar 0) (kD (.int 2))) (k2 gIx (kVar 1) (kD (.int 2))))))))) (kRt (kD (.bool false))) (kNx)) (kSq (kFor (kRng2 (kCons (kD (.int 1)) (kCons (k2 gAdd (k2 gIx (kVar 0) (kD (.int 2))) (kD (.int 1))) (kNil)))) (hName 2) l__law_permits_0) (kRt (kD (.bool true))))
def d__law_permits : List O → RF := fun os => finF [false, false] (g__law_permits (startE [false, false] os 3))
/-- _law_bent: source, rules_so, row, highs_so, lows_so, turn, at, step -/
def l__law_bent_0 : Env → RS := kSq (kAs (k2 gIx (kMk .lst (kCons (kD (.int 0)) (kCons (kD (.int 1)) (kCons (kD (.int 1)) (kCons (kD (.int 2)) (kCons (kD (.int 3)) (kCons (kD (.int 3)) (kCons (kD (.int 4)) (kCons (kD (.int 5)) (kNil)))))))))) (kCall [true, false] [some 0, none] d__law_pick (kCons (kMark 0) (kCons (kD (.int 8)) (kNil))))) (hName 6)) (kSq (kAs (k2 gIx (kMk .lst (kCons (kD (.int 1)) (kCons (k1 gNeg (kD (.int 1))) (kCons (kD (.int 2)) (kCons (kD (.int 5)) (kCons (k1 gNeg (kD (.int 3))) (kNil))))))) (kCall [true, false] [some 0, none] d__law_pick (kCons (kMark 0) (kCons (kD (.int 5)) (kNil))))) (hName 7)) (kSetIx 2 (kn gMax2 (kCons (k2 gIx (kFrz 4) (kVar 6)) (kCons (kn gMin2 (kCons (k2 gIx (kFrz 3) (kVar 6)) (kCons (k2 gAdd (kIxP 2 (kVar 6)) (kVar 7)) (kNil)))) (kNil)))) (kVar 6)))
def g__law_bent : Env → RS := kSq (kAs (kn gList (kCons (kVar 1) (kNil))) (hName 2)) (kSq (kPar 3 4 (kCons (kMk .lst (kCons (kD (.int 4)) (kCons (kD (.int 30)) (kCons (kD (.int 3)) (kCons (kD (.int 30)) (kCons (kD (.int 10)) (kCons (kD (.int 30)) (kNil)))))))) (kCons (kMk .lst (kCons (kD (.int 1)) (kCons (kD (.int 1)) (kCons (kD (.int 0)) (kCons (kD (.int 0)) (kCons (kD (.int 0)) (kCons (kD (.int 0)) (kNil)))))))) (kNil)))) (kSq (kFor (kRng1 (kCons (kCall [true, false] [some 0, none] d__law_pick (kCons (kMark 0) (kCons (kD (.int 4)) (kNil)))) (kNil))) (hName 5) l__law_bent_0) (kRt (kn gTuple (kCons (kFrz 2) (kNil))))))
def d__law_bent : List O → RF := fun os => finF [true, false] (g__law_bent (startE [true, false] os 8))
/-- is_allowed_by: one, other, earliest, index, day -/
def g_is_allowed_by : Env → RS := kSq (kIf (kOr (kB (k2 gNe (k2 gIx (kVar 0) (kD (.int 0))) (k2 gIx (kVar 1) (kD (.int 0))))) (kOr (kB (k2 gNe (k2 gIx (kVar 0) (kD (.int 4))) (k2 gIx (kVar 1) (kD (.int 4))))) (kOr (kB (k2 gGt (k2 gIx (kVar 0) (kD (.int 1))) (k2 gIx (kVar 1) (kD (.int 1))))) (kOr (kB (k2 gGt (k2 gIx (kVar 0) (kD (.int 2))) (k2 gIx (kVar 1) (kD (.int 2))))) (kB (k2 gLt (k2 gIx (kVar 0) (kD (.int 5))) (k2 gIx (kVar 1) (kD (.int 5))))))))) (kRt (kD (.bool false))) (kNx)) (kSq (kAs (kCall [false] [none] d_renewal_days (kCons (kVar 0) (kNil))) (hName 2)) (kRt (kn gAll (kCons (kLc [3, 4] (kEnumA (kCons (kFrz 2) (kNil))) (hTup 2 (hCons (hName 3) (hCons (hName 4) (hNil)))) (kYes) (k2 gLe (k2 gSub (k2 gMul (k2 gIx (kVar 1) (kD (.int 1))) (k2 gAdd (kVar 3) (kD (.int 1)))) (k2 gIx (kVar 1) (kD (.int 3)))) (kVar 4))) (kNil)))))
def d_is_allowed_by : List O → RF := fun os => finF [false, false] (g_is_allowed_by (startE [false, false] os 5))
/-- other_copies: one, other, borrows, found, reader -/
def g_other_copies : Env → RS := kSq (kAs (kLc [4] (kRng1 (kCons (k2 gIx (kVar 0) (kD (.int 0))) (kNil))) (hName 4) (kYes) (kMk .tup (kCons (kD (.str "borrow")) (kCons (kVar 4) (kNil))))) (hName 2)) (kSq (kIf (kB (k2 gGt (k2 gIx (kVar 0) (kD (.int 0))) (k2 gIx (kVar 1) (kD (.int 0))))) (kRt (kMov 2)) (kNx)) (kSq (kAs (k2 gAdd (kFrz 2) (kMk .lst (kCons (kMk .tup (kCons (kD (.str "wait")) (kCons (kD c_STRANGER) (kNil)))) (kNil)))) (hName 3)) (kSq (kIf (kB (k2 gGt (k2 gIx (kVar 0) (kD (.int 1))) (k2 gIx (kVar 0) (kD (.int 4))))) (kRt (k2 gAdd (k2 gAdd (kFrz 3) (kCall [false] [none] d_days_event (kCons (k2 gAdd (k2 gIx (kVar 0) (kD (.int 4))) (kD (.int 1))) (kNil)))) (kMk .lst (kCons (kMk .tup (kCons (kD (.str "leave")) (kCons (kD c_STRANGER) (kNil)))) (kNil))))) (kNx)) (kSq (kAs (k2 gAdd (k2 gAdd (kMov 3) (kCall [false] [none] d_days_event (kCons (k2 gIx (kVar 0) (kD (.int 1))) (kNil)))) (kLc [4] (kRng1 (kCons (k2 gIx (kVar 0) (kD (.int 0))) (kNil))) (hName 4) (kYes) (kMk .tup (kCons (kD (.str "return")) (kCons (kVar 4) (kNil)))))) (hName 3)) (kRt (k2 gAdd (k2 gAdd (kFrz 3) (kCall [false] [none] d_days_event (kCons (k2 gSub (k2 gAdd (k2 gIx (kVar 0) (kD (.int 4))) (kD (.int 1))) (k2 gIx (kVar 0) (kD (.int 1)))) (kNil)))) (kMk .lst (kCons (kMk .tup (kCons (kD (.str "leave")) (kCons (kD c_STRANGER) (kNil)))) (kNil)))))))))
def d_other_copies : List O → RF := fun os => finF [false, false] (g_other_copies (startE [false, false] os 5))
/-- other_ready: one, other, found -/
def g_other_ready : Env → RS := kSq (kAs (k2 gAdd (kMk .lst (kCons (kMk .tup (kCons (kD (.str "wait")) (kCons (kD c_STRANGER) (kNil)))) (kNil))) (kCall [false] [none] d_days_event (kCons (k2 gAdd (kn gMin2 (kCons (k2 gIx (kVar 0) (kD (.int 4))) (kCons (k2 gIx (kVar 1) (kD (.int 4))) (kNil)))) (kD (.int 1))) (kNil)))) (hName 2)) (kSq (kIf (kB (k2 gGt (k2 gIx (kVar 0) (kD (.int 4))) (k2 gIx (kVar 1) (kD (.int 4))))) (kRt (k2 gAdd (kFrz 2) (kMk .lst (kCons (kMk .tup (kCons (kD (.str "leave")) (kCons (kD c_STRANGER) (kNil)))) (kNil))))) (kNx)) (kRt (k2 gAdd (kFrz 2) (kMk .lst (kCons (kMk .tup (kCons (kD (.str "wait")) (kCons (kD c_STRANGER) (kNil)))) (kNil))))))
def d_other_ready : List O → RF := fun os => finF [false, false] (g_other_ready (startE [false, false] os 3))
/-- other_loans: one, found, late, early, today, day -/
def l_other_loans_0 : Env → RS := kSq (kAs (k2 gAdd (k2 gAdd (kMov 2) (kCall [false] [none] d_days_event (kCons (k2 gIx (kVar 0) (kD (.int 1))) (kNil)))) (kMk .lst (kCons (kMk .tup (kCons (kD (.str "renew")) (kCons (kD (.int 0)) (kNil)))) (kNil)))) (hName 2)) (kSq (kAs (k2 gAdd (k2 gAdd (kMov 3) (kCall [false] [none] d_days_event (kCons (k2 gSub (kVar 5) (kVar 4)) (kNil)))) (kMk .lst (kCons (kMk .tup (kCons (kD (.str "renew")) (kCons (kD (.int 0)) (kNil)))) (kNil)))) (hName 3)) (kSq (kAs (kVar 5) (hName 4)) (kAs (k2 gAdd (kMov 1) (kMk .lst (kCons (kFrz 3) (kNil)))) (hName 1))))
def g_other_loans : Env → RS := kSq (kAs (kMk .lst (kCons (k2 gAdd (kMk .lst (kCons (kMk .tup (kCons (kD (.str "borrow")) (kCons (kD (.int 0)) (kNil)))) (kNil))) (kCall [false] [none] d_days_event (kCons (k2 gIx (kVar 0) (kD (.int 1))) (kNil)))) (kNil))) (hName 1)) (kSq (kEx (kApp 1 [] (kCons (k2 gAdd (k2 gAdd (kMk .lst (kCons (kMk .tup (kCons (kD (.str "borrow")) (kCons (kD (.int 0)) (kNil)))) (kCons (kMk .tup (kCons (kD (.str "return")) (kCons (kD (.int 0)) (kNil)))) (kNil)))) (kCall [false] [none] d_days_event (kCons (k2 gIx (kVar 0) (kD (.int 5))) (kNil)))) (kMk .lst (kCons (kMk .tup (kCons (kD (.str "borrow")) (kCons (kD (.int 0)) (kNil)))) (kNil)))) (kNil)))) (kSq (kPar3 2 3 4 (kCons (kMk .lst (kCons (kMk .tup (kCons (kD (.str "borrow")) (kCons (kD (.int 0)) (kNil)))) (kNil))) (kCons (kMk .lst (kCons (kMk .tup (kCons (kD (.str "borrow")) (kCons (kD (.int 0)) (kNil)))) (kNil))) (kCons (kD (.int 0)) (kNil))))) (kSq (kFor (kIt (kCall [false] [none] d_renewal_days (kCons (kVar 0) (kNil)))) (hName 5) l_other_loans_0) (kRt (k2 gAdd (kFrz 1) (kMk .lst (kCons (kFrz 2) (kNil))))))))
def d_other_loans : List O → RF := fun os => finF [false] (g_other_loans (startE [false] os 6))
/-- parting_of: one, other, rows, row -/
def l_parting_of_0 : Env → RS := kIf (kAnd (kB (k2 gIs (kIxN 1 (kCall [false, false] [none, none] d_run_of (kCons (kVar 0) (kCons (kVar 3) (kNil))))) (kD .none))) (kB (k2 gIsNot (kIxN 1 (kCall [false, false] [none, none] d_run_of (kCons (kVar 1) (kCons (kVar 3) (kNil))))) (kD .none)))) (kRt (kn gTuple (kCons (kVar 3) (kNil)))) (kNx)
def g_parting_of : Env → RS := kSq (kIf (kB (kCall [false, false] [none, none] d_is_allowed_by (kCons (kVar 0) (kCons (kVar 1) (kNil))))) (kRt (kD .none)) (kNx)) (kSq (kAs (k2 gAdd (kMk .lst (kCons (kCall [false, false] [none, none] d_other_copies (kCons (kVar 0) (kCons (kVar 1) (kNil)))) (kCons (kCall [false, false] [none, none] d_other_ready (kCons (kVar 0) (kCons (kVar 1) (kNil)))) (kNil)))) (kCall [false] [none] d_other_loans (kCons (kVar 0) (kNil)))) (hName 2)) (kSq (kFor (kIt (kFrz 2)) (hName 3) l_parting_of_0) (kRt (kD .none))))
def d_parting_of : List O → RF := fun os => finF [false, false] (g_parting_of (startE [false, false] os 4))
/-- allows: one, other -/
def g_allows : Env → RS := kSq (kEx (kCall [false] [none] d_require_rules (kCons (kVar 0) (kNil)))) (kSq (kEx (kCall [false] [none] d_require_rules (kCons (kVar 1) (kNil)))) (kRt (kCall [false, false] [none, none] d_is_allowed_by (kCons (kVar 0) (kCons (kVar 1) (kNil))))))
def d_allows : List O → RF := fun os => finF [false, false] (g_allows (startE [false, false] os 2))
/-- parting_history: one, other -/
def g_parting_history : Env → RS := kSq (kEx (kCall [false] [none] d_require_rules (kCons (kVar 0) (kNil)))) (kSq (kEx (kCall [false] [none] d_require_rules (kCons (kVar 1) (kNil)))) (kRt (kCall [false, false] [none, none] d_parting_of (kCons (kVar 0) (kCons (kVar 1) (kNil))))))
def d_parting_history : List O → RF := fun os => finF [false, false] (g_parting_history (startE [false, false] os 2))
/-- alike: one, other -/
def g_alike : Env → RS := kSq (kEx (kCall [false] [none] d_require_rules (kCons (kVar 0) (kNil)))) (kSq (kEx (kCall [false] [none] d_require_rules (kCons (kVar 1) (kNil)))) (kRt (kAndV (kCall [false, false] [none, none] d_is_allowed_by (kCons (kVar 0) (kCons (kVar 1) (kNil)))) (kCall [false, false] [none, none] d_is_allowed_by (kCons (kVar 1) (kCons (kVar 0) (kNil)))))))
def d_alike : List O → RF := fun os => finF [false, false] (g_alike (startE [false, false] os 2))
/-- require_both: one, other -/
def g_require_both : Env → RS := kSq (kEx (kCall [false] [none] d_require_rules (kCons (kVar 0) (kNil)))) (kEx (kCall [false] [none] d_require_rules (kCons (kVar 1) (kNil))))
def d_require_both : List O → RF := fun os => finF [false, false] (g_require_both (startE [false, false] os 2))
/-- choices: found, index, row, size -/
def l_choices_0 : Env → RS := kAs (k2 gAdd (kMov 0) (kLc [2] (kIt (kFrz 0)) (hName 2) (kYes) (k2 gAdd (kVar 2) (kMk .tup (kCons (kVar 1) (kNil)))))) (hName 0)
def g_choices : Env → RS := kSq (kAs (kMk .lst (kCons (kMk .tup (kNil)) (kNil))) (hName 0)) (kSq (kFor (kRng1 (kCons (kD c_ITEMS) (kNil))) (hName 1) l_choices_0) (kRt (kLc [3, 2] (kIt (kn gSortA (kCons (kLc [2] (kIt (kFrz 0)) (hName 2) (kYes) (kMk .tup (kCons (kn gLen (kCons (kVar 2) (kNil))) (kCons (kVar 2) (kNil))))) (kNil)))) (hTup 2 (hCons (hName 3) (hCons (hName 2) (hNil)))) (kYes) (kVar 2))))
def d_choices : List O → RF := fun os => finF [] (g_choices (startE [] os 4))
/-- mixed: one, other, indices, index -/
def g_mixed : Env → RS := kRt (kn gTuple (kCons (kLc [3] (kRng1 (kCons (kD c_ITEMS) (kNil))) (hName 3) (kYes) (kIte (kB (k2 gIn (kVar 3) (kVar 2))) (k2 gIx (kVar 0) (kVar 3)) (k2 gIx (kVar 1) (kVar 3)))) (kNil)))
def d_mixed : List O → RF := fun os => finF [false, false, false] (g_mixed (startE [false, false, false] os 4))
/-- fewest_items: one, other, row -/
def g_fewest_items : Env → RS := kSq (kEx (kCall [false, false] [none, none] d_require_both (kCons (kVar 0) (kCons (kVar 1) (kNil))))) (kRt (k2 gIx (kLc [2] (kIt (kCall [] [] d_choices kNil)) (hName 2) (kB (kCall [false, false] [none, none] d_is_allowed_by (kCons (kVar 0) (kCons (kCall [false, false, false] [none, none, none] d_mixed (kCons (kVar 0) (kCons (kVar 1) (kCons (kVar 2) (kNil))))) (kNil))))) (kVar 2)) (kD (.int 0))))
def d_fewest_items : List O → RF := fun os => finF [false, false] (g_fewest_items (startE [false, false] os 3))
/-- like_copies: rules, found, loan, renewals, window -/
def l_like_copies_0 : Env → RS := kEx (kApp 1 [] (kCons (kMk .tup (kCons (k2 gIx (kVar 0) (kD (.int 0))) (kCons (kVar 2) (kCons (kVar 3) (kCons (kVar 4) (kCons (k2 gIx (kVar 0) (kD (.int 4))) (kNil))))))) (kNil)))
def l_like_copies_1 : Env → RS := kFor (kRng2 (kCons (k2 gIx (kD c_LOWS) (kD (.int 3))) (kCons (k2 gAdd (k2 gIx (kD c_HIGHS) (kD (.int 3))) (kD (.int 1))) (kNil)))) (hName 4) l_like_copies_0
def l_like_copies_2 : Env → RS := kFor (kRng2 (kCons (k2 gIx (kD c_LOWS) (kD (.int 2))) (kCons (k2 gAdd (k2 gIx (kD c_HIGHS) (kD (.int 2))) (kD (.int 1))) (kNil)))) (hName 3) l_like_copies_1
def g_like_copies : Env → RS := kSq (kAs (kMk .lst (kNil)) (hName 1)) (kSq (kFor (kRng2 (kCons (k2 gIx (kD c_LOWS) (kD (.int 1))) (kCons (k2 gAdd (k2 gIx (kD c_HIGHS) (kD (.int 1))) (kD (.int 1))) (kNil)))) (hName 2) l_like_copies_2) (kRt (kMov 1)))
def d_like_copies : List O → RF := fun os => finF [false] (g_like_copies (startE [false] os 5))
/-- rests_at_most: rules -/
def g_rests_at_most : Env → RS := kRt (k2 gAdd (k2 gSub (k2 gIx (kVar 0) (kD (.int 5))) (k2 gIx (kD c_LOWS) (kD (.int 5)))) (kD (.int 1)))
def d_rests_at_most : List O → RF := fun os => finF [false] (g_rests_at_most (startE [false] os 1))
/-- rests_at_least: rules -/
def g_rests_at_least : Env → RS := kRt (k2 gAdd (k2 gSub (k2 gIx (kD c_HIGHS) (kD (.int 5))) (k2 gIx (kVar 0) (kD (.int 5)))) (kD (.int 1)))
def d_rests_at_least : List O → RF := fun os => finF [false] (g_rests_at_least (startE [false] os 1))
/-- count_allowing: rules, some, row -/
def g_count_allowing : Env → RS := kSq (kEx (kCall [false] [none] d_require_rules (kCons (kVar 0) (kNil)))) (kSq (kAs (kLc [2] (kIt (kCall [false] [none] d_like_copies (kCons (kVar 0) (kNil)))) (hName 2) (kB (kCall [false, false] [none, none] d_is_allowed_by (kCons (kVar 0) (kCons (k2 gAdd (kVar 2) (kMk .tup (kCons (k2 gIx (kVar 0) (kD (.int 5))) (kNil)))) (kNil))))) (kVar 2)) (hName 1)) (kRt (k2 gMul (kn gLen (kCons (kFrz 1) (kNil))) (kCall [false] [none] d_rests_at_most (kCons (kVar 0) (kNil))))))
def d_count_allowing : List O → RF := fun os => finF [false] (g_count_allowing (startE [false] os 3))
/-- count_allowed: rules, some, row -/
def g_count_allowed : Env → RS := kSq (kEx (kCall [false] [none] d_require_rules (kCons (kVar 0) (kNil)))) (kSq (kAs (kLc [2] (kIt (kCall [false] [none] d_like_copies (kCons (kVar 0) (kNil)))) (hName 2) (kB (kCall [false, false] [none, none] d_is_allowed_by (kCons (k2 gAdd (kVar 2) (kMk .tup (kCons (k2 gIx (kVar 0) (kD (.int 5))) (kNil)))) (kCons (kVar 0) (kNil))))) (kVar 2)) (hName 1)) (kRt (k2 gMul (kn gLen (kCons (kFrz 1) (kNil))) (kCall [false] [none] d_rests_at_least (kCons (kVar 0) (kNil))))))
def d_count_allowed : List O → RF := fun os => finF [false] (g_count_allowed (startE [false] os 3))
/-- alike_rules: rules, found, row -/
def g_alike_rules : Env → RS := kSq (kAs (kLc [2] (kIt (kCall [false] [none] d_like_copies (kCons (kVar 0) (kNil)))) (hName 2) (kYes) (k2 gAdd (kVar 2) (kMk .tup (kCons (k2 gIx (kVar 0) (kD (.int 5))) (kNil))))) (hName 1)) (kRt (kn gSortA (kCons (kLc [2] (kIt (kFrz 1)) (hName 2) (kAnd (kB (kCall [false, false] [none, none] d_is_allowed_by (kCons (kVar 0) (kCons (kVar 2) (kNil))))) (kB (kCall [false, false] [none, none] d_is_allowed_by (kCons (kVar 2) (kCons (kVar 0) (kNil)))))) (kVar 2)) (kNil))))
def d_alike_rules : List O → RF := fun os => finF [false] (g_alike_rules (startE [false] os 3))
/-- count_alike: rules -/
def g_count_alike : Env → RS := kSq (kEx (kCall [false] [none] d_require_rules (kCons (kVar 0) (kNil)))) (kRt (kn gLen (kCons (kCall [false] [none] d_alike_rules (kCons (kVar 0) (kNil))) (kNil))))
def d_count_alike : List O → RF := fun os => finF [false] (g_count_alike (startE [false] os 1))
/-- plain_rules: rules -/
def g_plain_rules : Env → RS := kSq (kEx (kCall [false] [none] d_require_rules (kCons (kVar 0) (kNil)))) (kRt (kIxN 0 (kCall [false] [none] d_alike_rules (kCons (kVar 0) (kNil)))))
def d_plain_rules : List O → RF := fun os => finF [false] (g_plain_rules (startE [false] os 1))
/-- require_many: value, item -/
def g_require_many : Env → RS := kIf (kOr (kNot (kB (k1 (gIsi "tuple") (kVar 0)))) (kOr (kNot (kB (kCh gLe gLe (kD (.int 1)) (kn gLen (kCons (kVar 0) (kNil))) (kD c_MOST_RULES)))) (kNot (kB (kn gAll (kCons (kLc [1] (kIt (kVar 0)) (hName 1) (kYes) (kCall [false] [none] d_is_rules (kCons (kVar 1) (kNil)))) (kNil))))))) ((fun env => .err "InvalidRules" env)) (kNx)
def d_require_many : List O → RF := fun os => finF [false] (g_require_many (startE [false] os 2))
/-- allowed_pairs: many, found, at, one, to, other -/
def l_allowed_pairs_0 : Env → RS := kEx (kExt 1 (kLc [4, 5] (kEnumA (kCons (kVar 0) (kNil))) (hTup 2 (hCons (hName 4) (hCons (hName 5) (hNil)))) (kAnd (kB (k2 gNe (kVar 2) (kVar 4))) (kB (kCall [false, false] [none, none] d_is_allowed_by (kCons (kVar 3) (kCons (kVar 5) (kNil)))))) (kMk .tup (kCons (kVar 2) (kCons (kVar 4) (kNil))))))
def g_allowed_pairs : Env → RS := kSq (kEx (kCall [false] [none] d_require_many (kCons (kVar 0) (kNil)))) (kSq (kAs (kMk .lst (kNil)) (hName 1)) (kSq (kFor (kEnumA (kCons (kVar 0) (kNil))) (hTup 2 (hCons (hName 2) (hCons (hName 3) (hNil)))) l_allowed_pairs_0) (kRt (kMov 1))))
def d_allowed_pairs : List O → RF := fun os => finF [false] (g_allowed_pairs (startE [false] os 6))
/-- classes: many, pairs, found, at, places, place, some -/
def l_classes_0 : Env → RS := kSq (kAs (kLc [5, 6] (kEnumA (kCons (kFrz 2) (kNil))) (hTup 2 (hCons (hName 5) (hCons (hName 6) (hNil)))) (kAnd (kB (k2 gIn (kMk .tup (kCons (k2 gIx (kVar 6) (kD (.int 0))) (kCons (kVar 3) (kNil)))) (kFrz 1))) (kB (k2 gIn (kMk .tup (kCons (kVar 3) (kCons (k2 gIx (kVar 6) (kD (.int 0))) (kNil)))) (kFrz 1)))) (kVar 5)) (hName 4)) (kIf (kB (k2 gEq (kFrz 4) (kMk .lst (kNil)))) (kEx (kApp 2 [] (kCons (kMk .tup (kCons (kVar 3) (kNil))) (kNil)))) (kSetIx 2 (k2 gAdd (kIxP 2 (k2 gIx (kFrz 4) (kD (.int 0)))) (kMk .tup (kCons (kVar 3) (kNil)))) (k2 gIx (kFrz 4) (kD (.int 0)))))
def g_classes : Env → RS := kSq (kAs (kMk .tup (kCons (kCall [false] [none] d_allowed_pairs (kCons (kVar 0) (kNil))) (kCons (kMk .lst (kNil)) (kNil)))) (hTup 2 (hCons (hName 1) (hCons (hName 2) (hNil))))) (kSq (kFor (kRng1 (kCons (kn gLen (kCons (kVar 0) (kNil))) (kNil))) (hName 3) l_classes_0) (kRt (kMov 2)))
def d_classes : List O → RF := fun os => finF [false] (g_classes (startE [false] os 7))
/-- _law_many: source, found, turn -/
def l__law_many_0 : Env → RS := kEx (kApp 1 [] (kCons (kCall [true, false] [some 0, none] d__law_bent (kCons (kMark 0) (kCons (kIxP 1 (kCall [true, false] [some 0, none] d__law_pick (kCons (kMark 0) (kCons (kPk1 gLen 1 []) (kNil))))) (kNil)))) (kNil)))
def g__law_many : Env → RS := kSq (kAs (kMk .lst (kCons (kCall [true] [some 0] d__law_rules (kCons (kMark 0) (kNil))) (kNil))) (hName 1)) (kSq (kFor (kRng1 (kCons (kCall [true, false] [some 0, none] d__law_pick (kCons (kMark 0) (kCons (kD (.int 6)) (kNil)))) (kNil))) (hName 2) l__law_many_0) (kRt (kn gTuple (kCons (kFrz 1) (kNil)))))
def d__law_many : List O → RF := fun os => finF [true] (g__law_many (startE [true] os 3))
/-- require_reader: value -/
def g_require_reader : Env → RS := kIf (kNot (kB (kCall [false] [none] d_is_reader (kCons (kVar 0) (kNil))))) ((fun env => .err "InvalidReader" env)) (kNx)
def d_require_reader : List O → RF := fun os => finF [false] (g_require_reader (startE [false] os 1))
/-- latest_in: rules, state, place, days, turn, row -/
def l_latest_in_0 : Env → RS := kAs (kn gSortA (kCons (k2 gAdd (kSl (kFrz 3) (kPart (kD (.int 1))) kNoPart) (kMk .lst (kCons (k2 gAdd (k2 gAdd (k2 gIx (kFrz 3) (kD (.int 0))) (k2 gIx (kVar 0) (kD (.int 4)))) (k2 gIx (kVar 0) (kD (.int 1)))) (kNil)))) (kNil))) (hName 3)
def g_latest_in : Env → RS := kSq (kAs (kn gSortA (kCons (k2 gAdd (kLc [5] (kIt (k2 gIx (kVar 1) (kD (.int 2)))) (hName 5) (kYes) (k2 gIx (kVar 5) (kD (.int 1)))) (kLc [5] (kIt (k2 gIx (kVar 1) (kD (.int 3)))) (hName 5) (kYes) (k2 gAdd (k2 gIx (kVar 5) (kD (.int 1))) (k2 gIx (kVar 0) (kD (.int 1)))))) (kNil))) (hName 3)) (kSq (kFor (kRng1 (kCons (k2 gSub (kVar 2) (kD (.int 1))) (kNil))) (hName 4) l_latest_in_0) (kRt (k2 gIx (kFrz 3) (kD (.int 0)))))
def d_latest_in : List O → RF := fun os => finF [false, false, false] (g_latest_in (startE [false, false, false] os 6))
/-- left_out: history, reader, event -/
def g_left_out : Env → RS := kRt (kn gTuple (kCons (kLc [2] (kIt (kVar 0)) (hName 2) (kOr (kB (k2 gEq (k2 gIx (kVar 2) (kD (.int 0))) (kD (.str "days")))) (kB (k2 gNe (k2 gIx (kVar 2) (kD (.int 1))) (kVar 1)))) (kVar 2)) (kNil)))
def d_left_out : List O → RF := fun os => finF [false, false] (g_left_out (startE [false, false] os 3))
/-- require_allowed: rules, history -/
def g_require_allowed : Env → RS := kIf (kB (k2 gIsNot (kIxN 1 (kCall [false, false] [none, none] d_run_of (kCons (kVar 0) (kCons (kVar 1) (kNil))))) (kD .none))) ((fun env => .err "NotAllowed" env)) (kNx)
def d_require_allowed : List O → RF := fun os => finF [false, false] (g_require_allowed (startE [false, false] os 2))
/-- stand_without: rules, history, reader, short -/
def g_stand_without : Env → RS := kSq (kEx (kCall [false] [none] d_require_rules (kCons (kVar 0) (kNil)))) (kSq (kEx (kCall [false] [none] d_require_history (kCons (kVar 1) (kNil)))) (kSq (kEx (kCall [false] [none] d_require_reader (kCons (kVar 2) (kNil)))) (kSq (kEx (kCall [false, false] [none, none] d_require_allowed (kCons (kVar 0) (kCons (kVar 1) (kNil))))) (kSq (kAs (kCall [false, false] [none, none] d_left_out (kCons (kVar 1) (kCons (kVar 2) (kNil)))) (hName 3)) (kRt (kIte (kB (k2 gIs (kIxN 1 (kCall [false, false] [none, none] d_run_of (kCons (kVar 0) (kCons (kVar 3) (kNil))))) (kD .none))) (kCall [false, false] [none, none] d_stand (kCons (kVar 0) (kCons (kVar 3) (kNil)))) (kD .none)))))))
def d_stand_without : List O → RF := fun os => finF [false, false, false] (g_stand_without (startE [false, false, false] os 4))
/-- _wall: k -/
def l__wall_0 : Env → RS := kNx
def g__wall : Env → RS := loopW (kB (kD (.bool true))) l__wall_0 100000
def d__wall : List O → RF := fun os => finF [false] (g__wall (startE [false] os 1))
/-- values_for: rules, index, history, found, number -/
def l_values_for_0 : Env → RS := kIf (kB (k2 gIs (kIxN 1 (kCall [false, false] [none, none] d_run_of (kCons (k2 gAdd (k2 gAdd (kSl (kVar 0) kNoPart (kPart (kVar 1))) (kMk .tup (kCons (kVar 4) (kNil)))) (kSl (kVar 0) (kPart (k2 gAdd (kVar 1) (kD (.int 1)))) kNoPart)) (kCons (kVar 2) (kNil))))) (kD .none))) (kIf (kAnd (kB (kPkL gNe 3 [] (kMk .lst (kNil)))) (kB (k2 gEq (k2 gIx (kIxP 3 (k1 gNeg (kD (.int 1)))) (kD (.int 1))) (k2 gSub (kVar 4) (kD (.int 1)))))) (kSetIx 3 (kMk .tup (kCons (k2 gIx (kIxP 3 (k1 gNeg (kD (.int 1)))) (kD (.int 0))) (kCons (kVar 4) (kNil)))) (k1 gNeg (kD (.int 1)))) (kEx (kApp 3 [] (kCons (kMk .tup (kCons (kVar 4) (kCons (kVar 4) (kNil)))) (kNil))))) (kNx)
def g_values_for : Env → RS := kSq (kEx (kCall [false] [none] d_require_rules (kCons (kVar 0) (kNil)))) (kSq (kEx (kCall [false, false, false] [none, none, none] d_require_number (kCons (kVar 1) (kCons (kD (.int 0)) (kCons (kD (.int 5)) (kNil)))))) (kSq (kEx (kCall [false] [none] d_require_history (kCons (kVar 2) (kNil)))) (kSq (kAs (kMk .lst (kNil)) (hName 3)) (kSq (kFor (kRng2 (kCons (k2 gIx (kD c_LOWS) (kVar 1)) (kCons (k2 gAdd (k2 gIx (kD c_HIGHS) (kVar 1)) (kD (.int 1))) (kNil)))) (hName 4) l_values_for_0) (kRt (kMov 3))))))
def d_values_for : List O → RF := fun os => finF [false, false, false] (g_values_for (startE [false, false, false] os 5))
/-- fitting: many, history, at, rules -/
def g_fitting : Env → RS := kSq (kEx (kCall [false] [none] d_require_many (kCons (kVar 0) (kNil)))) (kSq (kEx (kCall [false] [none] d_require_history (kCons (kVar 1) (kNil)))) (kRt (kLc [2, 3] (kEnumA (kCons (kVar 0) (kNil))) (hTup 2 (hCons (hName 2) (hCons (hName 3) (hNil)))) (kB (k2 gIs (kIxN 1 (kCall [false, false] [none, none] d_run_of (kCons (kVar 3) (kCons (kVar 1) (kNil))))) (kD .none))) (kVar 2))))
def d_fitting : List O → RF := fun os => finF [false, false] (g_fitting (startE [false, false] os 4))
/-- count_pairs: rules, first, second, history, count, one, other, some -/
def l_count_pairs_0 : Env → RS := kSq (kAs (k2 gAdd (k2 gAdd (k2 gAdd (k2 gAdd (kSl (kVar 0) kNoPart (kPart (kVar 1))) (kMk .tup (kCons (kVar 5) (kNil)))) (kSl (kVar 0) (kPart (k2 gAdd (kVar 1) (kD (.int 1)))) (kPart (kVar 2)))) (kMk .tup (kCons (kVar 6) (kNil)))) (kSl (kVar 0) (kPart (k2 gAdd (kVar 2) (kD (.int 1)))) kNoPart)) (hName 7)) (kIf (kB (k2 gIs (kIxN 1 (kCall [false, false] [none, none] d_run_of (kCons (kVar 7) (kCons (kVar 3) (kNil))))) (kD .none))) (kAs (k2 gAdd (kVar 4) (kD (.int 1))) (hName 4)) (kNx))
def l_count_pairs_1 : Env → RS := kFor (kRng2 (kCons (k2 gIx (kD c_LOWS) (kVar 2)) (kCons (k2 gAdd (k2 gIx (kD c_HIGHS) (kVar 2)) (kD (.int 1))) (kNil)))) (hName 6) l_count_pairs_0
def g_count_pairs : Env → RS := kSq (kEx (kCall [false] [none] d_require_rules (kCons (kVar 0) (kNil)))) (kSq (kEx (kCall [false, false, false] [none, none, none] d_require_number (kCons (kVar 1) (kCons (kD (.int 0)) (kCons (kD (.int 5)) (kNil)))))) (kSq (kIf (kNot (kB (kCall [false, false, false] [none, none, none] d_is_integer (kCons (kVar 2) (kCons (k2 gAdd (kVar 1) (kD (.int 1))) (kCons (kD (.int 5)) (kNil))))))) ((fun env => .err "InvalidNumber" env)) (kNx)) (kSq (kEx (kCall [false] [none] d_require_history (kCons (kVar 3) (kNil)))) (kSq (kAs (kD (.int 0)) (hName 4)) (kSq (kFor (kRng2 (kCons (k2 gIx (kD c_LOWS) (kVar 1)) (kCons (k2 gAdd (k2 gIx (kD c_HIGHS) (kVar 1)) (kD (.int 1))) (kNil)))) (hName 5) l_count_pairs_1) (kRt (kVar 4)))))))
def d_count_pairs : List O → RF := fun os => finF [false, false, false, false] (g_count_pairs (startE [false, false, false, false] os 8))
end DP.G
end

section
namespace DP
open PySem PySem.Spec PyProof.Rows L2 DP.G
/-! ### reckoning a denotation -/
@[simp] theorem bind_ok {α β : Type} (a : α) (e : Env) (f : α → Env → RE β) : (RE.ok a e).bind f = f a e := (rfl)
@[simp] theorem kD_eq (d : PyData) (env : Env) : kD d env = (.ok (.dat d) env) := (rfl)
@[simp] theorem kVar_eq (i : Nat) (env : Env) : kVar i env = (match env[i]? with
  | some (.v (.dat d)) => .ok (.dat d) env
  | some (.io (.dat d)) => .ok (.dat d) env
  | _ => .no) := (rfl)
@[simp] theorem kMov_eq (i : Nat) (env : Env) : kMov i env = (match env[i]? with
  | some (.v (.dat d)) => .ok (.dat d) env
  | some (.v o) => .ok o (env.set i .no)
  | some (.io o) => .ok o (env.set i .mv)
  | _ => .no) := (rfl)
@[simp] theorem kFrz_eq (i : Nat) (env : Env) : kFrz i env = (match env[i]? with
  | some (.v o) => match o.toD with
    | some d => .ok (.dat d) (env.set i (.v (.dat d)))
    | none => .no
  | some (.io (.dat d)) => .ok (.dat d) env
  | _ => .no) := (rfl)
@[simp] theorem kMark_eq (i : Nat) (env : Env) : kMark i env = (match env[i]? with
  | some (.v _) => .ok .any env
  | some (.io _) => .ok .any env
  | _ => .no) := (rfl)
@[simp] theorem kNil_eq  (env : Env) : kNil env = (.ok [] env) := (rfl)
@[simp] theorem kCons_eq (f : EF) (g : Env → RE (List O)) (env : Env) : kCons f g env = ((f env).bind fun o env1 => (g env1).bind fun os env2 => .ok (o :: os) env2) := (rfl)
@[simp] theorem kAny_eq  (env : Env) : kAny env = (.ok .any env) := (rfl)
@[simp] theorem kMk_eq (s : Shp) (g : Env → RE (List O)) (env : Env) : kMk s g env = ((g env).bind fun os env1 => if os.length ≤ 1000000 then .ok (O.fz (.node s os)) env1 else .no) := (rfl)
@[simp] theorem k2_eq (g : PyData → PyData → Option O) (f1 f2 : EF) (env : Env) : k2 g f1 f2 env = ((f1 env).bind fun o1 e1 => (f2 e1).bind fun o2 e2 => match o1.toD, o2.toD with
  | some d1, some d2 => match g d1 d2 with
    | some z => .ok z e2
    | none => .no
  | _, _ => .no) := (rfl)
@[simp] theorem k1_eq (g : PyData → Option O) (f1 : EF) (env : Env) : k1 g f1 env = ((f1 env).bind fun o1 e1 => match o1.toD with
  | some d1 => match g d1 with
    | some z => .ok z e1
    | none => .no
  | _ => .no) := (rfl)
@[simp] theorem kn_eq (g : List PyData → Option O) (f : Env → RE (List O)) (env : Env) : kn g f env = ((f env).bind fun os e1 => match O.toDs os with
  | some ds => match g ds with
    | some z => .ok z e1
    | none => .no
  | _ => .no) := (rfl)
@[simp] theorem kB_eq (f : EF) (env : Env) : kB f env = ((f env).bind fun o e1 => match o with
  | .dat (.bool b) => .ok b e1
  | _ => .no) := (rfl)
@[simp] theorem kAnd_eq (f g : Env → RE Bool) (env : Env) : kAnd f g env = ((f env).bind fun b e1 => if b = true then g e1 else .ok false e1) := (rfl)
@[simp] theorem kOr_eq (f g : Env → RE Bool) (env : Env) : kOr f g env = ((f env).bind fun b e1 => if b = true then .ok true e1 else g e1) := (rfl)
@[simp] theorem kNot_eq (f : Env → RE Bool) (env : Env) : kNot f env = ((f env).bind fun b e1 => .ok (!b) e1) := (rfl)
@[simp] theorem kAndV_eq (f g : EF) (env : Env) : kAndV f g env = ((f env).bind fun o e1 => match o with
  | .dat (.bool true) => g e1
  | .dat (.bool false) => .ok (.dat (.bool false)) e1
  | _ => .no) := (rfl)
@[simp] theorem kOrV_eq (f g : EF) (env : Env) : kOrV f g env = ((f env).bind fun o e1 => match o with
  | .dat (.bool true) => .ok (.dat (.bool true)) e1
  | .dat (.bool false) => g e1
  | _ => .no) := (rfl)
@[simp] theorem kNotV_eq (f : EF) (env : Env) : kNotV f env = ((f env).bind fun o e1 => match o with
  | .dat (.bool b) => .ok (.dat (.bool !b)) e1
  | _ => .no) := (rfl)
@[simp] theorem kIte_eq (t : Env → RE Bool) (f g : EF) (env : Env) : kIte t f g env = ((t env).bind fun b e1 => if b = true then f e1 else g e1) := (rfl)
@[simp] theorem kCh_eq (g g' : PyData → PyData → Option O) (f1 f2 f3 : EF) (env : Env) : kCh g g' f1 f2 f3 env = ((f1 env).bind fun o1 e1 => (f2 e1).bind fun o2 e2 => match o1.toD, o2.toD with
  | some d1, some d2 => match g d1 d2 with
    | some (.dat (.bool true)) => (f3 e2).bind fun o3 e3 => match o3.toD with
      | some d3 => match g' d2 d3 with
        | some (.dat (.bool b)) => .ok (.dat (.bool b)) e3
        | _ => .no
      | none => .no
    | some (.dat (.bool false)) => .ok (.dat (.bool false)) e2
    | _ => .no
  | _, _ => .no) := (rfl)
@[simp] theorem kSq_eq (f g : Env → RS) (env : Env) : kSq f g env = ((f env).sq g) := (rfl)
@[simp] theorem kNx_eq  (env : Env) : kNx env = (.nx env) := (rfl)
@[simp] theorem kEx_eq (f : EF) (env : Env) : kEx f env = ((f env).st fun _ e => .nx e) := (rfl)
@[simp] theorem kRt_eq (f : EF) (env : Env) : kRt f env = ((f env).st fun o e => .rt o e) := (rfl)
@[simp] theorem kIf_eq (t : Env → RE Bool) (f g : Env → RS) (env : Env) : kIf t f g env = ((t env).st fun b e => if b = true then f e else g e) := (rfl)
@[simp] theorem hName_eq (i : Nat) (o : O) (env : Env) : hName i o env = (match env[i]? with
  | some s => if s.w = true then some (env.set i (.v o)) else none
  | none => none) := (rfl)
@[simp] theorem kAs_eq (f : EF) (h : GF) (env : Env) : kAs f h env = ((f env).st fun o e => match h o e with
  | some e' => .nx e'
  | none => .no) := (rfl)
@[simp] theorem hNil_eq  (os : List O) (env : Env) : hNil os env = (match os with
  | [] => some env
  | _ => none) := (rfl)
@[simp] theorem hCons_eq (h : GF) (hs : List O → Env → Option Env) (os : List O) (env : Env) : hCons h hs os env = (match os with
  | o :: r => match h o env with
    | some e => hs r e
    | none => none
  | [] => none) := (rfl)
@[simp] theorem hTup_eq (n : Nat) (hs : List O → Env → Option Env) (o : O) (env : Env) : hTup n hs o env = (match o with
  | .dat (.tuple ds) => if ds.length = n then hs (ds.map .dat) env else none
  | .node .tup os => if os.length = n then hs os env else none
  | _ => none) := (rfl)
@[simp] theorem kPar_eq (i j : Nat) (g : Env → RE (List O)) (env : Env) : kPar i j g env = ((g env).st fun os e => match os with
  | [o1, o2] => match hName i o1 e with
    | some e1 => match hName j o2 e1 with
      | some e2 => .nx e2
      | none => .no
    | none => .no
  | _ => .no) := (rfl)
@[simp] theorem kFor_eq (h : IF) (hg : GF) (body : Env → RS) (env : Env) : kFor h hg body env = ((h env).st fun ds e => loopS hg body ds e) := (rfl)
@[simp] theorem kLc_eq (own : List Nat) (h : IF) (hg : GF) (t : Env → RE Bool) (f : EF) (env : Env) : kLc own h hg t f env = ((h env).bind fun ds e => match wipeE own e with
  | some e' => lcEnd (compL own hg t f ds e' [])
  | none => .no) := (rfl)
@[simp] theorem kYes_eq  (env : Env) : kYes env = (.ok true env) := (rfl)
@[simp] theorem kCall_eq (io : List Bool) (ios : List (Option Nat)) (den : List O → RF) (fa : Env → RE (List O)) (env : Env) : kCall io ios den fa env = ((fa env).bind fun os0 e0 => match lendIn ios os0 e0 with
  | some (os, e) => if os.length = io.length then match den os with
    | .ok o outs => .ok o (backs io ios outs e)
    | .err x outs => .err x (backs io ios outs e)
    | .no => .no
    else .no
  | none => .no) := (rfl)
@[simp] theorem kIt_eq (f : EF) (env : Env) : kIt f env = ((f env).bind fun o e1 => match o.toD with
  | some d => match seqD d with
    | some ds => .ok ds e1
    | none => .no
  | none => .no) := (rfl)
@[simp] theorem kRng1_eq (g : Env → RE (List O)) (env : Env) : kRng1 g env = ((g env).bind fun os e1 => match os with
  | [.dat (.int j)] => if -4611686018427387904 ≤ j ∧ j < 4611686018427387904 then .ok (rngD 0 j.toNat) e1 else .no
  | _ => .no) := (rfl)
@[simp] theorem kRng2_eq (g : Env → RE (List O)) (env : Env) : kRng2 g env = ((g env).bind fun os e1 => match os with
  | [.dat (.int i), .dat (.int j)] => if -4611686018427387904 ≤ i ∧ i < 4611686018427387904 ∧ -4611686018427387904 ≤ j ∧ j < 4611686018427387904 then .ok (rngD i (j - i).toNat) e1 else .no
  | _ => .no) := (rfl)
@[simp] theorem kZip3_eq (g : Env → RE (List O)) (env : Env) : kZip3 g env = ((g env).bind fun os e1 => match O.toDs os with
  | some [.tuple xs, .tuple ys, .tuple zs] => .ok (zip3D xs ys zs) e1
  | _ => .no) := (rfl)
@[simp] theorem kLeaf_eq (i : Nat) (π : List Nat) (env : Env) : kLeaf i π env = (match getP env i π with
  | some (.dat d) => .ok (.dat d) env
  | _ => .no) := (rfl)
@[simp] theorem kSetP_eq (i : Nat) (π : List Nat) (k : Nat) (f : EF) (env : Env) : kSetP i π k f env = ((f env).st fun o e => match getP e i π with
  | some (.node .lst xs) => if k < xs.length then .nx (putP e i π (.node .lst (xs.set k o))) else .no
  | _ => .no) := (rfl)
@[simp] theorem hTupL_eq (n : Nat) (hs : List O → Env → Option Env) (o : O) (env : Env) : hTupL n hs o env = (match o with
  | .dat (.list ds) => if ds.length = n then hs (ds.map .dat) env else none
  | .node .lst os => if os.length = n then hs os env else none
  | _ => none) := (rfl)
@[simp] theorem kEnum_eq (g : Env → RE (List O)) (env : Env) : kEnum g env = ((g env).bind fun os e1 => match os with
  | [o] => match o.toD with
    | some d => match lstD d with
      | some ds => .ok (enumD 0 ds) e1
      | none => .no
    | none => .no
  | _ => .no) := (rfl)
@[simp] theorem kApp_eq (i : Nat) (π : List Nat) (g : Env → RE (List O)) (env : Env) : kApp i π g env = (match getP env i π with
  | some (.node .lst _) => (g env).bind fun os e => match os, getP e i π with
    | [o], some (.node .lst xs) => if xs.length < 1000000 then .ok (.dat .none) (putP e i π (.node .lst (xs ++ [o]))) else .no
    | _, _ => .no
  | _ => .no) := (rfl)
@[simp] theorem kEnumA_eq (g : Env → RE (List O)) (env : Env) : kEnumA g env = ((g env).bind fun os e1 => match os with
  | [o] => match o.toD with
    | some d => match seqD d with
      | some ds => .ok (enumD 0 ds) e1
      | none => .no
    | none => .no
  | _ => .no) := (rfl)
@[simp] theorem kZip2_eq (g : Env → RE (List O)) (env : Env) : kZip2 g env = ((g env).bind fun os e1 => match O.toDs os with
  | some [.list xs, .list ys] => .ok (zip2D xs ys) e1
  | _ => .no) := (rfl)
@[simp] theorem kRng3_eq (g : Env → RE (List O)) (env : Env) : kRng3 g env = ((g env).bind fun os e1 => match os with
  | [.dat (.int i), .dat (.int j), .dat (.int k)] => if 0 ≤ i ∧ i < 1000000000 ∧ 0 ≤ j ∧ j < 1000000000 ∧ 1 ≤ k ∧ k < 1000000 then .ok (stepD i k (if j ≤ i then 0 else ((j - i - 1) / k + 1).toNat)) e1 else .no
  | _ => .no) := (rfl)
@[simp] theorem kPkL_eq (g : PyData → PyData → Option O) (i : Nat) (π : List Nat) (f : EF) (env : Env) : kPkL g i π f env = (match getP env i π with
  | some o => match o.toD with
    | some d1 => (f env).bind fun o2 e2 => match o2.toD with
      | some d2 => match g d1 d2 with
        | some (.dat z) => if flatD z = true then .ok (.dat z) e2 else .no
        | _ => .no
      | none => .no
    | none => .no
  | none => .no) := (rfl)
@[simp] theorem kPkR_eq (g : PyData → PyData → Option O) (f : EF) (i : Nat) (π : List Nat) (env : Env) : kPkR g f i π env = ((f env).bind fun o1 e1 => match o1.toD, getP e1 i π with
  | some d1, some o => match o.toD with
    | some d2 => match g d1 d2 with
      | some (.dat z) => if flatD z = true then .ok (.dat z) e1 else .no
      | _ => .no
    | none => .no
  | _, _ => .no) := (rfl)
@[simp] theorem kPk1_eq (g : List PyData → Option O) (i : Nat) (π : List Nat) (env : Env) : kPk1 g i π env = (match getP env i π with
  | some o => match o.toD with
    | some d => match g [d] with
      | some (.dat z) => if flatD z = true then .ok (.dat z) env else .no
      | _ => .no
    | none => .no
  | none => .no) := (rfl)
@[simp] theorem kLsP_eq (i : Nat) (π : List Nat) (env : Env) : kLsP i π env = (match getP env i π with
  | some (.node .lst os) => match datsO os with
    | some ds => .ok (.node .lst (ds.map .dat)) env
    | none => .no
  | _ => .no) := (rfl)
@[simp] theorem kTpP_eq (i : Nat) (π : List Nat) (env : Env) : kTpP i π env = (match getP env i π with
  | some (.node .lst os) => match datsO os with
    | some ds => .ok (.dat (.tuple ds)) env
    | none => .no
  | _ => .no) := (rfl)
@[simp] theorem kAppP_eq (i : Nat) (π : List Nat) (g : Env → RE (List O)) (env : Env) : kAppP i π g env = (match getP env i π with
  | some (.node .lst _) => (g env).bind fun os e => match os, getP e i π with
    | [o], some (.node .lst xs) => if xs.length < 1000000 then .ok (.dat .none) (putP e i π (.node .lst (xs ++ [o]))) else .no
    | _, _ => .no
  | _ => .no) := (rfl)
@[simp] theorem kPopP_eq (i : Nat) (π : List Nat) (g : Env → RE (List O)) (env : Env) : kPopP i π g env = (match getP env i π with
  | some (.node .lst _) => (g env).bind fun os e => match os, getP e i π with
    | [.dat (.int j)], some (.node .lst xs) => match ixN xs.length j with
      | some k => match xs[k]? with
        | some (.dat d) => if -1000000 < j ∧ j < 1000000 then .ok (.dat d) (putP e i π (.node .lst (xs.eraseIdx k))) else .no
        | _ => .no
      | none => .no
    | _, _ => .no
  | _ => .no) := (rfl)
@[simp] theorem kIdxP_eq (i : Nat) (π : List Nat) (g : Env → RE (List O)) (env : Env) : kIdxP i π g env = (match getP env i π with
  | some (.node .lst _) => (g env).bind fun os e => match os, (getP e i π).bind O.toD with
    | [.dat d], some (.list ds) => if flatD d = true ∧ ds.all flatD = true then match findD d ds 0 with
        | some k => .ok (.dat (.int k)) e
        | none => .no
      else .no
    | _, _ => .no
  | _ => .no) := (rfl)
@[simp] theorem dicP_eqn (env : Env) (i : Nat) (π : List Nat) : dicP env i π = (getP env i π).bind O.dic := (rfl)
@[simp] theorem kDIn_eq (neg : Bool) (i : Nat) (π : List Nat) (f : EF) (env : Env) : kDIn neg i π f env = ((f env).bind fun o e => match o, dicP e i π with
  | .dat (.int n), some kvs => .ok (.dat (.bool ((getI kvs n).isSome != neg))) e
  | _, _ => .no) := (rfl)
@[simp] theorem kDGet_eq (i : Nat) (π : List Nat) (f : EF) (env : Env) : kDGet i π f env = (match dicP env i π with
  | some _ => (f env).bind fun o e => match o, dicP e i π with
    | .dat (.int n), some kvs => match getI kvs n with
      | some d => .ok (.dat d) e
      | none => .no
    | _, _ => .no
  | none => .no) := (rfl)
@[simp] theorem kDGet2_eq (i : Nat) (π : List Nat) (f g : EF) (env : Env) : kDGet2 i π f g env = (match dicP env i π with
  | some _ => (f env).bind fun o e => (g e).bind fun o2 e2 => match o, o2, dicP e2 i π with
    | .dat (.int n), .dat d, some kvs => .ok (.dat ((getI kvs n).getD d)) e2
    | _, _, _ => .no
  | none => .no) := (rfl)
@[simp] theorem kDPop_eq (i : Nat) (π : List Nat) (f : EF) (env : Env) : kDPop i π f env = (match dicP env i π with
  | some _ => (f env).bind fun o e => match o, dicP e i π with
    | .dat (.int n), some kvs => match getI kvs n with
      | some d => .ok (.dat d) (putP e i π (dI (dropI kvs n)))
      | none => .no
    | _, _ => .no
  | none => .no) := (rfl)
@[simp] theorem kDPut_eq (i : Nat) (π : List Nat) (fv fk : EF) (env : Env) : kDPut i π fv fk env = ((fv env).st fun o1 e1 => match dicP e1 i π with
  | some _ => (fk e1).st fun o2 e2 => match o1.toD, o2, dicP e2 i π with
    | some d, .dat (.int n), some kvs => if kvs.length < 1000000 then .nx (putP e2 i π (dI (putI kvs n d))) else .no
    | _, _, _ => .no
  | none => .no) := (rfl)
@[simp] theorem kDNew_eq (env : Env) : kDNew env = .ok (dI []) env := (rfl)
@[simp] theorem kDCpy_eq (i : Nat) (π : List Nat) (env : Env) : kDCpy i π env = (match dicP env i π with
  | some kvs => .ok (dI kvs) env
  | none => .no) := (rfl)
@[simp] theorem kDSrt_eq (i : Nat) (π : List Nat) (env : Env) : kDSrt i π env = (match dicP env i π with
  | some kvs => if kvs.length < 64 then .ok (.node .lst (((sortZ (kvs.map (·.1))).map .int).map .dat)) env else .no
  | none => .no) := (rfl)
@[simp] theorem kIxN_eq (k : Nat) (f : EF) (env : Env) : kIxN k f env = ((f env).bind fun o e => match o with
  | .node .tup xs => match xs[k]? with
    | some x => .ok x e
    | none => .no
  | .dat (.tuple ds) => match ds[k]? with
    | some d => .ok (.dat d) e
    | none => .no
  | .dat (.list ds) => match ds[k]? with
    | some d => .ok (.dat d) e
    | none => .no
  | .node .lst xs => match xs[k]? with
    | some x => .ok x e
    | none => .no
  | _ => .no) := (rfl)
@[simp] theorem kDPutPop_eq (i k j : Nat) (fv : EF) (env : Env) : kDPutPop i k j fv env = ((fv env).st fun o1 e1 => match dicP e1 i [k], getP e1 i [j], o1.toD with
  | some kvs, some (.node .lst os), some d => match intsO os with
    | some (n :: ns) => if kvs.length < 1000000 ∧ j ≠ k then .nx (putP (putP e1 i [j] (.node .lst ((ns.map PyData.int).map .dat))) i [k] (dI (putI kvs n d))) else .no
    | _ => .no
  | _, _, _ => .no) := (rfl)
@[simp] theorem kDue_eq (i w k2 k0 : Nat) (env : Env) : kDue i w k2 k0 env = (match getP env i [], dicP env i [k2], getP env i [k0] with
  | some (.node .lst _), some kvs, some (.dat (.int day)) => match duesD kvs with
    | some l => if l.length < 1000000 ∧ w < env.length ∧ (kvs.map (·.1)).Nodup then .ok (.node .lst (((onesZ day l).map PyData.int).map .dat)) env else .no
    | none => .no
  | _, _, _ => .no) := (rfl)
@[simp] theorem kIxP_eq (i : Nat) (f : EF) (env : Env) : kIxP i f env = (match getP env i [] with
  | some (.node .lst _) => (f env).bind fun o e => match o, getP e i [] with
    | .dat (.int j), some (.node .lst xs) => match atI xs j with
      | some (.dat d) => .ok (.dat d) e
      | _ => .no
    | _, _ => .no
  | _ => .no) := (rfl)
@[simp] theorem kSetIx_eq (i : Nat) (fv fk : EF) (env : Env) : kSetIx i fv fk env = ((fv env).st fun o1 e1 => match getP e1 i [] with
  | some (.node .lst _) => (fk e1).st fun o2 e2 => match o2, getP e2 i [] with
    | .dat (.int j), some (.node .lst xs) => match ixN xs.length j with
      | some k => .nx (putP e2 i [] (.node .lst (xs.set k o1)))
      | none => .no
    | _, _ => .no
  | _ => .no) := (rfl)
@[simp] theorem kExt_eq (i : Nat) (f : EF) (env : Env) : kExt i f env = (match getP env i [] with
  | some (.node .lst _) => (f env).bind fun o e => match o, getP e i [] with
    | .node .lst ys, some (.node .lst xs) => if xs.length + ys.length < 1000000 then .ok (.dat .none) (putP e i [] (.node .lst (xs ++ ys))) else .no
    | _, _ => .no
  | _ => .no) := (rfl)
@[simp] theorem kNone_eq (neg : Bool) (i : Nat) (env : Env) : kNone neg i env = (match getP env i [] with
  | some (.dat d) => .ok (.dat (.bool (isN d != neg))) env
  | some (.node _ _) => .ok (.dat (.bool neg)) env
  | _ => .no) := (rfl)
@[simp] theorem kPar3_eq (i j l : Nat) (g : Env → RE (List O)) (env : Env) : kPar3 i j l g env = ((g env).st fun os e => match os with
  | [o1, o2, o3] => match hName i o1 e with
    | some e1 => match hName j o2 e1 with
      | some e2 => match hName l o3 e2 with
        | some e3 => .nx e3
        | none => .no
      | none => .no
    | none => .no
  | _ => .no) := (rfl)
@[simp] theorem kLsRg_eq (f : EF) (env : Env) : kLsRg f env = ((f env).bind fun o e => match o with
  | .dat (.int n) => if 0 ≤ n ∧ n ≤ 1000000 then .ok (.node .lst ((rngD 0 n.toNat).map .dat)) e else .no
  | _ => .no) := (rfl)
@[simp] theorem seqD_ll (ds : List PyData) : seqD (.list ds) = some ds := (rfl)
@[simp] theorem seqD_t (ds : List PyData) : seqD (.tuple ds) = some ds := (rfl)
@[simp] theorem seqD_d (ds : List PyData) : seqD (.dict [(.list ds, .none)]) = some ds := (rfl)
@[simp] theorem dic_dI' (kvs : List (Int × PyData)) : (dI kvs).dic = some kvs := dic_dI kvs
@[simp] theorem lstD_l (ds : List PyData) : lstD (.list ds) = some ds := (rfl)
@[simp] theorem st_ok {α : Type} (a : α) (e : Env) (f : α → Env → RS) : (RE.ok a e).st f = f a e := (rfl)
@[simp] theorem sq_nx (e : Env) (g : Env → RS) : (RS.nx e).sq g = g e := (rfl)
@[simp] theorem sq_rt (o : O) (e : Env) (g : Env → RS) : (RS.rt o e).sq g = .rt o e := (rfl)
@[simp] theorem toD_dat (d : PyData) : (O.dat d).toD = some d := by rw [O.toD]
@[simp] theorem toDs_nil : O.toDs [] = some [] := by rw [O.toDs]
@[simp] theorem toDs_cons (o : O) (os : List O) : O.toDs (o :: os) = (match o.toD, O.toDs os with | some d, some ds => some (d :: ds) | _, _ => none) := by
  rw [O.toDs] <;> cases o.toD <;> cases O.toDs os <;> rfl
@[simp] theorem toD_lst (xs : List O) : (O.node .lst xs).toD = (O.toDs xs).map .list := by rw [O.toD]
@[simp] theorem toD_tup (xs : List O) : (O.node .tup xs).toD = (O.toDs xs).map .tuple := by rw [O.toD]
theorem toDs_map : ∀ ds : List PyData, O.toDs (ds.map .dat) = some ds
  | [] => by simp
  | d :: ds => by simp [toDs_map ds]
@[simp] theorem fz_lst (xs : List O) : O.fz (.node .lst xs) = .node .lst xs := (rfl)
theorem fz_tup (xs : List O) : O.fz (.node .tup xs) = (match O.toDs xs with | some ds => .dat (.tuple ds) | none => .node .tup xs) := (rfl)
@[simp] theorem w_no : Sl.w .no = true := (rfl)
@[simp] theorem w_v (o : O) : Sl.w (.v o) = true := (rfl)

section
variable (i j : Int)
@[simp] theorem gAdd_i : gAdd (.int i) (.int j) = some (.dat (.int (i + j))) := (rfl)
@[simp] theorem gSub_i : gSub (.int i) (.int j) = some (.dat (.int (i - j))) := (rfl)
@[simp] theorem gMul_i : gMul (.int i) (.int j) = (if (-18446744073709551616 < i ∧ i < 18446744073709551616) ∨ (-18446744073709551616 < j ∧ j < 18446744073709551616) then some (.dat (.int (i * j))) else none) := (rfl)
@[simp] theorem gDiv_i : gDiv (.int i) (.int j) = (if 0 < j ∧ j < 18446744073709551616 then some (.dat (.int (i / j))) else none) := (rfl)
@[simp] theorem gMod_i : gMod (.int i) (.int j) = (if 0 < j then some (.dat (.int (i % j))) else none) := (rfl)
@[simp] theorem gPow_i : gPow (.int i) (.int j) = (if 0 ≤ j ∧ j ≤ 1000 ∧ -1000000 < i ∧ i < 1000000 then some (.dat (.int (i ^ j.toNat))) else none) := (rfl)
@[simp] theorem gCmp_i (p : Int → Int → Bool) : gCmp p (.int i) (.int j) = some (.dat (.bool (p i j))) := (rfl)
@[simp] theorem gMax2_i : gMax2 [.int i, .int j] = some (.dat (.int (if j > i then j else i))) := (rfl)
@[simp] theorem gMin2_i : gMin2 [.int i, .int j] = some (.dat (.int (if j < i then j else i))) := (rfl)
@[simp] theorem gEq_i : gEq (.int i) (.int j) = some (.dat (.bool (decide (i = j)))) := by
  unfold gEq
  rw [if_pos ⟨rfl, rfl⟩]
  congr 3
@[simp] theorem gNe_i : gNe (.int i) (.int j) = some (.dat (.bool (!decide (i = j)))) := by
  unfold gNe
  rw [if_pos ⟨rfl, rfl⟩]
  congr 3
@[simp] theorem gIx_l (ds : List PyData) : gIx (.list ds) (.int i) = (atI ds i).map .dat := (rfl)
@[simp] theorem gIx_t (ds : List PyData) : gIx (.tuple ds) (.int i) = (atI ds i).map .dat := (rfl)
@[simp] theorem gIx_d (ds : List PyData) : gIx (.dict [(.list ds, .none)]) (.int i) = (atI ds i).map .dat := (rfl)
@[simp] theorem gLen_l (ds : List PyData) : gLen [.list ds] = some (.dat (.int ds.length)) := (rfl)
@[simp] theorem gLen_t (ds : List PyData) : gLen [.tuple ds] = some (.dat (.int ds.length)) := (rfl)
@[simp] theorem gLen_d (ds : List PyData) : gLen [.dict [(.list ds, .none)]] = some (.dat (.int ds.length)) := (rfl)
end
/-- a loop that keeps a word I -/
theorem loopS_inv {hg : GF} {body : Env → RS} (I : Env → Prop) : ∀ {ds : List PyData} {env : Env}, (∀ d ∈ ds, ∀ env, I env → ∃ env1, hg (.dat d) env = some env1 ∧ ∃ env2, body env1 = .nx env2 ∧ I env2) → I env → ∃ env', loopS hg body ds env = .nx env' ∧ I env'
  | [], env, _, h0 => ⟨env, rfl, h0⟩
  | d :: ds, env, h, h0 => by
    obtain ⟨e1, q1, e2, q2, i2⟩ := h d List.mem_cons_self env h0
    obtain ⟨e3, q3, i3⟩ := loopS_inv I (ds := ds) (fun d z => h d (List.mem_cons_of_mem _ z)) i2
    refine ⟨e3, ?_, i3⟩
    rw [loopS, q1]
    show (match body e1 with | .nx e2 => loopS hg body ds e2 | .ct e2 => loopS hg body ds e2 | .bk e2 => .nx e2 | r => r) = _
    rw [q2]
    exact q3
theorem rngD_mem {lo : Int} {n : Nat} {d : PyData} (h : d ∈ rngD lo n) : ∃ i : Nat, i < n ∧ d = .int (lo + i) := by
  unfold rngD at h
  obtain ⟨i, h1, h2⟩ := List.mem_map.mp h
  exact ⟨i, List.mem_range.mp h1, h2.symm⟩
/-- a loop over a range that keeps a word I -/
theorem loopR_inv {hg : GF} {body : Env → RS} {lo : Int} {n : Nat} {env : Env} (I : Env → Prop) (h : ∀ i : Nat, i < n → ∀ env, I env → ∃ env1, hg (.dat (.int (lo + i))) env = some env1 ∧ ∃ env2, body env1 = .nx env2 ∧ I env2) (h0 : I env) : ∃ env', loopS hg body (rngD lo n) env = .nx env' ∧ I env' :=
  loopS_inv I (fun d z env i => by
    obtain ⟨j, hj, rfl⟩ := rngD_mem z
    exact h j hj env i) h0
/-! ### the source of drawn numbers -/
def Src (o : O) : Prop := ∃ a s p : Int, o = .node .lst [.dat (.int a), .dat (.int s), .dat (.int p)] ∧ 0 ≤ s ∧ s < 8589934592 ∧ 0 < p ∧ p < 4294967296
theorem pick_ok {o : O} {n : Int} (h : Src o) (h0 : 0 < n) (h1 : n < 18446744073709551616) : ∃ (r : Int) (o' : O), d__law_pick [o, .dat (.int n)] = .ok (.dat (.int r)) [o'] ∧ 0 ≤ r ∧ r < n ∧ Src o' := by
  obtain ⟨a, s, p, rfl, s0, s1, p0, p1⟩ := h
  by_cases ha : 0 < a
  · refine ⟨a % n, .node .lst [.dat (.int (a / n)), .dat (.int s), .dat (.int p)], ?_, Int.emod_nonneg _ (by omega), Int.emod_lt_of_pos _ h0, _, _, _, rfl, s0, s1, p0, p1⟩
    simp [d__law_pick, g__law_pick, kSq, kIf, kB, k2, kLeaf, kD, kAs, kVar, kRt, kSetP, kNx, startE, getP, slotO, O.get, nth, Shp.at, gGt, gCmp, gMod, gDiv, hName, putP, setO, O.put, finF, outsOf, ha, h0, h1, List.replicate]
  · have b1 := Int.emod_nonneg (s * 48271) (show p ≠ 0 by omega)
    have b2 := Int.emod_lt_of_pos (s * 48271) p0
    obtain ⟨q, hq⟩ : ∃ q, q = s * 48271 % p + 1 := ⟨_, rfl⟩
    have c1 : 1 ≤ q := by omega
    have c2 : q < 4294967297 := by omega
    have m1 : (-18446744073709551616 < s ∧ s < 18446744073709551616) := by omega
    have m2 : (-18446744073709551616 < q ∧ q < 18446744073709551616) := by omega
    refine ⟨q * q % 2147483423 / 7 % n, .node .lst [.dat (.int a), .dat (.int q), .dat (.int p)], ?_, Int.emod_nonneg _ (by omega), Int.emod_lt_of_pos _ h0, _, _, _, rfl, by omega, by omega, p0, p1⟩
    simp [d__law_pick, g__law_pick, kSq, kIf, kB, k2, kLeaf, kD, kAs, kVar, kRt, kSetP, kNx, startE, getP, slotO, O.get, nth, Shp.at, gGt, gCmp, gMod, gDiv, gMul, gAdd, hName, putP, setO, O.put, finF, outsOf, ha, h0, h1, p0, m1, m2, ← hq, List.replicate]
end DP
end

section
namespace DP
open PySem PySem.Spec PyProof.Rows L2 DP.G
theorem atI_mem {α : Type} {xs : List α} {i : Int} (h0 : 0 ≤ i) (h : i < xs.length) : ∃ d, atI xs i = some d ∧ d ∈ xs := by
  have h1 : i.toNat < xs.length := by omega
  refine ⟨xs[i.toNat], ?_, List.getElem_mem _⟩
  have e : i = ((i.toNat : Nat) : Int) := by omega
  conv => lhs; rw [e]
  exact atI_nat (List.getElem?_eq_getElem h1)
theorem atI_ints {ns : List Int} {i : Int} (h0 : 0 ≤ i) (h : i < ns.length) : ∃ z : Int, atI (ns.map PyData.int) i = some (.int z) := by
  obtain ⟨d, h1, h2⟩ := atI_mem (xs := ns.map PyData.int) h0 (by simpa using h)
  obtain ⟨z, _, rfl⟩ := List.mem_map.mp h2
  exact ⟨z, h1⟩
/-- the source of a script -/
theorem source_ok (ns : List Int) {k : Int} (h0 : 0 ≤ k) (h1 : k < 64) : ∃ o, d__law_source [scriptO ns, .dat (.int k)] = .ok o [] ∧ Src o := by
  have q0 := Int.emod_nonneg k (show (8 : Int) ≠ 0 by decide)
  have q1 := Int.emod_lt_of_pos k (show (0 : Int) < 8 by decide)
  obtain ⟨p, hp, hpm⟩ := atI_mem (xs := [PyData.int 2147483647, PyData.int 2147483629, PyData.int 2147483587, PyData.int 2147483579, PyData.int 2147483563, PyData.int 2147483549, PyData.int 2147483543, PyData.int 2147483497]) (i := k % 8) q0 (by simpa using q1)
  obtain ⟨pz, rfl, p0, p1⟩ : ∃ pz : Int, p = .int pz ∧ 0 < pz ∧ pz < 4294967296 := by
    simp only [List.mem_cons, List.not_mem_nil, or_false] at hpm
    rcases hpm with h | h | h | h | h | h | h | h <;> exact ⟨_, h, by decide, by decide⟩
  have main : ∀ c : Int, ∃ a s : Int, 0 ≤ s ∧ s < 8589934592 ∧ (kSq (kAs (k2 gMod (k2 gMul (k2 gAdd (k2 gMod (kVar 2) (kD (.int 2147483489))) (kD (.int 1))) (k2 gAdd (kD (.int 48271)) (k2 gMul (kD (.int 2)) (kVar 1)))) (kD (.int 2147483489))) (hName 4)) (kSq (kAs (k2 gAdd (k2 gAdd (k2 gMod (k2 gMul (kVar 4) (kVar 4)) (kD (.int 2147483477))) (kVar 1)) (kD (.int 1))) (hName 4)) (kSq (kIf (kB (k2 gGe (kVar 2) (k2 gPow (kD (.int 10)) (kD (.int 18))))) (kRt (kMk .lst (kCons (kVar 2) (kCons (kVar 4) (kCons (k2 gIx (kFrz 3) (k2 gMod (kVar 1) (kD (.int 8)))) (kNil)))))) (kNx)) (kRt (kMk .lst (kCons (kD (.int 0)) (kCons (kVar 4) (kCons (k2 gIx (kFrz 3) (k2 gMod (kVar 1) (kD (.int 8)))) (kNil)))))))))
      [.v (scriptO ns), .v (.dat (.int k)), .v (.dat (.int c)), .v (.node .lst ([PyData.int 2147483647, PyData.int 2147483629, PyData.int 2147483587, PyData.int 2147483579, PyData.int 2147483563, PyData.int 2147483549, PyData.int 2147483543, PyData.int 2147483497].map .dat)), .no]
      = .rt (.node .lst [.dat (.int a), .dat (.int s), .dat (.int pz)]) [.v (scriptO ns), .v (.dat (.int k)), .v (.dat (.int c)), .v (.dat (.list [PyData.int 2147483647, PyData.int 2147483629, PyData.int 2147483587, PyData.int 2147483579, PyData.int 2147483563, PyData.int 2147483549, PyData.int 2147483543, PyData.int 2147483497])), .v (.dat (.int s))] := fun c => by
    obtain ⟨x, hx⟩ : ∃ x, x = (c % 2147483489 + 1) * (48271 + 2 * k) % 2147483489 := ⟨_, rfl⟩
    have x0 : 0 ≤ x := hx ▸ Int.emod_nonneg _ (by decide)
    have x1 : x < 2147483489 := hx ▸ Int.emod_lt_of_pos _ (by decide)
    have y0 := Int.emod_nonneg (x * x) (show (2147483477 : Int) ≠ 0 by decide)
    have y1 := Int.emod_lt_of_pos (x * x) (show (0 : Int) < 2147483477 by decide)
    have z0 := Int.emod_nonneg c (show (2147483489 : Int) ≠ 0 by decide)
    have z1 := Int.emod_lt_of_pos c (show (0 : Int) < 2147483489 by decide)
    have m1 : -18446744073709551616 < c % 2147483489 + 1 ∧ c % 2147483489 + 1 < 18446744073709551616 := by omega
    have m2 : -18446744073709551616 < x ∧ x < 18446744073709551616 := by omega
    by_cases hc : (1000000000000000000 : Int) ≤ c
    · refine ⟨c, x * x % 2147483477 + k + 1, by omega, by omega, ?_⟩
      simp [m1, ← hx, m2, hc, hp, toDs_map]
    · refine ⟨0, x * x % 2147483477 + k + 1, by omega, by omega, ?_⟩
      simp [m1, ← hx, m2, hc, hp, toDs_map]
  by_cases hk : k < ns.length
  · obtain ⟨c, hc⟩ := atI_ints (ns := ns) h0 hk
    obtain ⟨a, s, s0, s1, e⟩ := main c
    refine ⟨_, ?_, a, s, pz, rfl, s0, s1, p0, p1⟩
    unfold d__law_source g__law_source
    simp [startE, List.replicate, hk, hc] at e ⊢
    simp [e, finF, outsOf]
  · obtain ⟨a, s, s0, s1, e⟩ := main 0
    refine ⟨_, ?_, a, s, pz, rfl, s0, s1, p0, p1⟩
    unfold d__law_source g__law_source
    simp [startE, List.replicate, hk] at e ⊢
    simp [e, finF, outsOf]
/-- a pick whose size is picked of two -/
theorem pick2_ok {o : O} {x y : Int} (h : Src o) (x0 : 0 < x) (x1 : x < 18446744073709551616) (y0 : 0 < y) (y1 : y < 18446744073709551616) : ∃ (i z r : Int) (o1 o2 : O), d__law_pick [o, .dat (.int 2)] = .ok (.dat (.int i)) [o1] ∧ atI [PyData.int x, PyData.int y] i = some (.int z) ∧ d__law_pick [o1, .dat (.int z)] = .ok (.dat (.int r)) [o2] ∧ 0 ≤ r ∧ (r < x ∨ r < y) ∧ Src o2 := by
  obtain ⟨i, o1, e1, i0, i1, s1⟩ := pick_ok h (n := 2) (by decide) (by decide)
  obtain h2 | h2 : i = 0 ∨ i = 1 := by omega
  · obtain ⟨r, o2, e2, r0, r1, s2⟩ := pick_ok s1 x0 x1
    exact ⟨i, x, r, o1, o2, e1, by subst h2; rfl, e2, r0, .inl r1, s2⟩
  · obtain ⟨r, o2, e2, r0, r1, s2⟩ := pick_ok s1 y0 y1
    exact ⟨i, y, r, o1, o2, e1, by subst h2; rfl, e2, r0, .inr r1, s2⟩
/-- six items of a desk's rules -/
abbrev rulD (c l r w h s : Int) : PyData := .tuple [.int c, .int l, .int r, .int w, .int h, .int s]
def Rul (c l r w h s : Int) : Prop := 1 ≤ c ∧ c ≤ 4 ∧ 1 ≤ l ∧ l ≤ 30 ∧ 0 ≤ r ∧ r ≤ 3 ∧ 0 ≤ w ∧ w ≤ 30 ∧ 0 ≤ h ∧ h ≤ 10 ∧ 0 ≤ s ∧ s ≤ 30
theorem rules_ok {o : O} (h : Src o) : ∃ (c l r w h s : Int) (o' : O), d__law_rules [o] = .ok (.dat (rulD c l r w h s)) [o'] ∧ Rul c l r w h s ∧ Src o' := by
  obtain ⟨c, o1, e1, c0, c1, s1⟩ := pick_ok h (n := 4) (by decide) (by decide)
  obtain ⟨i2, z2, l, o2, o3, e2, e3, e4, l0, l1, s3⟩ := pick2_ok s1 (x := 4) (y := 30) (by decide) (by decide) (by decide) (by decide)
  obtain ⟨i3, z3, w, o4, o5, e5, e6, e7, w0, w1, s5⟩ := pick2_ok s3 (x := 4) (y := 31) (by decide) (by decide) (by decide) (by decide)
  obtain ⟨i4, z4, y, o6, o7, e8, e9, e10, y0, y1, s7⟩ := pick2_ok s5 (x := 3) (y := 11) (by decide) (by decide) (by decide) (by decide)
  obtain ⟨i5, z5, t, o8, o9, e11, e12, e13, t0, t1, s9⟩ := pick2_ok s7 (x := 3) (y := 31) (by decide) (by decide) (by decide) (by decide)
  obtain ⟨r, o10, e14, r0, r1, s10⟩ := pick_ok s9 (n := 4) (by decide) (by decide)
  refine ⟨1 + c, 1 + l, r, w, y, t, o10, ?_, ⟨by omega, by omega, by omega, by omega, by omega, by omega, by omega, by omega, by omega, by omega, by omega, by omega⟩, s10⟩
  unfold d__law_rules g__law_rules
  simp [startE, List.replicate, lendIn, takeO, backs, putBack, fz_tup, finF, outsOf, e1, e2, e3, e4, e5, e6, e7, e8, e9, e10, e11, e12, e13, e14]
end DP
end

section
namespace DP
open PySem PySem.Spec PyProof.Rows L2 DP.G
@[simp] theorem isi_int (v : Int) : gIsi "int" (.int v) = some (.dat (.bool true)) := rfl
@[simp] theorem isi_bool (v : Int) : gIsi "bool" (.int v) = some (.dat (.bool false)) := rfl
@[simp] theorem isi_boolb (v : Bool) : gIsi "bool" (.bool v) = some (.dat (.bool true)) := rfl
@[simp] theorem isi_tuple (v : List PyData) : gIsi "tuple" (.tuple v) = some (.dat (.bool true)) := rfl
theorem is_integer_ok (v l h : Int) : d_is_integer [.dat (.int v), .dat (.int l), .dat (.int h)] = .ok (.dat (.bool (decide (l ≤ v) && decide (v ≤ h)))) [] := by
  unfold d_is_integer g_is_integer
  by_cases h1 : l ≤ v <;> simp [startE, finF, outsOf, h1]
@[simp] theorem law_is_integer_ok (v l h : Int) : d__law_is_integer [.dat (.int v), .dat (.int l), .dat (.int h)] = .ok (.dat (.bool (decide (l ≤ v) && decide (v ≤ h)))) [] := by
  unfold d__law_is_integer g__law_is_integer
  by_cases h1 : l ≤ v <;> simp [startE, finF, outsOf, h1]
theorem is_rules_ok {c l r w h s : Int} (R : Rul c l r w h s) : d_is_rules [.dat (rulD c l r w h s)] = .ok (.dat (.bool true)) [] := by
  obtain ⟨c0, c1, l0, l1, r0, r1, w0, w1, h0, h1, s0, s1⟩ := R
  unfold d_is_rules g_is_rules
  simp [startE, List.replicate, c_LOWS, c_HIGHS, zip3D, wipeE, compL, lcEnd, is_integer_ok, lendIn, backs, finF, outsOf, gAll, blsD, c0, c1, l0, l1, r0, r1, w0, w1, h0, h1, s0, s1]
theorem require_rules_ok {c l r w h s : Int} (R : Rul c l r w h s) : d_require_rules [.dat (rulD c l r w h s)] = .ok (.dat .none) [] := by
  unfold d_require_rules g_require_rules
  simp [startE, is_rules_ok R, lendIn, backs, finF, outsOf]
theorem require_number_ok {v l h : Int} (h0 : l ≤ v) (h1 : v ≤ h) : d_require_number [.dat (.int v), .dat (.int l), .dat (.int h)] = .ok (.dat .none) [] := by
  unfold d_require_number g_require_number
  simp [startE, is_integer_ok, lendIn, backs, finF, outsOf, h0, h1]
theorem longest_ok (c l r w h s : Int) (hl : -18446744073709551616 < l ∧ l < 18446744073709551616) : d_longest_loan_of [.dat (rulD c l r w h s)] = .ok (.dat (.int (l * (1 + r)))) [] := by
  unfold d_longest_loan_of g_longest_loan_of
  simp [startE, finF, outsOf, atI, ixN, hl]
/-- the days that one has out of d -/
def mostD (h s d : Int) : Int := d / (h + s) * h + (if h < d % (h + s) then h else d % (h + s))
theorem had_pos {c l r w h s : Int} (R : Rul c l r w h s) : 1 ≤ l * (1 + r) ∧ l * (1 + r) ≤ 120 := by
  obtain ⟨c0, c1, l0, l1, r0, r1, _⟩ := R
  constructor
  · have := Int.mul_le_mul l0 (show 1 ≤ 1 + r by omega) (by decide) (by omega)
    omega
  · have := Int.mul_le_mul l1 (show 1 + r ≤ 4 by omega) (by omega) (by omega)
    omega
theorem most_days_ok {c l r w h s d : Int} (R : Rul c l r w h s) (d0 : 0 ≤ d) (d1 : d ≤ 1000000000000) : d_most_days [.dat (rulD c l r w h s), .dat (.int d)] = .ok (.dat (.int (mostD (l * (1 + r)) s d))) [] := by
  obtain ⟨p0, p1⟩ := had_pos R
  have R0 := R
  obtain ⟨c0, c1, l0, l1, r0, r1, w0, w1, h0, h1, s0, s1⟩ := R
  have hl : -18446744073709551616 < l ∧ l < 18446744073709551616 := by omega
  obtain ⟨z, hz⟩ : ∃ z, z = l * (1 + r) := ⟨_, rfl⟩
  have m1 : -18446744073709551616 < z ∧ z < 18446744073709551616 := by omega
  have m2 : 0 < z + s ∧ z + s < 18446744073709551616 := by omega
  unfold d_most_days g_most_days
  simp [startE, List.replicate, c_MOST_DAYS, require_rules_ok R0, require_number_ok d0 d1, longest_ok _ _ _ _ _ _ hl, lendIn, backs, finF, outsOf, ← hz, atI, ixN, m1, m2, mostD]
end DP
end

section
namespace DP
open PySem PySem.Spec PyProof.Rows L2 DP.G
theorem mostD_of {h s q r : Int} (t0 : 0 < h + s) (r0 : 0 ≤ r) (r1 : r < h + s) : mostD h s (r + (h + s) * q) = q * h + (if h < r then h else r) := by
  obtain ⟨e1, e2⟩ := (Int.ediv_emod_unique (a := r + (h + s) * q) (q := q) (r := r) t0).mpr ⟨rfl, r0, r1⟩
  unfold mostD
  rw [e1, e2]
theorem split_of {t d : Int} (t0 : 0 < t) (d0 : 0 ≤ d) : ∃ q r : Int, d = r + t * q ∧ 0 ≤ r ∧ r < t ∧ 0 ≤ q ∧ d % t = r ∧ d / t = q :=
  ⟨d / t, d % t, (Int.emod_add_mul_ediv d t).symm, Int.emod_nonneg _ (by omega), Int.emod_lt_of_pos _ t0, Int.ediv_nonneg d0 (by omega), rfl, rfl⟩
theorem len_cons {α : Type} {l : List α} {n : Nat} (h : l.length = n + 1) : ∃ a r, l = a :: r ∧ r.length = n := by
  cases l with
  | nil => simp at h
  | cons a r => exact ⟨a, r, rfl, by simpa using h⟩
/-- an env whose first slot holds the script, the others free -/
def Free (ns : List Int) (n : Nat) (env : Env) : Prop := ∃ l : Env, env = .v (scriptO ns) :: l ∧ l.length = n ∧ ∀ s ∈ l, s.w = true
theorem free_start (ns : List Int) (n : Nat) : Free ns n (.v (scriptO ns) :: List.replicate n .no) := ⟨_, rfl, by simp, fun s hs => by rw [List.eq_of_mem_replicate hs]; rfl⟩
/-- a law's outer loop and its end -/
theorem outer_ok {ns : List Int} {m A B : Nat} {body tail : Env → RS} (hl : ns.length ≤ 63) (hA : A ≤ 63) (hs : ∀ k : Int, 0 ≤ k → k < 64 → ∀ env, Free ns m env → ∃ env1, hName 1 (.dat (.int k)) env = some env1 ∧ ∃ env2, body env1 = .nx env2 ∧ Free ns m env2)
    (ht : ∀ env, Free ns m env → ∃ env', tail env = .rt (.dat (.bool true)) env' ∧ Free ns m env') :
    finF [false] ((kSq (kFor (kRng1 (kCons (kn gMax2 (kCons (kD (.int A)) (kCons (kn gMin2 (kCons (kD (.int B)) (kCons (kn gLen (kCons (kVar 0) (kNil))) (kNil)))) (kNil)))) (kNil))) (hName 1) body) tail) (startE [false] [scriptO ns] (m + 1))) = .ok (.dat (.bool true)) [] := by
  obtain ⟨n, hn, hz⟩ : ∃ n : Nat, n ≤ 63 ∧ (if (A : Int) < (if (ns.length : Int) < (B : Int) then (ns.length : Int) else B) then (if (ns.length : Int) < (B : Int) then (ns.length : Int) else B) else A) = (n : Int) := by
    refine ⟨(if (A : Int) < (if (ns.length : Int) < (B : Int) then (ns.length : Int) else B) then (if (ns.length : Int) < (B : Int) then (ns.length : Int) else B) else A).toNat, ?_, ?_⟩ <;> (repeat' split) <;> omega
  obtain ⟨en, x, I⟩ := loopR_inv (hg := hName 1) (body := body) (lo := 0) (n := n) (Free ns m) (fun i hi env I => hs _ (by omega) (by omega) env I) (free_start ns m)
  obtain ⟨en', y, t, rfl, tl, tw⟩ := ht en I
  have hb : -4611686018427387904 ≤ (n : Int) ∧ (n : Int) < 4611686018427387904 := by omega
  have e0 : startE [false] [scriptO ns] (m + 1) = .v (scriptO ns) :: List.replicate m .no := by simp [startE]
  rw [e0]
  simp only [kSq_eq, kFor_eq, kRng1_eq, kCons_eq, kn_eq, kD_eq, kVar_eq, kNil_eq, bind_ok, List.getElem?_cons_zero, toDs_cons, toD_dat, toDs_nil, gLen_d, List.length_map, gMin2_i, gMax2_i, gt_iff_lt, hz, hb, and_self, if_true, st_ok, Int.toNat_natCast, x, sq_nx, y, finF, outsOf]
@[simp] theorem isi_tupleD (v : List PyData) : gIsi "tuple" (.tuple v) = some (.dat (.bool true)) := (rfl)
/-- the gcd loop of share -/
theorem gcd_loop (x0 x1 x2 : Sl) : ∀ (b a fuel : Nat), b < fuel → loopW (kB (k2 gGt (kVar 4) (kD (.int 0)))) l_share_0 fuel [x0, x1, x2, .v (.dat (.int a)), .v (.dat (.int b))] = .nx [x0, x1, x2, .v (.dat (.int (Nat.gcd a b : Nat))), .v (.dat (.int 0))] := by
  intro b
  induction b using Nat.strongRecOn with
  | ind b ih =>
    intro a fuel hf
    obtain ⟨f, rfl⟩ : ∃ f, fuel = f + 1 := ⟨fuel - 1, by omega⟩
    by_cases hb : b = 0
    · subst hb
      simp [loopW]
    · have hb0 : 0 < b := by omega
      have lt : a % b < b := Nat.mod_lt _ hb0
      have r := ih (a % b) lt b f (by omega)
      have g : Nat.gcd b (a % b) = Nat.gcd a b := by rw [Nat.gcd_comm a b, Nat.gcd_rec b a, Nat.gcd_comm]
      rw [g] at r
      rw [show ((a % b : Nat) : Int) = (a : Int) % (b : Int) by simp] at r
      have hbody : l_share_0 [x0, x1, x2, .v (.dat (.int a)), .v (.dat (.int b))] = .nx [x0, x1, x2, .v (.dat (.int b)), .v (.dat (.int ((a : Int) % (b : Int))))] := by
        simp [l_share_0, hb0]
      unfold loopW
      simp [hb0, hbody, r]
theorem share_ok {c l r w h s : Int} (R : Rul c l r w h s) : ∃ p q g : Int, d_share [.dat (rulD c l r w h s)] = .ok (.dat (.tuple [.int p, .int q])) [] ∧ 0 < p ∧ p ≤ q ∧ q ≤ 150 ∧ 0 < g ∧ p * g = l * (1 + r) ∧ q * g = l * (1 + r) + s ∧ (∀ d : Int, 2 ≤ d → ¬ (p % d = 0 ∧ q % d = 0)) ∧ g = (Nat.gcd (l * (1 + r)).toNat (l * (1 + r) + s).toNat : Nat) := by
  obtain ⟨p0, p1⟩ := had_pos R
  have R0 := R
  obtain ⟨_, _, l0, l1, _, _, _, _, _, _, s0, s1⟩ := R
  have hl : -18446744073709551616 < l ∧ l < 18446744073709551616 := by omega
  obtain ⟨z, hz⟩ : ∃ z, z = l * (1 + r) := ⟨_, rfl⟩
  obtain ⟨H, hH⟩ : ∃ H : Nat, z = (H : Int) := ⟨z.toNat, by omega⟩
  obtain ⟨T, hT⟩ : ∃ T : Nat, z + s = (T : Int) := ⟨(z + s).toNat, by omega⟩
  have gp : 0 < Nat.gcd H T := Nat.gcd_pos_of_pos_left _ (by omega)
  have gle : Nat.gcd H T ≤ H := Nat.le_of_dvd (by omega) (Nat.gcd_dvd_left H T)
  have L := gcd_loop (.v (.dat (rulD c l r w h s))) (.v (.dat (.int z))) (.v (.dat (.int (z + s)))) T H 100000 (by omega)
  rw [← hH, ← hT] at L
  have cop := Nat.coprime_div_gcd_div_gcd gp
  have e1 := Nat.div_mul_cancel (Nat.gcd_dvd_left H T)
  have e2 := Nat.div_mul_cancel (Nat.gcd_dvd_right H T)
  generalize hg : Nat.gcd H T = g at *
  generalize hp : H / g = p at *
  generalize hq : T / g = q at *
  have hpz : z / (g : Int) = (p : Int) := by rw [hH, ← hp]; simp
  have hqz : (z + s) / (g : Int) = (q : Int) := by rw [hT, ← hq]; simp
  have gb : 0 < (g : Int) ∧ (g : Int) < 18446744073709551616 := by omega
  have gn : g < 18446744073709551616 := by omega
  refine ⟨p, q, g, ?_, ?_, ?_, ?_, by omega, ?_, ?_, ?_, ?_⟩
  · unfold d_share g_share
    simp [startE, List.replicate, require_rules_ok R0, longest_ok _ _ _ _ _ _ hl, lendIn, backs, ← hz, atI, ixN, L, gb, gp, gn, hpz, hqz, fz_tup, finF, outsOf]
  · have : p ≠ 0 := fun e => by rw [e] at e1; omega
    omega
  · rw [← hp, ← hq]
    have := Nat.div_le_div_right (c := g) (show H ≤ T by omega)
    omega
  · have := Nat.div_le_self T g
    omega
  · rw [← hz, hH, ← e1]; simp
  · rw [← hz, hT, ← e2]; simp
  · intro d d2 ⟨m1, m2⟩
    obtain ⟨D, hD⟩ : ∃ D : Nat, d = (D : Int) := ⟨d.toNat, by omega⟩
    subst hD
    have a1 : D ∣ p := Nat.dvd_of_mod_eq_zero (by omega)
    have a2 : D ∣ q := Nat.dvd_of_mod_eq_zero (by omega)
    have a3 := Nat.dvd_gcd a1 a2
    rw [cop] at a3
    have := Nat.le_of_dvd (by decide) a3
    omega
  · rw [← hz, hT, hH, Int.toNat_natCast, Int.toNat_natCast, hg]
/-- the fewest friends -/
theorem friends_ok {c l r w h s : Int} (R : Rul c l r w h s) : d_fewest_friends [.dat (rulD c l r w h s)] = .ok (.dat (.int (c + (c * s + l * (1 + r) - 1) / (l * (1 + r))))) [] := by
  obtain ⟨p0, p1⟩ := had_pos R
  have R0 := R
  obtain ⟨c0, c1, l0, l1, _, _, _, _, _, _, s0, s1⟩ := R
  have hl : -18446744073709551616 < l ∧ l < 18446744073709551616 := by omega
  have hc : -18446744073709551616 < c ∧ c < 18446744073709551616 := by omega
  have hz : 0 < l * (1 + r) ∧ l * (1 + r) < 18446744073709551616 := by omega
  have e1 : d_whole_loan [.dat (rulD c l r w h s)] = .ok (.dat (.int (l * (1 + r)))) [] := by
    unfold d_whole_loan g_whole_loan
    simp [startE, finF, outsOf, atI, ixN, hl]
  have e2 : d_rounded_up [.dat (.int (c * s)), .dat (.int (l * (1 + r)))] = .ok (.dat (.int ((c * s + l * (1 + r) - 1) / (l * (1 + r))))) [] := by
    unfold d_rounded_up g_rounded_up
    generalize l * (1 + r) = z at *
    simp [startE, finF, outsOf, hz]
  have e3 : d_fewest_of [.dat (rulD c l r w h s)] = .ok (.dat (.int (c + (c * s + l * (1 + r) - 1) / (l * (1 + r))))) [] := by
    unfold d_fewest_of g_fewest_of
    simp [startE, finF, outsOf, atI, ixN, hc, e1, e2, lendIn, backs]
  unfold d_fewest_friends g_fewest_friends
  simp [startE, finF, outsOf, require_rules_ok R0, e3, lendIn, backs]
theorem share_mul {p q g H T : Int} (e1 : p * g = H) (e2 : q * g = T) : p * T = q * H := by
  subst e1; subst e2; grind
/-- n = T * a + e -/
theorem share_mid {p q g H s n : Int} (e1 : p * g = H) (e2 : q * g = H + s) (p0 : 0 < p) (pq : p ≤ q) (g0 : 0 < g) (n0 : 0 ≤ n) : n * p ≤ mostD H s n * q ∧ mostD H s n * q - n * p ≤ H * q := by
  have H0 : 0 < H := e1 ▸ Int.mul_pos p0 g0
  have T0 : 0 < H + s := e2 ▸ Int.mul_pos (by omega) g0
  have s0 : 0 ≤ s := by
    have := Int.mul_le_mul_of_nonneg_right pq (by omega : 0 ≤ g)
    omega
  obtain ⟨a, e, h1, h2, h3, _, _, _⟩ := split_of (t := H + s) (d := n) T0 n0
  have sm := share_mul e1 e2
  rw [h1, mostD_of T0 h2 h3]
  have k1 : (a * H + (if H < e then H else e)) * q - (e + (H + s) * a) * p = (if H < e then H else e) * q - e * p := by
    have : a * (p * (H + s)) = a * (q * H) := by rw [sm]
    grind
  have k2 : e * p ≤ (if H < e then H else e) * q ∧ (if H < e then H else e) * q - e * p ≤ H * q := by
    have ep : 0 ≤ e * p := Int.mul_nonneg h2 (by omega)
    split
    · refine ⟨?_, by omega⟩
      have : e * p ≤ (H + s) * p := Int.mul_le_mul_of_nonneg_right (by omega) (by omega)
      have : (H + s) * p = H * q := by grind
      omega
    · refine ⟨Int.mul_le_mul_of_nonneg_left pq h2, ?_⟩
      have : e * q ≤ H * q := Int.mul_le_mul_of_nonneg_right (by omega) (by omega)
      omega
  omega
theorem ceil_of {t b : Int} (b0 : 0 < b) : t ≤ (t + b - 1) / b * b ∧ ((t + b - 1) / b - 1) * b < t := by
  have h1 := Int.emod_add_mul_ediv (t + b - 1) b
  have h2 := Int.emod_nonneg (t + b - 1) (show b ≠ 0 by omega)
  have h3 := Int.emod_lt_of_pos (t + b - 1) b0
  generalize (t + b - 1) / b = u at *
  have h4 : (u - 1) * b = b * u - b := by grind
  have h5 : u * b = b * u := Int.mul_comm _ _
  omega
theorem share_friends {p q g H s c u : Int} (e1 : p * g = H) (e2 : q * g = H + s) (g0 : 0 < g) (h1 : c * s ≤ u * H) (h2 : (u - 1) * H < c * s) : c * q ≤ (c + u) * p ∧ (c + u - 1) * p < c * q := by
  constructor
  · refine Int.le_of_mul_le_mul_right (a := g) ?_ g0
    have k1 : c * q * g = c * H + c * s := by grind
    have k2 : (c + u) * p * g = c * H + u * H := by grind
    omega
  · refine Int.lt_of_mul_lt_mul_right (a := g) ?_ (by omega)
    have k1 : c * q * g = c * H + c * s := by grind
    have k2 : (c + u - 1) * p * g = c * H + (u - 1) * H := by grind
    omega
end DP
end

section
namespace DP
open PySem PySem.Spec PyProof.Rows L2 DP.G
@[simp] theorem at6_0 {α : Type} (a b c d e f : α) : atI [a, b, c, d, e, f] 0 = some a := rfl
@[simp] theorem at6_1 {α : Type} (a b c d e f : α) : atI [a, b, c, d, e, f] 1 = some b := rfl
@[simp] theorem at6_2 {α : Type} (a b c d e f : α) : atI [a, b, c, d, e, f] 2 = some c := rfl
@[simp] theorem at6_3 {α : Type} (a b c d e f : α) : atI [a, b, c, d, e, f] 3 = some d := rfl
@[simp] theorem at6_4 {α : Type} (a b c d e f : α) : atI [a, b, c, d, e, f] 4 = some e := rfl
@[simp] theorem at6_5 {α : Type} (a b c d e f : α) : atI [a, b, c, d, e, f] 5 = some f := rfl
@[simp] theorem at2_0 {α : Type} (a b : α) : atI [a, b] 0 = some a := rfl
@[simp] theorem at2_1 {α : Type} (a b : α) : atI [a, b] 1 = some b := rfl
/-- a comprehension that keeps a word I -/
theorem compL_inv {own : List Nat} {hg : GF} {t : Env → RE Bool} {f : EF} (I : Env → Prop) (P : PyData → Bool) (g : PyData → O) : ∀ {ds : List PyData} {env : Env} {acc : List O}, (∀ d ∈ ds, ∀ env, I env → ∃ e1 e2, hg (.dat d) env = some e1 ∧ t e1 = .ok (P d) e2 ∧
      (P d = true → ∃ e3 e4, f e2 = .ok (g d) e3 ∧ wipeE own e3 = some e4 ∧ I e4) ∧ (P d = false → ∃ e4, wipeE own e2 = some e4 ∧ I e4)) → acc.length + ds.length < 1000000 → I env →
    ∃ e', compL own hg t f ds env acc = .ok (acc ++ (ds.filter P).map g) e' ∧ I e'
  | [], env, acc, _, _, i => ⟨env, by simp [compL], i⟩
  | d :: ds, env, acc, h, hl, i => by
    obtain ⟨e1, e2, h1, h2, h3, h4⟩ := h d List.mem_cons_self env i
    simp only [List.length_cons] at hl
    cases hp : P d with
    | true =>
      obtain ⟨e3, e4, h5, h6, i4⟩ := h3 hp
      obtain ⟨e', r, i'⟩ := compL_inv I P g (ds := ds) (env := e4) (acc := acc ++ [g d]) (fun d' m => h d' (List.mem_cons_of_mem _ m)) (by simp; omega) i4
      refine ⟨e', ?_, i'⟩
      rw [hp] at h2
      simp only [compL, h1, h2, h5, h6]
      rw [if_pos (by omega), r, List.filter_cons_of_pos hp]
      simp
    | false =>
      obtain ⟨e4, h6, i4⟩ := h4 hp
      obtain ⟨e', r, i'⟩ := compL_inv I P g (ds := ds) (env := e4) (acc := acc) (fun d' m => h d' (List.mem_cons_of_mem _ m)) (by omega) i4
      refine ⟨e', ?_, i'⟩
      rw [hp] at h2
      simp only [compL, h1, h2, h6]
      rw [r, List.filter_cons_of_neg (by rw [hp]; decide)]
theorem last_pairs {ks : List (List Int)} (h0 : ks ≠ []) (h2 : ∀ n ∈ ks, ∃ a b, n = [a, b]) : ∃ a b, atI ((isortI ks).map rowD) (-1) = some (.tuple [.int a, .int b]) ∧ [a, b] ∈ ks ∧ ∀ a' b', [a', b'] ∈ ks → a' ≤ a := by
  have hne : isortI ks ≠ [] := fun e => h0 (by have := (isortI_perm ks).length_eq; rw [e] at this; exact List.eq_nil_of_length_eq_zero this.symm)
  obtain ⟨l, m, e⟩ : ∃ l m, isortI ks = l ++ [m] := ⟨_, _, (List.dropLast_concat_getLast hne).symm⟩
  have mm : m ∈ ks := (isortI_perm ks).mem_iff.mp (by rw [e]; simp)
  obtain ⟨a, b, rfl⟩ := h2 m mm
  refine ⟨a, b, ?_, mm, fun a' b' h => ?_⟩
  · rw [e, List.map_append]
    exact atI_last _ _
  · have hs := isortI_srt ks
    have h' := (isortI_perm ks).mem_iff.mpr h
    rw [e] at hs h'
    rcases List.mem_append.mp h' with h' | h'
    · have z := (List.pairwise_append.mp hs).2.2 _ h' _ (List.mem_singleton.mpr rfl)
      rw [lexI] at z
      split at z
      · omega
      · have := of_decide_eq_false z
        omega
    · cases List.mem_singleton.mp h'
      omega
/-- how long one can keep a copy -/
def bestD (l r w : Int) : Int := if l * (1 + r) ≤ l + w then l * (1 + r) else l + w
theorem renewal_days_ok {c l r w h s : Int} (l0 : 1 ≤ l) (l1 : l ≤ 30) (r0 : 0 ≤ r) (r1 : r ≤ 3) : d_renewal_days [.dat (rulD c l r w h s)] = .ok (.node .lst (((List.range r.toNat).map fun i : Nat => PyData.int (if l * (1 + (i : Int)) - w > 0 then l * (1 + (i : Int)) - w else 0)).map .dat)) [] := by
  have ml : -18446744073709551616 < l ∧ l < 18446744073709551616 := by omega
  obtain rfl | rfl | rfl | rfl : r = 0 ∨ r = 1 ∨ r = 2 ∨ r = 3 := by omega
  all_goals
    unfold d_renewal_days g_renewal_days
    simp [startE, List.replicate, rngD, compL, wipeE, lcEnd, finF, outsOf, ml, List.range_succ]
@[simp] theorem gNeg_i (i : Int) : gNeg (.int i) = some (.dat (.int (-i))) := (rfl)
@[simp] theorem toDs_mapc {α : Type} (f : α → PyData) (l : List α) : O.toDs (l.map (O.dat ∘ f)) = some (l.map f) := by
  rw [← List.map_map]
  exact toDs_map _
theorem best_ok {c l r w h s : Int} (l0 : 1 ≤ l) (l1 : l ≤ 30) (r0 : 0 ≤ r) (r1 : r ≤ 3) (w0 : 0 ≤ w) : ∃ b : Int, d_best_renewals [.dat (rulD c l r w h s)] = .ok (.dat (.tuple [.int (bestD l r w), .int b])) [] := by
  have ml : -18446744073709551616 < l ∧ l < 18446744073709551616 := by omega
  have e1 := renewal_days_ok (c := c) (w := w) (h := h) (s := s) l0 l1 r0 r1
  have fin : ∀ (ks : List (List Int)) (a b : Int), [a, b] ∈ ks → (∀ a' b', [a', b'] ∈ ks → a' ≤ a) → ∀ B, [B, 0] ∈ ks ∨ [B, -1] ∈ ks ∨ [B, -2] ∈ ks ∨ [B, -3] ∈ ks → (∀ a' b', [a', b'] ∈ ks → a' ≤ B) → B = a := fun ks a b h1 h2 B h3 h4 => by
    have z1 := h4 a b h1
    rcases h3 with h3 | h3 | h3 | h3 <;> (have z2 := h2 _ _ h3; omega)
  obtain rfl | rfl | rfl | rfl : r = 0 ∨ r = 1 ∨ r = 2 ∨ r = 3 := by omega
  · obtain ⟨a, b, h1, h2, h3⟩ := last_pairs (ks := [[l, 0]]) (by simp) (by simp)
    refine ⟨-b, ?_⟩
    have ea : bestD l 0 w = a := by
      have z := h3 l 0 (by simp)
      simp at h2
      unfold bestD
      split <;> omega
    rw [ea]
    unfold d_best_renewals g_best_renewals l_best_renewals_0
    simp [startE, List.replicate, e1, loopS, enumD, lendIn, backs, fz_tup, finF, outsOf, ml, gSortA, rowsI, intsD] at h1 ⊢
    simp [h1, fz_tup, finF, outsOf]
  · simp only [show (1 : Int).toNat = 1 from rfl, show List.range 1 = [0] from rfl, List.map_cons, List.map_nil] at e1
    obtain ⟨d1, hd1⟩ : ∃ d1, d1 = (if l * (1 + ((0 : Nat) : Int)) - w > 0 then l * (1 + ((0 : Nat) : Int)) - w else 0) := ⟨_, rfl⟩
    rw [← hd1] at e1
    obtain ⟨a, b, h1, h2, h3⟩ := last_pairs (ks := [[l, 0], [l * 2 - d1, -1]]) (by simp) (by simp)
    refine ⟨-b, ?_⟩
    have ea : bestD l 1 w = a := by
      have z := h3 l 0 (by simp)
      have z1 := h3 (l * 2 - d1) (-1) (by simp)
      simp at h2
      unfold bestD
      split at hd1 <;> split <;> omega
    rw [ea]
    unfold d_best_renewals g_best_renewals l_best_renewals_0
    simp [startE, List.replicate, e1, loopS, enumD, lendIn, backs, fz_tup, finF, outsOf, ml, gSortA, rowsI, intsD, getP, slotO, O.get, putP, setO, O.put] at h1 ⊢
    simp [h1, fz_tup, finF, outsOf]
  · simp only [show (2 : Int).toNat = 2 from rfl, show List.range 2 = [0, 1] from rfl, List.map_cons, List.map_nil] at e1
    obtain ⟨d1, hd1⟩ : ∃ d1, d1 = (if l * (1 + ((0 : Nat) : Int)) - w > 0 then l * (1 + ((0 : Nat) : Int)) - w else 0) := ⟨_, rfl⟩
    obtain ⟨d2, hd2⟩ : ∃ d2, d2 = (if l * (1 + ((1 : Nat) : Int)) - w > 0 then l * (1 + ((1 : Nat) : Int)) - w else 0) := ⟨_, rfl⟩
    rw [← hd1, ← hd2] at e1
    obtain ⟨a, b, h1, h2, h3⟩ := last_pairs (ks := [[l, 0], [l * 2 - d1, -1], [l * 3 - d2, -2]]) (by simp) (by simp)
    refine ⟨-b, ?_⟩
    have ea : bestD l 2 w = a := by
      have z := h3 l 0 (by simp)
      have z1 := h3 (l * 2 - d1) (-1) (by simp)
      have z2 := h3 (l * 3 - d2) (-2) (by simp)
      simp at h2
      unfold bestD
      split at hd1 <;> split at hd2 <;> split <;> omega
    rw [ea]
    unfold d_best_renewals g_best_renewals l_best_renewals_0
    simp [startE, List.replicate, e1, loopS, enumD, lendIn, backs, fz_tup, finF, outsOf, ml, gSortA, rowsI, intsD, getP, slotO, O.get, putP, setO, O.put] at h1 ⊢
    simp [h1, fz_tup, finF, outsOf]
  · simp only [show (3 : Int).toNat = 3 from rfl, show List.range 3 = [0, 1, 2] from rfl, List.map_cons, List.map_nil] at e1
    obtain ⟨d1, hd1⟩ : ∃ d1, d1 = (if l * (1 + ((0 : Nat) : Int)) - w > 0 then l * (1 + ((0 : Nat) : Int)) - w else 0) := ⟨_, rfl⟩
    obtain ⟨d2, hd2⟩ : ∃ d2, d2 = (if l * (1 + ((1 : Nat) : Int)) - w > 0 then l * (1 + ((1 : Nat) : Int)) - w else 0) := ⟨_, rfl⟩
    obtain ⟨d3, hd3⟩ : ∃ d3, d3 = (if l * (1 + ((2 : Nat) : Int)) - w > 0 then l * (1 + ((2 : Nat) : Int)) - w else 0) := ⟨_, rfl⟩
    rw [← hd1, ← hd2, ← hd3] at e1
    obtain ⟨a, b, h1, h2, h3⟩ := last_pairs (ks := [[l, 0], [l * 2 - d1, -1], [l * 3 - d2, -2], [l * 4 - d3, -3]]) (by simp) (by simp)
    refine ⟨-b, ?_⟩
    have ea : bestD l 3 w = a := by
      have z := h3 l 0 (by simp)
      have z1 := h3 (l * 2 - d1) (-1) (by simp)
      have z2 := h3 (l * 3 - d2) (-2) (by simp)
      have z3 := h3 (l * 4 - d3) (-3) (by simp)
      simp at h2
      unfold bestD
      split at hd1 <;> split at hd2 <;> split at hd3 <;> split <;> omega
    rw [ea]
    unfold d_best_renewals g_best_renewals l_best_renewals_0
    simp [startE, List.replicate, e1, loopS, enumD, lendIn, backs, fz_tup, finF, outsOf, ml, gSortA, rowsI, intsD, getP, slotO, O.get, putP, setO, O.put] at h1 ⊢
    simp [h1, fz_tup, finF, outsOf]
end DP
end

section
namespace DP
open PySem PySem.Spec PyProof.Rows L2 DP.G
/-- the longest wait of a place -/
def longD (c l r w h p : Int) : Int := (if h + l > bestD l r w then h + l else bestD l r w) + (h + l) * ((p + c - 1) / c - 1)
theorem longest_of_ok {c l r w h s p : Int} (c0 : 1 ≤ c) (c1 : c ≤ 1000) (l0 : 1 ≤ l) (l1 : l ≤ 30) (r0 : 0 ≤ r) (r1 : r ≤ 3) (w0 : 0 ≤ w) (h0 : 0 ≤ h) (h1 : h ≤ 10) : d_longest_of [.dat (rulD c l r w h s), .dat (.int p)] = .ok (.dat (.int (longD c l r w h p))) [] := by
  obtain ⟨b, e1⟩ := best_ok (c := c) (h := h) (s := s) l0 l1 r0 r1 w0
  have mt : -18446744073709551616 < h + l ∧ h + l < 18446744073709551616 := by omega
  have mc : 0 < c ∧ c < 18446744073709551616 := by omega
  have e2 : d_turn_of [.dat (rulD c l r w h s)] = .ok (.dat (.int (h + l))) [] := by
    unfold d_turn_of g_turn_of
    simp [startE, finF, outsOf]
  have e3 : d_rounded_up [.dat (.int p), .dat (.int c)] = .ok (.dat (.int ((p + c - 1) / c))) [] := by
    unfold d_rounded_up g_rounded_up
    simp [startE, finF, outsOf, mc]
  unfold d_longest_of g_longest_of longD
  simp [startE, List.replicate, e1, e2, e3, lendIn, backs, finF, outsOf, mt]
theorem longest_wait_ok {c l r w h s p : Int} (R : Rul c l r w h s) (p0 : 1 ≤ p) (p1 : p ≤ 20) : d_longest_wait [.dat (rulD c l r w h s), .dat (.int p)] = .ok (.dat (.int (longD c l r w h p))) [] := by
  have R0 := R
  obtain ⟨c0, c1, l0, l1, r0, r1, w0, w1, h0, h1, s0, s1⟩ := R
  unfold d_longest_wait g_longest_wait
  simp [startE, c_MAX_PLACE, require_rules_ok R0, require_number_ok p0 p1, longest_of_ok (s := s) (p := p) c0 (by omega) l0 l1 r0 r1 w0 h0 h1, lendIn, backs, finF, outsOf]
theorem cut1 (a b c d e f : PyData) : cutD [a, b, c, d, e, f] (some 1) none = [b, c, d, e, f] := rfl
theorem cut2 (a b c d e f : PyData) : cutD [a, b, c, d, e, f] (some 2) none = [c, d, e, f] := rfl
@[simp] theorem gAdd_t (xs ys : List PyData) : gAdd (.tuple xs) (.tuple ys) = (if xs.length + ys.length ≤ 1000000 then some (.dat (.tuple (xs ++ ys))) else none) := (rfl)
@[simp] theorem kPart_eq (f : EF) (env : Env) : kPart f env = ((f env).bind fun o e => match o with
  | .dat (.int i) => .ok (some i) e
  | _ => .no) := (rfl)
@[simp] theorem kNoPart_eq (env : Env) : kNoPart env = .ok none env := (rfl)
@[simp] theorem kSl_eq (f : EF) (l h : Env → RE (Option Int)) (env : Env) : kSl f l h env = ((f env).bind fun o e1 => (l e1).bind fun lo e2 => (h e2).bind fun hi e3 => match o.toD with
  | some (.list ds) => .ok (.node .lst ((cutD ds lo hi).map .dat)) e3
  | some (.tuple ds) => .ok (.dat (.tuple (cutD ds lo hi))) e3
  | _ => .no) := (rfl)
theorem lay_ints : ∀ ns : List Int, PyData.canLayAll0 (ns.map .int) = true ∧ PyData.depthAll (ns.map .int) = 0
  | [] => ⟨rfl, rfl⟩
  | n :: ns => by
    obtain ⟨h1, h2⟩ := lay_ints ns
    exact ⟨by rw [List.map_cons, PyData.canLayAll0, h1]; rfl, by rw [List.map_cons, PyData.depthAll, h2]; rfl⟩
theorem shaped_ints (ns : List Int) : SeqAt.shaped (.list (ns.map .int)) = true := by
  obtain ⟨h1, h2⟩ := lay_ints ns
  unfold SeqAt.shaped
  rw [PyData.canLay0, h1, PyData.depth, h2]
  rfl
theorem ne_nil (ns : List Int) : gNe (.list (ns.map .int)) (.list []) = some (.dat (.bool (decide (ns ≠ [])))) := by
  unfold gNe
  rw [if_pos ⟨shaped_ints ns, rfl⟩]
  cases ns with
  | nil => rfl
  | cons x ns => simp [PyData.eqv, PyData.eqvAll]
def ofI (P : Int → Bool) : PyData → Bool
  | .int i => P i
  | _ => false
/-- the first of a range that does -/
theorem filter_first {lo : Int} {n : Nat} {P : Int → Bool} : ((rngD lo n).filter (ofI P)) = (((List.range n).map fun i : Nat => lo + (i : Int)).filter P).map .int := by
  unfold rngD
  induction n with
  | zero => rfl
  | succ n ih =>
    rw [List.range_succ]
    simp only [List.map_append, List.filter_append, ih, List.map_cons, List.map_nil]
    by_cases h : P (lo + (n : Int)) = true
    · simp [h, ofI]
    · simp [h, ofI]
/-- sorted range filters -/
def FirstOf (ns : List Int) (lo n : Int) (P : Int → Bool) : Prop := (ns = [] ∧ ∀ i, lo ≤ i → i < lo + n → P i = false) ∨ ∃ f z, ns ≠ [] ∧ atI (ns.map PyData.int) 0 = some (.int f) ∧ atI (ns.map PyData.int) (-1) = some (.int z) ∧ lo ≤ f ∧ f < lo + n ∧ P f = true ∧ (∀ i, lo ≤ i → i < f → P i = false) ∧ lo ≤ z ∧ z < lo + n ∧ P z = true ∧ ∀ i, z < i → i < lo + n → P i = false
theorem first_of (lo : Int) (P : Int → Bool) : ∀ n : Nat, FirstOf (((List.range n).map fun i : Nat => lo + (i : Int)).filter P) lo n P := by
  intro n
  induction n with
  | zero => exact .inl ⟨rfl, fun i h1 h2 => by omega⟩
  | succ n ih =>
    rw [List.range_succ, List.map_append, List.filter_append]
    simp only [List.map_cons, List.map_nil]
    generalize ((List.range n).map fun i : Nat => lo + (i : Int)).filter P = l at ih
    by_cases hp : P (lo + (n : Int)) = true
    · have e : ([lo + (n : Int)]).filter P = [lo + (n : Int)] := by simp [hp]
      rw [e]
      have lastq : atI ((l ++ [lo + (n : Int)]).map PyData.int) (-1) = some (.int (lo + n)) := by
        rw [List.map_append]
        exact atI_last _ _
      rcases ih with ⟨rfl, h⟩ | ⟨f, z, h1, h2, h3, h4, h5, h6, h7, h8, h9, h10, h11⟩
      · exact .inr ⟨lo + n, lo + n, by simp, rfl, lastq, by omega, by omega, hp, fun i a b => h i a b, by omega, by omega, hp, fun i a b => by omega⟩
      · refine .inr ⟨f, lo + n, by simp, ?_, lastq, h4, by omega, h6, h7, by omega, by omega, hp, fun i a b => by omega⟩
        cases l with
        | nil => exact absurd rfl h1
        | cons x l =>
          have : atI ((x :: l).map PyData.int) 0 = some (.int x) := atI_nat (j := 0) rfl
          rw [this] at h2
          rw [← h2]
          exact atI_nat (j := 0) rfl
    · have e : ([lo + (n : Int)]).filter P = [] := by simp [hp]
      rw [e, List.append_nil]
      have hq : P (lo + (n : Int)) = false := by simpa using hp
      have more : ∀ {i : Int}, i < lo + ((n + 1 : Nat) : Int) → i < lo + n ∨ i = lo + n := fun h => by omega
      rcases ih with ⟨rfl, h⟩ | ⟨f, z, h1, h2, h3, h4, h5, h6, h7, h8, h9, h10, h11⟩
      · refine .inl ⟨rfl, fun i a b => ?_⟩
        rcases more b with b | b
        · exact h i a b
        · rw [b]; exact hq
      · refine .inr ⟨f, z, h1, h2, h3, h4, by omega, h6, h7, h8, by omega, h10, fun i a b => ?_⟩
        rcases more b with b | b
        · exact h11 i a b
        · rw [b]; exact hq
theorem fewest_ok {c l r w h s p d : Int} (R : Rul c l r w h s) (p0 : 1 ≤ p) (p1 : p ≤ 20) (d0 : 0 ≤ d) (d1 : d ≤ 1000) :
    (d_fewest_copies [.dat (rulD c l r w h s), .dat (.int p), .dat (.int d)] = .ok (.dat .none) [] ∧ ∀ i, 1 ≤ i → i ≤ p → d < longD i l r w h p) ∨ ∃ f, d_fewest_copies [.dat (rulD c l r w h s), .dat (.int p), .dat (.int d)] = .ok (.dat (.int f)) [] ∧ 1 ≤ f ∧ f ≤ p ∧ longD f l r w h p ≤ d ∧ ∀ i, 1 ≤ i → i < f → d < longD i l r w h p := by
  have R0 := R
  obtain ⟨c0, c1, l0, l1, r0, r1, w0, w1, h0, h1, s0, s1⟩ := R
  obtain ⟨e, x, rfl⟩ := compL_inv (own := [4]) (hg := hName 4) (t := (kB (k2 gLe (kCall [false, false] [none, none] d_longest_of (kCons (k2 gAdd (kMk .tup (kCons (kVar 4) (kNil))) (kSl (kVar 0) (kPart (kD (.int 1))) kNoPart)) (kCons (kVar 1) (kNil)))) (kVar 2)))) (f := kVar 4) (ds := rngD 1 p.toNat) (acc := []) (fun env => env = [.v (.dat (rulD c l r w h s)), .v (.dat (.int p)), .v (.dat (.int d)), .no, .no])
    (ofI fun i => decide (longD i l r w h p ≤ d)) .dat (fun d' hd env ie => by
      subst ie
      obtain ⟨i, hi, rfl⟩ := rngD_mem hd
      have lo := longest_of_ok (c := 1 + (i : Int)) (s := s) (p := p) (by omega) (by omega) l0 l1 r0 r1 w0 h0 h1
      refine ⟨_, [.v (.dat (rulD c l r w h s)), .v (.dat (.int p)), .v (.dat (.int d)), .no, .v (.dat (.int (1 + (i : Int))))], by simp; rfl, ?_, fun _ => ⟨_, _, rfl, rfl, rfl⟩, fun _ => ⟨_, rfl, rfl⟩⟩
      simp [fz_tup, cut1, lo, lendIn, backs, ofI]) (by simp [rngD]; omega) rfl
  rw [List.nil_append, filter_first] at x
  have fo := first_of 1 (fun i => decide (longD i l r w h p ≤ d)) p.toNat
  generalize ((List.range p.toNat).map fun i : Nat => 1 + (i : Int)).filter (fun i => decide (longD i l r w h p ≤ d)) = ns at x fo
  have hb : -4611686018427387904 ≤ p + 1 ∧ p + 1 < 4611686018427387904 := by omega
  have pn : p + 1 - 1 = p := by omega
  have nn := ne_nil ns
  rcases fo with ⟨rfl, h⟩ | ⟨f, z, h1, h2, h3, h4, h5, h6, h7, h8⟩
  · refine .inl ⟨?_, fun i a b => by have := h i a (by omega); simpa using this⟩
    unfold d_fewest_copies g_fewest_copies
    simp [startE, List.replicate, c_MAX_PLACE, c_MAX_DAYS, require_rules_ok R0, require_number_ok p0 p1, require_number_ok d0 d1, lendIn, backs, hb, pn, wipeE, x, lcEnd, finF, outsOf] at nn ⊢
    simp [nn, finF, outsOf]
  · refine .inr ⟨f, ?_, h4, by omega, by simpa using h6, fun i a b => by have := h7 i a b; simpa using this⟩
    have nn' : (decide (ns ≠ [])) = true := by simpa using h1
    rw [nn'] at nn
    unfold d_fewest_copies g_fewest_copies
    simp [startE, List.replicate, c_MAX_PLACE, c_MAX_DAYS, require_rules_ok R0, require_number_ok p0 p1, require_number_ok d0 d1, lendIn, backs, hb, pn, wipeE, x, lcEnd, finF, outsOf, toDs_map]
    simp [toDs_map, nn, h2, finF, outsOf]
end DP
end

section
namespace DP
open PySem PySem.Spec PyProof.Rows L2 DP.G
theorem loan_ok {c l r w h s p d : Int} (R : Rul c l r w h s) (p0 : 1 ≤ p) (p1 : p ≤ 20) (d0 : 0 ≤ d) (d1 : d ≤ 1000) :
    (d_longest_loan [.dat (rulD c l r w h s), .dat (.int p), .dat (.int d)] = .ok (.dat .none) [] ∧ ∀ i, 1 ≤ i → i ≤ 30 → d < longD c i r w h p) ∨ ∃ f, d_longest_loan [.dat (rulD c l r w h s), .dat (.int p), .dat (.int d)] = .ok (.dat (.int f)) [] ∧ 1 ≤ f ∧ f ≤ 30 ∧ longD c f r w h p ≤ d ∧ ∀ i, f < i → i ≤ 30 → d < longD c i r w h p := by
  have R0 := R
  obtain ⟨c0, c1, l0, l1, r0, r1, w0, w1, h0, h1, s0, s1⟩ := R
  obtain ⟨e, x, rfl⟩ := compL_inv (own := [4]) (hg := hName 4) (t := (kB (k2 gLe (kCall [false, false] [none, none] d_longest_of (kCons (k2 gAdd (kMk .tup (kCons (k2 gIx (kVar 0) (kD (.int 0))) (kCons (kVar 4) (kNil)))) (kSl (kVar 0) (kPart (kD (.int 2))) kNoPart)) (kCons (kVar 1) (kNil)))) (kVar 2)))) (f := kVar 4) (ds := rngD 1 30) (acc := []) (fun env => env = [.v (.dat (rulD c l r w h s)), .v (.dat (.int p)), .v (.dat (.int d)), .no, .no])
    (ofI fun i => decide (longD c i r w h p ≤ d)) .dat (fun d' hd env ie => by
      subst ie
      obtain ⟨i, hi, rfl⟩ := rngD_mem hd
      have lo := longest_of_ok (l := 1 + (i : Int)) (s := s) (p := p) c0 (by omega) (by omega) (by omega) r0 r1 w0 h0 h1
      refine ⟨_, [.v (.dat (rulD c l r w h s)), .v (.dat (.int p)), .v (.dat (.int d)), .no, .v (.dat (.int (1 + (i : Int))))], by simp; rfl, ?_, fun _ => ⟨_, _, rfl, rfl, rfl⟩, fun _ => ⟨_, rfl, rfl⟩⟩
      simp [fz_tup, cut2, lo, lendIn, backs, ofI]) (by simp [rngD]) rfl
  rw [List.nil_append, filter_first (lo := 1) (n := 30) (P := fun i => decide (longD c i r w h p ≤ d))] at x
  have fo := first_of 1 (fun i => decide (longD c i r w h p ≤ d)) 30
  generalize ((List.range 30).map fun i : Nat => 1 + (i : Int)).filter (fun i => decide (longD c i r w h p ≤ d)) = ns at x fo
  have nn := ne_nil ns
  rcases fo with ⟨rfl, h⟩ | ⟨f, z, h1, h2, h3, h4, h5, h6, h7, h8, h9, h10, h11⟩
  · refine .inl ⟨?_, fun i a b => by have := h i a (by omega); simpa using this⟩
    unfold d_longest_loan g_longest_loan
    simp [startE, List.replicate, c_MAX_PLACE, c_MAX_DAYS, c_HIGHS, require_rules_ok R0, require_number_ok p0 p1, require_number_ok d0 d1, lendIn, backs, wipeE, x, lcEnd, finF, outsOf] at nn ⊢
    simp [nn, finF, outsOf]
  · refine .inr ⟨z, ?_, h8, by omega, by simpa using h10, fun i a b => by have := h11 i a (by omega); simpa using this⟩
    have nn' : (decide (ns ≠ [])) = true := by simpa using h1
    rw [nn'] at nn
    unfold d_longest_loan g_longest_loan
    simp [startE, List.replicate, c_MAX_PLACE, c_MAX_DAYS, c_HIGHS, require_rules_ok R0, require_number_ok p0 p1, require_number_ok d0 d1, lendIn, backs, wipeE, x, lcEnd, finF, outsOf, toDs_map]
    simp [toDs_map, nn, h3, finF, outsOf]
/-! ### how the longest wait grows -/
theorem ceil_pos {p c : Int} (p0 : 1 ≤ p) (c0 : 1 ≤ c) : 1 ≤ (p + c - 1) / c := by
  have := Int.ediv_le_ediv (c := c) (by omega) (show c ≤ p + c - 1 by omega)
  rwa [Int.ediv_self (by omega)] at this
theorem ceil_copy {p c : Int} (p0 : 1 ≤ p) (c0 : 1 ≤ c) : (p + (c + 1) - 1) / (c + 1) ≤ (p + c - 1) / c := by
  obtain ⟨h1, _⟩ := ceil_of (t := p) (b := c) (by omega)
  have u0 := ceil_pos p0 c0
  generalize (p + c - 1) / c = u at *
  have : u * c + u = u * (c + 1) := by rw [Int.mul_add, Int.mul_one]
  refine Int.lt_add_one_iff.mp (Int.ediv_lt_of_lt_mul (by omega) ?_)
  rw [Int.add_mul]
  omega
theorem ceil_place {p c : Int} (p0 : 1 ≤ p) (c0 : 1 ≤ c) : (p + c - 1) / c ≤ (p + 1 + c - 1) / c ∧ (p + 1 + c - 1) / c ≤ (p + c - 1) / c + 1 := by
  refine ⟨Int.ediv_le_ediv (by omega) (by omega), ?_⟩
  have := Int.ediv_le_ediv (c := c) (by omega) (show p + 1 + c - 1 ≤ (p + c - 1) + 1 * c by omega)
  rwa [Int.add_mul_ediv_right _ _ (by omega)] at this
theorem mul_up {a b k : Int} (h : a ≤ b) (k0 : 0 ≤ k) : a * k ≤ b * k := Int.mul_le_mul_of_nonneg_right h k0
theorem best_up {l r w l' r' w' : Int} (l0 : 1 ≤ l) (r0 : 0 ≤ r) (r1 : r' ≤ 3) (hl : l ≤ l') (hr : r ≤ r') (hw : w ≤ w') : bestD l r w ≤ bestD l' r' w' := by
  have k1 : l * (1 + r) ≤ l' * (1 + r') := Int.mul_le_mul hl (by omega) (by omega) (by omega)
  unfold bestD
  split <;> split <;> omega
theorem long_up {c l r w h p l' r' w' h' : Int} (c0 : 1 ≤ c) (p0 : 1 ≤ p) (l0 : 1 ≤ l) (r0 : 0 ≤ r) (r1 : r' ≤ 3) (hl : l ≤ l') (hr : r ≤ r') (hw : w ≤ w') (hh : h ≤ h') : longD c l r w h p ≤ longD c l' r' w' h' p := by
  have b := best_up l0 r0 r1 hl hr hw
  have u0 := ceil_pos p0 c0
  have m := mul_up (show h + l ≤ h' + l' by omega) (show 0 ≤ (p + c - 1) / c - 1 by omega)
  unfold longD
  split <;> split <;> omega
theorem long_copy {c l r w h p : Int} (c0 : 1 ≤ c) (p0 : 1 ≤ p) (h0 : 0 ≤ h + l) : longD (c + 1) l r w h p ≤ longD c l r w h p := by
  have u := ceil_copy p0 c0
  have m := Int.mul_le_mul_of_nonneg_left (show (p + (c + 1) - 1) / (c + 1) - 1 ≤ (p + c - 1) / c - 1 by omega) h0
  unfold longD
  omega
theorem long_place {c l r w h p : Int} (c0 : 1 ≤ c) (p0 : 1 ≤ p) (h0 : 0 ≤ h + l) : longD c l r w h p ≤ longD c l r w h (p + 1) ∧ longD c l r w h (p + 1) ≤ longD c l r w h p + l + h := by
  obtain ⟨u1, u2⟩ := ceil_place p0 c0
  have m := Int.mul_le_mul_of_nonneg_left (show (p + c - 1) / c - 1 ≤ (p + 1 + c - 1) / c - 1 by omega) h0
  have m2 := Int.mul_le_mul_of_nonneg_left (show (p + 1 + c - 1) / c - 1 ≤ (p + c - 1) / c - 1 + 1 by omega) h0
  rw [Int.mul_add, Int.mul_one] at m2
  unfold longD
  omega
theorem long_bound {c l r w h p : Int} (c0 : 1 ≤ c) (p0 : 1 ≤ p) (p1 : p ≤ 20) (l0 : 1 ≤ l) (l1 : l ≤ 30) (r0 : 0 ≤ r) (r1 : r ≤ 3) (w1 : w ≤ 30) (w0 : 0 ≤ w) (h0 : 0 ≤ h) (h1 : h ≤ 10) : 1 ≤ longD c l r w h p ∧ longD c l r w h p ≤ 880 := by
  have u0 := ceil_pos p0 c0
  have u1 : (p + c - 1) / c ≤ 20 := by
    refine Int.lt_add_one_iff.mp (Int.ediv_lt_of_lt_mul (by omega) ?_)
    have : 1 * 20 ≤ c * 20 := mul_up c0 (by omega)
    omega
  have b : bestD l r w ≤ 60 := by
    unfold bestD
    split <;> omega
  have m := Int.mul_le_mul (show h + l ≤ 40 by omega) (show (p + c - 1) / c - 1 ≤ 19 by omega) (by omega) (by omega)
  have m0 := Int.mul_nonneg (show 0 ≤ h + l by omega) (show 0 ≤ (p + c - 1) / c - 1 by omega)
  unfold longD
  split <;> omega
end DP
end

section
namespace DP
open PySem PySem.Spec PyProof.Rows L2 DP.G
/-- no later renewal -/
def qB (l w l' w' k : Int) : Bool := decide (l' * k - w' ≤ if 0 < l * k - w then l * k - w else 0)
def permB (c l r w h s c' l' r' w' h' s' : Int) : Bool := decide (c = c') && (decide (h = h') && (decide (l ≤ l') && (decide (r ≤ r') && (decide (s' ≤ s) && ((decide (r < 1) || qB l w l' w' 1) && ((decide (r < 2) || qB l w l' w' 2) && (decide (r < 3) || qB l w l' w' 3)))))))
set_option maxHeartbeats 4000000 in
theorem allowed_ok {c l r w h s c' l' r' w' h' s' : Int} (l0 : 1 ≤ l) (l1 : l ≤ 30) (r0 : 0 ≤ r) (r1 : r ≤ 3) (l2 : 1 ≤ l') (l3 : l' ≤ 30) : d_is_allowed_by [.dat (rulD c l r w h s), .dat (rulD c' l' r' w' h' s')] = .ok (.dat (.bool (permB c l r w h s c' l' r' w' h' s'))) [] := by
  have ml : -18446744073709551616 < l' ∧ l' < 18446744073709551616 := by omega
  have e1 := renewal_days_ok (c := c) (w := w) (h := h) (s := s) l0 l1 r0 r1
  unfold d_is_allowed_by g_is_allowed_by
  by_cases a1 : c = c'
  · by_cases a2 : h = h'
    · by_cases a3 : l' < l
      · have a3' : ¬ l ≤ l' := by omega
        simp [startE, List.replicate, a1, a2, a3, a3', permB, finF, outsOf]
      · have a3' : l ≤ l' := by omega
        by_cases a4 : r' < r
        · have a4' : ¬ r ≤ r' := by omega
          simp [startE, List.replicate, a1, a2, a3, a3', a4, a4', permB, finF, outsOf]
        · have a4' : r ≤ r' := by omega
          by_cases a5 : s < s'
          · have a5' : ¬ s' ≤ s := by omega
            simp [startE, List.replicate, a1, a2, a3, a3', a4, a4', a5, a5', permB, finF, outsOf]
          · have a5' : s' ≤ s := by omega
            subst a1 a2
            obtain ⟨d1, hd1⟩ : ∃ d1, d1 = (if 0 < l * 1 - w then l * 1 - w else 0) := ⟨_, rfl⟩
            obtain ⟨d2, hd2⟩ : ∃ d2, d2 = (if 0 < l * 2 - w then l * 2 - w else 0) := ⟨_, rfl⟩
            obtain ⟨d3, hd3⟩ : ∃ d3, d3 = (if 0 < l * 3 - w then l * 3 - w else 0) := ⟨_, rfl⟩
            obtain rfl | rfl | rfl | rfl : r = 0 ∨ r = 1 ∨ r = 2 ∨ r = 3 := by omega
            · have e2 : d_renewal_days [.dat (rulD c l 0 w h s)] = .ok (.node .lst []) [] := e1
              simp [startE, List.replicate, a3, a3', a4, a4', a5, a5', permB, finF, outsOf, e2, lendIn, backs, wipeE, enumD, compL, lcEnd, gAll, blsD]
            · have e2 : d_renewal_days [.dat (rulD c l 1 w h s)] = .ok (.node .lst [.dat (.int d1)]) [] := by rw [hd1]; exact e1
              simp [startE, List.replicate, a3, a3', a4, a4', a5, a5', permB, finF, outsOf, e2, lendIn, backs, wipeE, enumD, compL, lcEnd, gAll, blsD, qB, ← hd1, ← hd2, ← hd3, ml]
              simp [hd1]
            · have e2 : d_renewal_days [.dat (rulD c l 2 w h s)] = .ok (.node .lst [.dat (.int d1), .dat (.int d2)]) [] := by rw [hd1, hd2]; exact e1
              simp [startE, List.replicate, a3, a3', a4, a4', a5, a5', permB, finF, outsOf, e2, lendIn, backs, wipeE, enumD, compL, lcEnd, gAll, blsD, qB, ← hd1, ← hd2, ← hd3, ml]
              simp [hd1, hd2]
            · have e2 : d_renewal_days [.dat (rulD c l 3 w h s)] = .ok (.node .lst [.dat (.int d1), .dat (.int d2), .dat (.int d3)]) [] := by rw [hd1, hd2, hd3]; exact e1
              simp [startE, List.replicate, a3, a3', a4, a4', a5, a5', permB, finF, outsOf, e2, lendIn, backs, wipeE, enumD, compL, lcEnd, gAll, blsD, qB, ← hd1, ← hd2, ← hd3, ml]
              simp [hd1, hd2, hd3]
    · simp [startE, List.replicate, a1, a2, permB, finF, outsOf]
  · simp [startE, List.replicate, a1, permB, finF, outsOf]
set_option maxHeartbeats 4000000 in
theorem permits_ok {c l r w h s c' l' r' w' h' s' : Int} (l0 : 1 ≤ l) (l1 : l ≤ 30) (r0 : 0 ≤ r) (r1 : r ≤ 3) (l2 : 1 ≤ l') (l3 : l' ≤ 30) : d__law_permits [.dat (rulD c l r w h s), .dat (rulD c' l' r' w' h' s')] = .ok (.dat (.bool (permB c l r w h s c' l' r' w' h' s'))) [] := by
  have ml : -18446744073709551616 < l' ∧ l' < 18446744073709551616 := by omega
  have ml2 : -18446744073709551616 < l ∧ l < 18446744073709551616 := by omega
  have body : ∀ (k : Int) (z : Sl), l__law_permits_0 [.v (.dat (rulD c l r w h s)), .v (.dat (rulD c' l' r' w' h' s')), .v (.dat (.int k))] = if qB l w l' w' k = true then .nx [.v (.dat (rulD c l r w h s)), .v (.dat (rulD c' l' r' w' h' s')), .v (.dat (.int k))] else .rt (.dat (.bool false)) [.v (.dat (rulD c l r w h s)), .v (.dat (rulD c' l' r' w' h' s')), .v (.dat (.int k))] := fun k z => by
    unfold l__law_permits_0 qB
    by_cases q : l' * k - w' ≤ if 0 < l * k - w then l * k - w else 0
    · have q' : ¬ (if 0 < l * k - w then l * k - w else 0) < l' * k - w' := by omega
      simp only [decide_eq_true q, if_true]
      simp [ml, ml2] at q' ⊢
      simp [q']
    · have q' : (if 0 < l * k - w then l * k - w else 0) < l' * k - w' := by omega
      simp only [decide_eq_false q, Bool.false_eq_true, if_false]
      simp [ml, ml2] at q' ⊢
      simp [q']
  unfold d__law_permits g__law_permits
  by_cases a1 : c = c'
  · by_cases a2 : h = h'
    · by_cases a3 : l' < l
      · have a3' : ¬ l ≤ l' := by omega
        simp [startE, List.replicate, a1, a2, a3, a3', permB, finF, outsOf]
      · have a3' : l ≤ l' := by omega
        by_cases a5 : s < s'
        · have a5' : ¬ s' ≤ s := by omega
          simp [startE, List.replicate, a1, a2, a3, a3', a5, a5', permB, finF, outsOf]
        · have a5' : s' ≤ s := by omega
          by_cases a4 : r' < r
          · have a4' : ¬ r ≤ r' := by omega
            simp [startE, List.replicate, a1, a2, a3, a3', a4, a4', a5, a5', permB, finF, outsOf]
          · have a4' : r ≤ r' := by omega
            subst a1 a2
            have b1 := body 1 .no
            have b2 := body 2 .no
            have b3 := body 3 .no
            obtain rfl | rfl | rfl | rfl : r = 0 ∨ r = 1 ∨ r = 2 ∨ r = 3 := by omega
            · simp [startE, List.replicate, a3, a3', a4, a4', a5, a5', permB, finF, outsOf, rngD, loopS]
            all_goals
              cases q1 : qB l w l' w' 1 <;> cases q2 : qB l w l' w' 2 <;> cases q3 : qB l w l' w' 3 <;> simp [q1, q2, q3] at b1 b2 b3 <;>
                simp [startE, List.replicate, a3, a3', a4, a4', a5, a5', permB, finF, outsOf, rngD, List.range_succ, loopS, q1, q2, q3, b1, b2, b3]
    · simp [startE, List.replicate, a1, a2, permB, finF, outsOf]
  · simp [startE, List.replicate, a1, permB, finF, outsOf]
end DP
end

section
namespace DP
open PySem PySem.Spec PyProof.Rows L2 DP.G
/-! ### data that is compared -/
def Shd (n : Nat) (d : PyData) : Prop := d.canLay0 = true ∧ d.depth ≤ n
theorem Shd.mono {n m : Nat} {d : PyData} (h : Shd n d) (l : n ≤ m) : Shd m d := ⟨h.1, Nat.le_trans h.2 l⟩
theorem Shd.shaped {n : Nat} {d : PyData} (h : Shd n d) (l : n ≤ 64 := by decide) : SeqAt.shaped d = true := by
  unfold SeqAt.shaped
  rw [h.1, Bool.true_and]
  exact decide_eq_true (Nat.le_trans h.2 l)
theorem shd_int (i : Int) : Shd 0 (.int i) := ⟨rfl, Nat.le_refl _⟩
theorem shd_none : Shd 0 .none := ⟨rfl, Nat.le_refl _⟩
theorem shd_bool (b : Bool) : Shd 0 (.bool b) := ⟨rfl, Nat.le_refl _⟩
theorem shd_all {n : Nat} : ∀ {ds : List PyData}, (∀ d ∈ ds, Shd n d) → PyData.canLayAll0 ds = true ∧ PyData.depthAll ds ≤ n
  | [], _ => ⟨rfl, Nat.zero_le _⟩
  | d :: ds, h => by
    obtain ⟨a, b⟩ := shd_all (ds := ds) fun e he => h e (List.mem_cons_of_mem _ he)
    obtain ⟨c, e⟩ := h d List.mem_cons_self
    exact ⟨by rw [PyData.canLayAll0, c, a]; rfl, by rw [PyData.depthAll]; exact Nat.max_le.mpr ⟨e, b⟩⟩
theorem shd_tup {n : Nat} {ds : List PyData} (h : ∀ d ∈ ds, Shd n d) : Shd (n + 1) (.tuple ds) := by
  obtain ⟨a, b⟩ := shd_all h
  exact ⟨by rw [PyData.canLay0]; exact a, by rw [PyData.depth]; omega⟩
theorem shd_lst {n : Nat} {ds : List PyData} (h : ∀ d ∈ ds, Shd n d) : Shd (n + 1) (.list ds) := by
  obtain ⟨a, b⟩ := shd_all h
  exact ⟨by rw [PyData.canLay0]; exact a, by rw [PyData.depth]; omega⟩
theorem gEq_of {d e : PyData} (h1 : SeqAt.shaped d = true) (h2 : SeqAt.shaped e = true) : gEq d e = some (.dat (.bool (PyData.eqv d e))) := by
  unfold gEq
  rw [if_pos ⟨h1, h2⟩]
theorem gNe_of {d e : PyData} (h1 : SeqAt.shaped d = true) (h2 : SeqAt.shaped e = true) : gNe d e = some (.dat (.bool (!PyData.eqv d e))) := by
  unfold gNe
  rw [if_pos ⟨h1, h2⟩]
theorem gEq_self {d : PyData} (h1 : SeqAt.shaped d = true) : gEq d d = some (.dat (.bool true)) := by
  rw [gEq_of h1 h1, SeqAt.eqv_refl d (SeqAt.canLay_of_shaped h1)]
theorem gNe_self {d : PyData} (h1 : SeqAt.shaped d = true) : gNe d d = some (.dat (.bool false)) := by
  rw [gNe_of h1 h1, SeqAt.eqv_refl d (SeqAt.canLay_of_shaped h1)]
  rfl
/-- data without bools and dicts -/
inductive Pln : PyData → Prop
  | non : Pln .none
  | int (i : Int) : Pln (.int i)
  | str (s : Str) : Pln (.str s)
  | lst {ds : List PyData} : (∀ d ∈ ds, Pln d) → Pln (.list ds)
  | tup {ds : List PyData} : (∀ d ∈ ds, Pln d) → Pln (.tuple ds)
mutual
theorem pln_eqv : ∀ (d e : PyData), Pln d → Pln e → PyData.eqv d e = true → d = e
  | .none, e, _, he, h => by cases he <;> first | rfl | (simp [PyData.eqv] at h)
  | .bool _, e, hd, _, _ => by cases hd
  | .int i, e, _, he, h => by
    cases he <;> first | (simp [PyData.eqv] at h; try rw [h]) | (simp [PyData.eqv] at h)
  | .str s, e, _, he, h => by
    cases he <;> first | (simp [PyData.eqv] at h; try rw [h]) | (simp [PyData.eqv] at h)
  | .list xs, e, hd, he, h => by
    cases hd with
    | lst hx =>
      cases he with
      | lst hy => rw [PyData.eqv] at h; rw [plns_eqv xs _ hx hy h]
      | _ => simp [PyData.eqv] at h
  | .tuple xs, e, hd, he, h => by
    cases hd with
    | tup hx =>
      cases he with
      | tup hy => rw [PyData.eqv] at h; rw [plns_eqv xs _ hx hy h]
      | _ => simp [PyData.eqv] at h
  | .dict _, e, hd, _, _ => by cases hd
theorem plns_eqv : ∀ (xs ys : List PyData), (∀ d ∈ xs, Pln d) → (∀ d ∈ ys, Pln d) → PyData.eqvAll xs ys = true → xs = ys
  | [], [], _, _, _ => rfl
  | [], _ :: _, _, _, h => by simp [PyData.eqvAll] at h
  | _ :: _, [], _, _, h => by simp [PyData.eqvAll] at h
  | x :: xs, y :: ys, hx, hy, h => by
    rw [PyData.eqvAll, Bool.and_eq_true] at h
    rw [pln_eqv x y (hx x List.mem_cons_self) (hy y List.mem_cons_self) h.1, plns_eqv xs ys (fun d hd => hx d (List.mem_cons_of_mem _ hd)) (fun d hd => hy d (List.mem_cons_of_mem _ hd)) h.2]
end
theorem eqv_pln {d e : PyData} (hd : Pln d) (he : Pln e) (sd : SeqAt.shaped d = true) : PyData.eqv d e = true ↔ d = e := by
  refine ⟨pln_eqv d e hd he, fun h => ?_⟩
  subst h
  exact SeqAt.eqv_refl d (SeqAt.canLay_of_shaped sd)
/-! ### comprehensions over rows -/
theorem compL_go {α : Type} {own : List Nat} {hg : GF} {t : Env → RE Bool} {f : EF} {env : Env} (F : α → PyData) (p : α → Bool) (g : α → O) : ∀ (l : List α) (acc : List O), (∀ a ∈ l, ∃ e1 e2, hg (.dat (F a)) env = some e1 ∧ t e1 = .ok (p a) e2 ∧
      (p a = true → ∃ e3, f e2 = .ok (g a) e3 ∧ wipeE own e3 = some env) ∧ (p a = false → wipeE own e2 = some env)) → acc.length + l.length < 1000000 → compL own hg t f (l.map F) env acc = .ok (acc ++ (l.filter p).map g) env
  | [], acc, _, _ => by simp [compL]
  | a :: l, acc, h, hl => by
    obtain ⟨e1, e2, h1, h2, h3, h4⟩ := h a List.mem_cons_self
    have hl' : acc.length + (l.length + 1) < 1000000 := by simpa using hl
    have ih := fun acc => compL_go (own := own) (hg := hg) (t := t) (f := f) (env := env) F p g l acc fun b hb => h b (List.mem_cons_of_mem _ hb)
    cases hp : p a with
    | true =>
      obtain ⟨e3, h5, h6⟩ := h3 hp
      rw [hp] at h2
      simp only [List.map_cons, compL, h1, h2, h5, h6]
      rw [if_pos (by omega), ih (acc ++ [g a]) (by simp; omega), List.filter_cons_of_pos hp]
      simp
    | false =>
      have h6 := h4 hp
      rw [hp] at h2
      simp only [List.map_cons, compL, h1, h2, h6]
      rw [ih acc (by omega), List.filter_cons_of_neg (by rw [hp]; decide)]
theorem compL_map {α : Type} {own : List Nat} {hg : GF} {t : Env → RE Bool} {f : EF} {env : Env} (F : α → PyData) (p : α → Bool) (g : α → O) (l : List α) (h : ∀ a ∈ l, ∃ e1 e2, hg (.dat (F a)) env = some e1 ∧ t e1 = .ok (p a) e2 ∧
      (p a = true → ∃ e3, f e2 = .ok (g a) e3 ∧ wipeE own e3 = some env) ∧ (p a = false → wipeE own e2 = some env)) (hl : l.length < 1000000) : compL own hg t f (l.map F) env [] = .ok ((l.filter p).map g) env := by
  have := compL_go F p g l [] h (by simpa using hl)
  simpa using this
end DP
end

section
namespace DP
open PySem PySem.Spec PyProof.Rows L2 DP.G
/-! ### what happens at a desk, plainly -/
structure Ru where
  c : Int
  l : Int
  r : Int
  w : Int
  h : Int
  s : Int
abbrev Ru.d (R : Ru) : PyData := rulD R.c R.l R.r R.w R.h R.s
abbrev Ru.ok (R : Ru) : Prop := Rul R.c R.l R.r R.w R.h R.s
structure St where
  day : Int
  shelf : Int
  loans : List (Int × Int × Int)
  ready : List (Int × Int)
  wait : List Int
  rests : List (Int × Int)
def r3 : Int × Int × Int → List Int | (a, b, c) => [a, b, c]
def r2 : Int × Int → List Int | (a, b) => [a, b]
/-- a row: a reader in front -/
class Row (α : Type) where
  f : α → List Int
  k : α → Int
  hd : ∀ a, ∃ t, f a = k a :: t
instance : Row (Int × Int × Int) := ⟨r3, fun p => p.1, fun p => ⟨_, rfl⟩⟩
instance : Row (Int × Int) := ⟨r2, fun p => p.1, fun p => ⟨_, rfl⟩⟩
def dR {α : Type} [Row α] (a : α) : PyData := rowD (Row.f a)
def St.d (s : St) : PyData := .tuple [.int s.day, .int s.shelf, .tuple (s.loans.map dR), .tuple (s.ready.map dR), .tuple (s.wait.map .int), .tuple (s.rests.map dR)]
section
variable {β : Type}
def rowOf (rows : List (Int × β)) (r : Int) : Option (Int × β) := rows.find? fun p => decide (p.1 = r)
def wo (rows : List (Int × β)) (r : Int) : List (Int × β) := rows.filter fun p => decide (p.1 ≠ r)
end
/-- sorting by rows -/
def insK {α : Type} (f : α → List Int) (x : α) : List α → List α
  | [] => [x]
  | y :: l => if lexI (f y) (f x) = true then y :: insK f x l else x :: y :: l
def isK {α : Type} (f : α → List Int) : List α → List α
  | [] => []
  | x :: l => insK f x (isK f l)
theorem insK_map {α : Type} (f : α → List Int) (x : α) : ∀ l : List α, (insK f x l).map f = insI (f x) (l.map f)
  | [] => rfl
  | y :: l => by
    unfold insK
    rw [List.map_cons, insI]
    split
    · rw [List.map_cons, insK_map f x l]
    · rfl
theorem isK_map {α : Type} (f : α → List Int) : ∀ l : List α, (isK f l).map f = isortI (l.map f)
  | [] => rfl
  | x :: l => by
    rw [isK, insK_map, isK_map f l]
    rfl
theorem insK_perm {α : Type} (f : α → List Int) (x : α) : ∀ l : List α, (insK f x l).Perm (x :: l)
  | [] => List.Perm.refl _
  | y :: l => by
    unfold insK
    split
    · exact ((insK_perm f x l).cons y).trans (List.Perm.swap x y l)
    · exact List.Perm.refl _
theorem isK_perm {α : Type} (f : α → List Int) : ∀ l : List α, (isK f l).Perm l
  | [] => List.Perm.refl _
  | x :: l => (insK_perm f x _).trans ((isK_perm f l).cons x)
theorem rowsI_map {α : Type} (f : α → List Int) (ne : ∀ a, f a ≠ []) : ∀ l : List α, rowsI (l.map fun a => rowD (f a)) = some (l.map f)
  | [] => rfl
  | a :: l => by
    have ih := rowsI_map f ne l
    show (match intsD ((f a).map .int), rowsI (l.map fun a => rowD (f a)) with | some (x :: n), some ks => some ((x :: n) :: ks) | _, _ => none) = _
    rw [intsD_map, ih]
    cases e : f a with
    | nil => exact absurd e (ne a)
    | cons x n => simp [e]
def comeBack (R : Ru) (s : St) : St := match s.wait with
  | [] => { s with shelf := s.shelf + 1 }
  | w :: ws => { s with ready := isK r2 (s.ready ++ [(w, s.day + R.h)]), wait := ws }
def canCome (s : St) (r : Int) : Bool := (rowOf s.loans r).isNone && (match rowOf s.rests r with | none => true | some p => decide (p.2 ≤ s.day))
def borrowed (R : Ru) (s : St) (r : Int) : Option St :=
  if canCome s r = true then
    if (rowOf s.ready r).isSome = true then some { s with loans := isK r3 (s.loans ++ [(r, s.day + R.l, 0)]), ready := wo s.ready r }
    else if 0 < s.shelf then some { s with loans := isK r3 (s.loans ++ [(r, s.day + R.l, 0)]), shelf := s.shelf - 1 } else none
  else none
def returned (R : Ru) (s : St) (r : Int) : Option St :=
  if (rowOf s.loans r).isSome = true then some (comeBack R { s with loans := wo s.loans r, rests := wo s.rests r ++ [(r, s.day + R.s)] }) else none
def renewed (R : Ru) (s : St) (r : Int) : Option St := match rowOf s.loans r with
  | none => none
  | some (_, due, n) => if s.wait = [] ∧ n < R.r ∧ due - s.day ≤ R.w then some { s with loans := isK r3 (wo s.loans r ++ [(r, due + R.l, n + 1)]) } else none
def waited (R : Ru) (s : St) (r : Int) : Option St :=
  if canCome s r = true ∧ r ∉ s.wait ∧ (rowOf s.ready r).isSome = false then
    if 0 < s.shelf then some (comeBack R { s with shelf := s.shelf - 1, wait := s.wait ++ [r] }) else some { s with wait := s.wait ++ [r] }
  else none
def left (R : Ru) (s : St) (r : Int) : Option St :=
  if r ∈ s.wait then some { s with wait := s.wait.filter fun x => decide (x ≠ r) }
  else if (rowOf s.ready r).isSome = true then some (comeBack R { s with ready := wo s.ready r }) else none
def nextDay (R : Ru) (s : St) : Option St :=
  if (s.loans.any fun p => decide (p.2.1 ≤ s.day)) = true then none
  else some ((s.ready.filter fun p => decide (p.2 ≤ s.day)).foldl (fun u _ => comeBack R u) { s with day := s.day + 1, ready := s.ready.filter fun p => decide (s.day < p.2) })
def passed (R : Ru) : Nat → St → Option St
  | 0, s => some s
  | n + 1, s => match nextDay R s with
    | some t => passed R n t
    | none => none
inductive Ev where
  | bo (r : Int)
  | re (r : Int)
  | rn (r : Int)
  | wa (r : Int)
  | le (r : Int)
  | da (n : Nat)
def Ev.d : Ev → PyData
  | .bo r => .tuple [.str "borrow", .int r]
  | .re r => .tuple [.str "return", .int r]
  | .rn r => .tuple [.str "renew", .int r]
  | .wa r => .tuple [.str "wait", .int r]
  | .le r => .tuple [.str "leave", .int r]
  | .da n => .tuple [.str "days", .int n]
def nextSt (R : Ru) (s : St) : Ev → Option St
  | .bo r => borrowed R s r
  | .re r => returned R s r
  | .rn r => renewed R s r
  | .wa r => waited R s r
  | .le r => left R s r
  | .da n => passed R n s
def first (R : Ru) : St := ⟨0, R.c, [], [], [], []⟩
/-- the state behind events, or the index of the first that is refused -/
def runFrom (R : Ru) : St → List Ev → Nat → Except Nat St
  | s, [], _ => .ok s
  | s, e :: es, k => match nextSt R s e with
    | some t => runFrom R t es (k + 1)
    | none => .error k
def runD : Except Nat St → PyData
  | .ok s => .tuple [s.d, .none]
  | .error k => .tuple [.none, .int k]
/-- how much a state holds -/
def St.size (s : St) : Nat := s.loans.length + s.ready.length + s.wait.length + s.rests.length
/-! ### rows -/
theorem find_filter {α : Type} (p : α → Bool) : ∀ l : List α, l.find? p = (l.filter p).head?
  | [] => rfl
  | a :: l => by
    by_cases h : p a = true
    · rw [List.find?_cons_of_pos h, List.filter_cons_of_pos h]
      rfl
    · rw [List.find?_cons_of_neg h, List.filter_cons_of_neg h]
      exact find_filter p l
theorem atI_zero {α : Type} (a : α) (l : List α) : atI (a :: l) 0 = some a := atI_nat (j := 0) rfl
@[simp] theorem row_ix {α : Type} [Row α] (a : α) : gIx (dR a) (.int 0) = some (.dat (.int (Row.k a))) := by
  obtain ⟨t, e⟩ := Row.hd a
  unfold dR rowD
  rw [e, gIx_t, List.map_cons, atI_zero]
  rfl
@[simp] theorem ix2_1 (p : Int × Int) : gIx (dR p) (.int 1) = some (.dat (.int p.2)) := by
  obtain ⟨a, b⟩ := p
  rfl
@[simp] theorem ix3_1 (p : Int × Int × Int) : gIx (dR p) (.int 1) = some (.dat (.int p.2.1)) := by
  obtain ⟨a, b, c⟩ := p
  rfl
@[simp] theorem ix3_2 (p : Int × Int × Int) : gIx (dR p) (.int 2) = some (.dat (.int p.2.2)) := by
  obtain ⟨a, b, c⟩ := p
  rfl
@[simp] theorem k2_eq' (p : Int × Int) : Row.k p = p.1 := (rfl)
@[simp] theorem k3_eq' (p : Int × Int × Int) : Row.k p = p.1 := (rfl)
theorem dR2 (a b : Int) : PyData.tuple [.int a, .int b] = dR (a, b) := (rfl)
theorem dR3 (a b c : Int) : PyData.tuple [.int a, .int b, .int c] = dR (a, b, c) := (rfl)
theorem shd_row {α : Type} [Row α] (a : α) : Shd 1 (dR a) := shd_tup fun d hd => by
  obtain ⟨i, _, rfl⟩ := List.mem_map.mp hd
  exact shd_int i
theorem shd_rows {α : Type} [Row α] (l : List α) : ∀ d ∈ l.map dR, Shd 1 d := fun d hd => by
  obtain ⟨a, _, rfl⟩ := List.mem_map.mp hd
  exact shd_row a
@[simp] theorem ne_rows {α : Type} [Row α] (l : List α) : gNe (.list (l.map dR)) (.list []) = some (.dat (.bool (!l.isEmpty))) := by
  rw [gNe_of (Shd.shaped (n := 2) (shd_lst (shd_rows l))) (by rfl)]
  cases l with
  | nil => rfl
  | cons a l => simp [PyData.eqv, PyData.eqvAll]
theorem shd_intsT (ns : List Int) : Shd 1 (.tuple (ns.map .int)) := shd_tup fun d hd => by
  obtain ⟨i, _, rfl⟩ := List.mem_map.mp hd
  exact shd_int i
@[simp] theorem eq_intsT (ns : List Int) : gEq (.tuple (ns.map .int)) (.tuple []) = some (.dat (.bool ns.isEmpty)) := by
  rw [gEq_of (Shd.shaped (n := 1) (shd_intsT ns)) (by rfl)]
  cases ns with
  | nil => rfl
  | cons a l => simp [PyData.eqv, PyData.eqvAll]
@[simp] theorem ne_intsT (ns : List Int) : gNe (.tuple (ns.map .int)) (.tuple []) = some (.dat (.bool (!ns.isEmpty))) := by
  rw [gNe_of (Shd.shaped (n := 1) (shd_intsT ns)) (by rfl)]
  cases ns with
  | nil => rfl
  | cons a l => simp [PyData.eqv, PyData.eqvAll]
@[simp] theorem toDs_rows {α : Type} [Row α] (l : List α) : O.toDs (l.map fun a => O.dat (dR a)) = some (l.map dR) := by
  have := toDs_map (l.map dR)
  rwa [List.map_map] at this
@[simp] theorem toDs_rows' {α : Type} [Row α] (l : List α) : O.toDs (l.map (O.dat ∘ dR)) = some (l.map dR) := toDs_rows l
@[simp] theorem toDs_ints (l : List Int) : O.toDs (l.map fun a => O.dat (.int a)) = some (l.map .int) := by
  have := toDs_map (l.map PyData.int)
  rwa [List.map_map] at this
def rowQ {α : Type} [Row α] : Option α → PyData
  | some a => dR a
  | none => .none
@[simp] theorem rowQ_isN {α : Type} [Row α] (o : Option α) : isN (rowQ o) = o.isNone := by cases o <;> rfl
@[simp] theorem gIs_d (d : PyData) : gIs d .none = some (.dat (.bool (isN d))) := (rfl)
@[simp] theorem gIsNot_d (d : PyData) : gIsNot d .none = some (.dat (.bool (!isN d))) := (rfl)
theorem row_of_ok {α : Type} [Row α] (l : List α) (r : Int) (hl : l.length < 1000000) : d_row_of [.dat (.tuple (l.map dR)), .dat (.int r)] = .ok (.dat (rowQ (l.find? fun a => decide (Row.k a = r)))) [] := by
  have x := compL_map (own := [3]) (hg := hName 3) (t := kB (k2 gEq (k2 gIx (kVar 3) (kD (.int 0))) (kVar 1))) (f := kVar 3) (env := [.v (.dat (.tuple (l.map dR))), .v (.dat (.int r)), .no, .no])
    dR (fun a => decide (Row.k a = r)) (fun a => .dat (dR a)) l (fun a _ => ⟨_, [.v (.dat (.tuple (l.map dR))), .v (.dat (.int r)), .no, .v (.dat (dR a))], by simp; rfl, by simp, fun _ => ⟨_, by simp; rfl, rfl⟩, fun _ => rfl⟩) hl
  have ne := ne_rows (l.filter fun a => decide (Row.k a = r))
  rw [find_filter]
  generalize l.filter (fun a => decide (Row.k a = r)) = m at x ne ⊢
  unfold d_row_of g_row_of
  cases m with
  | nil => simp [startE, List.replicate, wipeE, x, lcEnd, finF, outsOf, rowQ] at ne ⊢
           simp [ne, finF, outsOf]
  | cons a m => simp [startE, List.replicate, wipeE, x, lcEnd, finF, outsOf, rowQ] at ne ⊢
                simp [ne, finF, outsOf, atI_zero]
theorem without_ok {α : Type} [Row α] (l : List α) (r : Int) (hl : l.length < 1000000) : d_without [.dat (.tuple (l.map dR)), .dat (.int r)] = .ok (.dat (.tuple ((l.filter fun a => decide (Row.k a ≠ r)).map dR))) [] := by
  have x := compL_map (own := [2]) (hg := hName 2) (t := kB (k2 gNe (k2 gIx (kVar 2) (kD (.int 0))) (kVar 1))) (f := kVar 2) (env := [.v (.dat (.tuple (l.map dR))), .v (.dat (.int r)), .no])
    dR (fun a => decide (Row.k a ≠ r)) (fun a => .dat (dR a)) l (fun a _ => ⟨_, [.v (.dat (.tuple (l.map dR))), .v (.dat (.int r)), .v (.dat (dR a))], by simp; rfl, by simp, fun _ => ⟨_, by simp; rfl, rfl⟩, fun _ => rfl⟩) hl
  unfold d_without g_without
  simp [startE, List.replicate, wipeE, lcEnd, finF, outsOf] at x ⊢
  simp [x, lcEnd, gTuple, finF, outsOf]
end DP
end

section
namespace DP
open PySem PySem.Spec PyProof.Rows L2 DP.G
theorem row_ne {α : Type} [Row α] (a : α) : Row.f a ≠ [] := by
  obtain ⟨t, e⟩ := Row.hd a
  rw [e]
  exact fun h => nomatch h
theorem sort_rows {α : Type} [Row α] (l : List α) (x : α) : gSortA [.tuple (l.map dR ++ [dR x])] = some (.node .lst ((isK Row.f (l ++ [x])).map fun a => .dat (dR a))) := by
  have e : l.map dR ++ [dR x] = (l ++ [x]).map fun a => rowD (Row.f a) := by rw [List.map_append]; rfl
  show (rowsI (l.map dR ++ [dR x])).map _ = _
  rw [e, rowsI_map Row.f row_ne]
  show some (O.node .lst (((isortI ((l ++ [x]).map Row.f)).map rowD).map .dat)) = _
  rw [← isK_map, List.map_map, List.map_map]
  rfl
@[simp] theorem sort2 (l : List (Int × Int)) (a b : Int) : gSortA [.tuple (l.map dR ++ [.tuple [.int a, .int b]])] = some (.node .lst ((isK r2 (l ++ [(a, b)])).map fun a => .dat (dR a))) := sort_rows l (a, b)
@[simp] theorem sort3 (l : List (Int × Int × Int)) (a b c : Int) : gSortA [.tuple (l.map dR ++ [.tuple [.int a, .int b, .int c]])] = some (.node .lst ((isK r3 (l ++ [(a, b, c)])).map fun a => .dat (dR a))) := sort_rows l (a, b, c)
@[simp] theorem eq_tnil : gEq (.tuple []) (.tuple []) = some (.dat (.bool true)) := (rfl)
@[simp] theorem ne_tnil : gNe (.tuple []) (.tuple []) = some (.dat (.bool false)) := (rfl)
@[simp] theorem eq_tcons (a : Int) (l : List Int) : gEq (.tuple (.int a :: l.map .int)) (.tuple []) = some (.dat (.bool false)) := eq_intsT (a :: l)
@[simp] theorem ne_tcons (a : Int) (l : List Int) : gNe (.tuple (.int a :: l.map .int)) (.tuple []) = some (.dat (.bool true)) := ne_intsT (a :: l)
@[simp] theorem gTuple_l (ds : List PyData) : gTuple [.list ds] = some (.dat (.tuple ds)) := (rfl)
@[simp] theorem cut_tail (a : PyData) (l : List PyData) : cutD (a :: l) (some 1) none = l := by
  unfold cutD
  simp [HT.sIx]
theorem come_back_ok (R : Ru) (s : St) (hl : s.size < 900000) : d_come_back [.dat R.d, .dat s.d] = .ok (.dat (comeBack R s).d) [] := by
  obtain ⟨day, shelf, loans, ready, wait, rests⟩ := s
  unfold St.size at hl
  simp only at hl
  unfold d_come_back g_come_back comeBack St.d
  cases wait with
  | nil => simp [startE, List.replicate, fz_tup, finF, outsOf]
  | cons w ws =>
    have h1 : ready.length + 1 ≤ 1000000 := by omega
    simp [startE, List.replicate, fz_tup, finF, outsOf, h1, atI_zero]
theorem row3_ok (l : List (Int × Int × Int)) (r : Int) (hl : l.length < 1000000) : d_row_of [.dat (.tuple (l.map dR)), .dat (.int r)] = .ok (.dat (rowQ (rowOf l r))) [] := row_of_ok l r hl
theorem row2_ok (l : List (Int × Int)) (r : Int) (hl : l.length < 1000000) : d_row_of [.dat (.tuple (l.map dR)), .dat (.int r)] = .ok (.dat (rowQ (rowOf l r))) [] := row_of_ok l r hl
theorem wo3_ok (l : List (Int × Int × Int)) (r : Int) (hl : l.length < 1000000) : d_without [.dat (.tuple (l.map dR)), .dat (.int r)] = .ok (.dat (.tuple ((wo l r).map dR))) [] := without_ok l r hl
theorem wo2_ok (l : List (Int × Int)) (r : Int) (hl : l.length < 1000000) : d_without [.dat (.tuple (l.map dR)), .dat (.int r)] = .ok (.dat (.tuple ((wo l r).map dR))) [] := without_ok l r hl
theorem wo_le {β : Type} (l : List (Int × β)) (r : Int) : (wo l r).length ≤ l.length := List.length_filter_le _ _
@[simp] theorem rowQ_some {α : Type} [Row α] (a : α) : rowQ (some a) = dR a := (rfl)
@[simp] theorem rowQ_none {α : Type} [Row α] : rowQ (none : Option α) = .none := (rfl)
@[simp] theorem isN_none : isN .none = true := (rfl)
@[simp] theorem isN_row {α : Type} [Row α] (a : α) : isN (dR a) = false := (rfl)
@[simp] theorem isN_tup (ds : List PyData) : isN (.tuple ds) = false := (rfl)
theorem can_come_ok (s : St) (r : Int) (hl : s.size < 900000) : d_can_come [.dat s.d, .dat (.int r)] = .ok (.dat (.bool (canCome s r))) [] := by
  obtain ⟨day, shelf, loans, ready, wait, rests⟩ := s
  unfold St.size at hl
  simp only at hl
  have a1 := row3_ok loans r (by omega)
  have a2 := row2_ok rests r (by omega)
  unfold d_can_come g_can_come canCome St.d
  cases e1 : rowOf loans r with
  | some p =>
    rw [e1] at a1
    simp [startE, List.replicate, a1, a2, lendIn, backs, finF, outsOf]
  | none =>
    rw [e1] at a1
    cases e2 : rowOf rests r with
    | none =>
      rw [e2] at a2
      simp [startE, List.replicate, a1, a2, lendIn, backs, finF, outsOf]
    | some p =>
      rw [e2] at a2
      simp [startE, List.replicate, a1, a2, lendIn, backs, finF, outsOf]
def oD : Option St → PyData
  | some s => s.d
  | none => .none
theorem borrowed_ok (R : Ru) (s : St) (r : Int) (hl : s.size < 900000) : d_borrowed [.dat R.d, .dat s.d, .dat (.int r)] = .ok (.dat (oD (borrowed R s r))) [] := by
  have cc := can_come_ok s r hl
  obtain ⟨day, shelf, loans, ready, wait, rests⟩ := s
  unfold St.size at hl
  simp only at hl
  have a2 := row2_ok ready r (by omega)
  have a3 := wo2_ok ready r (by omega)
  have h1 : loans.length + 1 ≤ 1000000 := by omega
  unfold d_borrowed g_borrowed borrowed
  cases e1 : canCome ⟨day, shelf, loans, ready, wait, rests⟩ r with
  | false =>
    rw [e1] at cc
    unfold St.d at cc ⊢
    simp [startE, List.replicate, cc, lendIn, backs, finF, outsOf, oD]
  | true =>
    rw [e1] at cc
    unfold St.d at cc ⊢
    cases e2 : rowOf ready r with
    | some p =>
      rw [e2] at a2
      simp [startE, List.replicate, cc, a2, a3, lendIn, backs, fz_tup, finF, outsOf, h1, oD, St.d]
    | none =>
      rw [e2] at a2
      by_cases h2 : 0 < shelf <;> simp [startE, List.replicate, cc, a2, a3, lendIn, backs, fz_tup, finF, outsOf, h1, h2, oD, St.d]
theorem returned_ok (R : Ru) (s : St) (r : Int) (hl : s.size < 800000) : d_returned [.dat R.d, .dat s.d, .dat (.int r)] = .ok (.dat (oD (returned R s r))) [] := by
  obtain ⟨day, shelf, loans, ready, wait, rests⟩ := s
  unfold St.size at hl
  simp only at hl
  have a1 := row3_ok loans r (by omega)
  have a2 := wo2_ok rests r (by omega)
  have a3 := wo3_ok loans r (by omega)
  have l1 := wo_le loans r
  have l2 := wo_le rests r
  have h1 : (wo rests r).length + 1 ≤ 1000000 := by omega
  have cb := come_back_ok R ⟨day, shelf, wo loans r, ready, wait, wo rests r ++ [(r, day + R.s)]⟩ (by unfold St.size; simp only [List.length_append, List.length_singleton]; omega)
  unfold d_returned g_returned returned
  cases e1 : rowOf loans r with
  | none =>
    rw [e1] at a1
    simp [startE, List.replicate, a1, lendIn, backs, finF, outsOf, oD, St.d]
  | some p =>
    rw [e1] at a1
    simp only [St.d, List.map_append, List.map_cons, List.map_nil, ← dR2] at cb ⊢
    simp [startE, List.replicate, a1, a2, a3, lendIn, backs, fz_tup, finF, outsOf, h1, cb, oD, St.d]
theorem renewed_ok (R : Ru) (s : St) (r : Int) (hl : s.size < 900000) : d_renewed [.dat R.d, .dat s.d, .dat (.int r)] = .ok (.dat (oD (renewed R s r))) [] := by
  obtain ⟨day, shelf, loans, ready, wait, rests⟩ := s
  unfold St.size at hl
  simp only at hl
  have a1 := row3_ok loans r (by omega)
  have a3 := wo3_ok loans r (by omega)
  have l1 := wo_le loans r
  have h1 : (wo loans r).length + 1 ≤ 1000000 := by omega
  unfold d_renewed g_renewed renewed
  cases e1 : rowOf loans r with
  | none =>
    rw [e1] at a1
    simp [startE, List.replicate, a1, lendIn, backs, finF, outsOf, oD, St.d]
  | some p =>
    rw [e1] at a1
    obtain ⟨q, due, n⟩ := p
    cases wait with
    | cons w ws => simp [startE, List.replicate, a1, lendIn, backs, fz_tup, finF, outsOf, h1, oD, St.d]
    | nil =>
      by_cases h2 : n < R.r
      · have h2' : ¬ R.r ≤ n := by omega
        by_cases h3 : due - day ≤ R.w
        · have h3' : ¬ R.w < due - day := by omega
          simp [startE, List.replicate, a1, a3, lendIn, backs, fz_tup, finF, outsOf, h1, h2, h2', h3, h3', oD, St.d]
        · have h3' : R.w < due - day := by omega
          simp [startE, List.replicate, a1, a3, lendIn, backs, fz_tup, finF, outsOf, h1, h2, h2', h3, h3', oD, St.d]
      · have h2' : R.r ≤ n := by omega
        simp [startE, List.replicate, a1, a3, lendIn, backs, fz_tup, finF, outsOf, h1, h2, h2', oD, St.d]
theorem in_ints (r : Int) (l : List Int) : gIn (.int r) (.tuple (l.map .int)) = some (.dat (.bool (decide (r ∈ l)))) := by
  have h1 : (l.map PyData.int).all flatD = true := by
    rw [List.all_map]
    exact List.all_eq_true.mpr fun _ _ => rfl
  show (if flatD (.int r) = true ∧ (l.map PyData.int).all flatD = true then some (O.dat (.bool (inD (.int r) (l.map .int)))) else none) = _
  rw [if_pos ⟨rfl, h1⟩]
  congr 3
  clear h1
  unfold inD
  rw [List.any_map]
  induction l with
  | nil => rfl
  | cons a l ih =>
    have h2 : (l.map PyData.int).all flatD = true := by
      rw [List.all_map]
      exact List.all_eq_true.mpr fun _ _ => rfl
    rw [List.any_cons, ih]
    by_cases e : r = a
    · subst e
      simp [PyData.eqv]
    · have e' : ¬ a = r := fun z => e z.symm
      simp [PyData.eqv, e, e']
end DP
end

section
namespace DP
open PySem PySem.Spec PyProof.Rows L2 DP.G
theorem loopS_fold {α β : Type} {hg : GF} {body : Env → RS} (F : α → PyData) (E : β → Env → Prop) (step : β → α → β) : ∀ (l : List α) (b : β) (env : Env), (∀ a ∈ l, ∀ b env, E b env → ∃ e1, hg (.dat (F a)) env = some e1 ∧ ∃ e2, body e1 = .nx e2 ∧ E (step b a) e2) → E b env →
    ∃ env', loopS hg body (l.map F) env = .nx env' ∧ E (l.foldl step b) env'
  | [], b, env, _, h0 => ⟨env, rfl, h0⟩
  | a :: l, b, env, h, h0 => by
    obtain ⟨e1, q1, e2, q2, i2⟩ := h a List.mem_cons_self b env h0
    obtain ⟨e3, q3, i3⟩ := loopS_fold F E step l (step b a) e2 (fun c hc => h c (List.mem_cons_of_mem _ hc)) i2
    refine ⟨e3, ?_, i3⟩
    rw [List.map_cons, loopS, q1]
    show (match body e1 with | .nx e2 => loopS hg body (l.map F) e2 | .ct e2 => loopS hg body (l.map F) e2 | .bk e2 => .nx e2 | r => r) = _
    rw [q2]
    exact q3
theorem size_cb (R : Ru) (s : St) : (comeBack R s).size = s.size := by
  obtain ⟨day, shelf, loans, ready, wait, rests⟩ := s
  unfold comeBack St.size
  cases wait with
  | nil => rfl
  | cons w ws =>
    simp only [(isK_perm r2 _).length_eq, List.length_append, List.length_cons, List.length_nil]
    omega
theorem waited_ok (R : Ru) (s : St) (r : Int) (hl : s.size < 800000) : d_waited [.dat R.d, .dat s.d, .dat (.int r)] = .ok (.dat (oD (waited R s r))) [] := by
  have cc := can_come_ok s r (by omega)
  obtain ⟨day, shelf, loans, ready, wait, rests⟩ := s
  unfold St.size at hl
  simp only at hl
  have a2 := row2_ok ready r (by omega)
  have h1 : wait.length + 1 ≤ 1000000 := by omega
  have cb := come_back_ok R ⟨day, shelf - 1, loans, ready, wait ++ [r], rests⟩ (by unfold St.size; simp only [List.length_append, List.length_singleton]; omega)
  have iw := in_ints r wait
  unfold d_waited g_waited waited
  cases e1 : canCome ⟨day, shelf, loans, ready, wait, rests⟩ r with
  | false =>
    rw [e1] at cc
    unfold St.d at cc ⊢
    simp [startE, List.replicate, cc, lendIn, backs, finF, outsOf, oD]
  | true =>
    rw [e1] at cc
    unfold St.d at cc ⊢
    by_cases h3 : r ∈ wait
    · simp [startE, List.replicate, cc, iw, h3, lendIn, backs, finF, outsOf, oD]
    · cases e2 : rowOf ready r with
      | some p =>
        rw [e2] at a2
        simp [startE, List.replicate, cc, a2, iw, h3, lendIn, backs, fz_tup, finF, outsOf, h1, oD, St.d]
      | none =>
        rw [e2] at a2
        simp only [St.d, List.map_append, List.map_cons, List.map_nil] at cb
        by_cases h2 : 0 < shelf <;> simp [startE, List.replicate, cc, a2, iw, h3, lendIn, backs, fz_tup, finF, outsOf, h1, h2, cb, oD, St.d]
theorem left_ok (R : Ru) (s : St) (r : Int) (hl : s.size < 800000) : d_left [.dat R.d, .dat s.d, .dat (.int r)] = .ok (.dat (oD (left R s r))) [] := by
  obtain ⟨day, shelf, loans, ready, wait, rests⟩ := s
  unfold St.size at hl
  simp only at hl
  have a2 := row2_ok ready r (by omega)
  have a3 := wo2_ok ready r (by omega)
  have l2 := wo_le ready r
  have iw := in_ints r wait
  have cb := come_back_ok R ⟨day, shelf, loans, wo ready r, wait, rests⟩ (by unfold St.size; simp only; omega)
  unfold d_left g_left left
  by_cases h3 : r ∈ wait
  · have x := compL_map (own := [9]) (hg := hName 9) (t := kB (k2 gNe (kVar 9) (kVar 2))) (f := kVar 9) (env := [.v (.dat R.d), .v (.dat (St.d ⟨day, shelf, loans, ready, wait, rests⟩)), .v (.dat (.int r)), .v (.dat (.int day)), .v (.dat (.int shelf)), .v (.dat (.tuple (loans.map dR))), .v (.dat (.tuple (ready.map dR))), .v (.dat (.tuple (wait.map .int))), .v (.dat (.tuple (rests.map dR))), .no])
      PyData.int (fun a => decide (a ≠ r)) (fun a => .dat (.int a)) wait (fun a _ => ⟨_, [.v (.dat R.d), .v (.dat (St.d ⟨day, shelf, loans, ready, wait, rests⟩)), .v (.dat (.int r)), .v (.dat (.int day)), .v (.dat (.int shelf)), .v (.dat (.tuple (loans.map dR))), .v (.dat (.tuple (ready.map dR))), .v (.dat (.tuple (wait.map .int))), .v (.dat (.tuple (rests.map dR))), .v (.dat (.int a))], by simp <;> rfl, by simp, fun _ => ⟨_, by simp <;> rfl, rfl⟩, fun _ => rfl⟩) (by omega)
    simp only [St.d] at x ⊢
    simp at x
    simp [startE, List.replicate, iw, h3, wipeE, x, lcEnd, lendIn, backs, fz_tup, finF, outsOf, oD, St.d]
  · cases e2 : rowOf ready r with
    | some p =>
      rw [e2] at a2
      simp only [St.d] at cb ⊢
      simp [startE, List.replicate, a2, a3, iw, h3, lendIn, backs, fz_tup, finF, outsOf, cb, oD, St.d]
    | none =>
      rw [e2] at a2
      simp [startE, List.replicate, a2, a3, iw, h3, lendIn, backs, fz_tup, finF, outsOf, cb, oD, St.d]
@[simp] theorem gAny_map {α : Type} (p : α → Bool) (l : List α) : gAny [.list (l.map fun a => .bool (p a))] = some (.dat (.bool (l.any p))) := by
  have e : l.map (fun a => PyData.bool (p a)) = (l.map p).map .bool := by rw [List.map_map]; rfl
  show (blsD (l.map fun a => .bool (p a))).map _ = _
  rw [e, blsD_map]
  simp [List.any_map]
@[simp] theorem toDs_bools {α : Type} (p : α → Bool) (l : List α) : O.toDs (l.map fun a => O.dat (.bool (p a))) = some (l.map fun a => .bool (p a)) := by
  have := toDs_map (l.map fun a => PyData.bool (p a))
  rwa [List.map_map] at this
theorem next_day_ok (R : Ru) (s : St) (hl : s.size < 800000) : d_next_day [.dat R.d, .dat s.d] = .ok (.dat (oD (nextDay R s))) [] := by
  obtain ⟨day, shelf, loans, ready, wait, rests⟩ := s
  unfold St.size at hl
  simp only at hl
  have x1 := compL_map (own := [9]) (hg := hName 9) (t := kYes) (f := k2 gLe (k2 gIx (kVar 9) (kD (.int 1))) (kVar 2)) (env := [.v (.dat R.d), .v (.dat (St.d ⟨day, shelf, loans, ready, wait, rests⟩)), .v (.dat (.int day)), .v (.dat (.int shelf)), .v (.dat (.tuple (loans.map dR))), .v (.dat (.tuple (ready.map dR))), .v (.dat (.tuple (wait.map .int))), .v (.dat (.tuple (rests.map dR))), .no, .no])
      dR (fun _ => true) (fun p => .dat (.bool (decide (p.2.1 ≤ day)))) loans (fun a _ => ⟨_, [.v (.dat R.d), .v (.dat (St.d ⟨day, shelf, loans, ready, wait, rests⟩)), .v (.dat (.int day)), .v (.dat (.int shelf)), .v (.dat (.tuple (loans.map dR))), .v (.dat (.tuple (ready.map dR))), .v (.dat (.tuple (wait.map .int))), .v (.dat (.tuple (rests.map dR))), .no, .v (.dat (dR a))], by simp <;> rfl, rfl, fun _ => ⟨_, by simp <;> rfl, rfl⟩, fun h => nomatch h⟩) (by omega)
  have x2 := compL_map (own := [9]) (hg := hName 9) (t := kB (k2 gLe (k2 gIx (kVar 9) (kD (.int 1))) (kVar 2))) (f := kVar 9) (env := [.v (.dat R.d), .v (.dat (St.d ⟨day, shelf, loans, ready, wait, rests⟩)), .v (.dat (.int day)), .v (.dat (.int shelf)), .v (.dat (.tuple (loans.map dR))), .v (.dat (.tuple (ready.map dR))), .v (.dat (.tuple (wait.map .int))), .v (.dat (.tuple (rests.map dR))), .no, .no])
      dR (fun p => decide (p.2 ≤ day)) (fun p => .dat (dR p)) ready (fun a _ => ⟨_, [.v (.dat R.d), .v (.dat (St.d ⟨day, shelf, loans, ready, wait, rests⟩)), .v (.dat (.int day)), .v (.dat (.int shelf)), .v (.dat (.tuple (loans.map dR))), .v (.dat (.tuple (ready.map dR))), .v (.dat (.tuple (wait.map .int))), .v (.dat (.tuple (rests.map dR))), .no, .v (.dat (dR a))], by simp <;> rfl, by simp, fun _ => ⟨_, by simp <;> rfl, rfl⟩, fun _ => rfl⟩) (by omega)
  have x3 : ∀ o : Sl, compL [9] (hName 9) (kB (k2 gGt (k2 gIx (kVar 9) (kD (.int 1))) (kVar 2))) (kVar 9) (ready.map dR) [.v (.dat R.d), .v (.dat (St.d ⟨day, shelf, loans, ready, wait, rests⟩)), .v (.dat (.int day)), .v (.dat (.int shelf)), .v (.dat (.tuple (loans.map dR))), .v (.dat (.tuple (ready.map dR))), .v (.dat (.tuple (wait.map .int))), .v (.dat (.tuple (rests.map dR))), o, .no] [] =
      .ok ((ready.filter fun p => decide (day < p.2)).map fun p => .dat (dR p)) [.v (.dat R.d), .v (.dat (St.d ⟨day, shelf, loans, ready, wait, rests⟩)), .v (.dat (.int day)), .v (.dat (.int shelf)), .v (.dat (.tuple (loans.map dR))), .v (.dat (.tuple (ready.map dR))), .v (.dat (.tuple (wait.map .int))), .v (.dat (.tuple (rests.map dR))), o, .no] := fun o =>
    compL_map dR (fun p => decide (day < p.2)) (fun p => .dat (dR p)) ready (fun a _ => ⟨_, [.v (.dat R.d), .v (.dat (St.d ⟨day, shelf, loans, ready, wait, rests⟩)), .v (.dat (.int day)), .v (.dat (.int shelf)), .v (.dat (.tuple (loans.map dR))), .v (.dat (.tuple (ready.map dR))), .v (.dat (.tuple (wait.map .int))), .v (.dat (.tuple (rests.map dR))), o, .v (.dat (dR a))], by simp <;> rfl, by simp, fun _ => ⟨_, by simp <;> rfl, rfl⟩, fun _ => rfl⟩) (by omega)
  have lp : ∀ (t : St) (over : List (Int × Int)), t.size < 800000 → ∃ z, loopS (hName 9) l_next_day_0 (over.map dR) [.v (.dat R.d), .v (.dat t.d), .v (.dat (.int day)), .v (.dat (.int shelf)), .v (.dat (.tuple (loans.map dR))), .v (.dat (.tuple (ready.map dR))), .v (.dat (.tuple (wait.map .int))), .v (.dat (.tuple (rests.map dR))), .v (.dat (.list (over.map dR))), .no] =
      .nx [.v (.dat R.d), .v (.dat (over.foldl (fun u _ => comeBack R u) t).d), .v (.dat (.int day)), .v (.dat (.int shelf)), .v (.dat (.tuple (loans.map dR))), .v (.dat (.tuple (ready.map dR))), .v (.dat (.tuple (wait.map .int))), .v (.dat (.tuple (rests.map dR))), .v (.dat (.list (over.map dR))), z] := fun t over ht => by
    obtain ⟨en, q, ⟨_, z, wz, rfl⟩⟩ := loopS_fold (hg := hName 9) (body := l_next_day_0) dR (fun (u : St) env => u.size < 800000 ∧ ∃ z : Sl, z.w = true ∧ env = [.v (.dat R.d), .v (.dat u.d), .v (.dat (.int day)), .v (.dat (.int shelf)), .v (.dat (.tuple (loans.map dR))), .v (.dat (.tuple (ready.map dR))), .v (.dat (.tuple (wait.map .int))), .v (.dat (.tuple (rests.map dR))), .v (.dat (.list (over.map dR))), z]) (fun u _ => comeBack R u) over t
      [.v (.dat R.d), .v (.dat t.d), .v (.dat (.int day)), .v (.dat (.int shelf)), .v (.dat (.tuple (loans.map dR))), .v (.dat (.tuple (ready.map dR))), .v (.dat (.tuple (wait.map .int))), .v (.dat (.tuple (rests.map dR))), .v (.dat (.list (over.map dR))), .no] (fun a _ u env ⟨hu, z, wz, e⟩ => by
        subst e
        have cb := come_back_ok R u (by omega)
        refine ⟨_, by simp [wz] <;> rfl, _, by unfold l_next_day_0; simp [cb, lendIn, backs] <;> rfl, by rw [size_cb]; exact hu, .v (.dat (dR a)), rfl, rfl⟩) ⟨ht, .no, rfl, rfl⟩
    exact ⟨z, q⟩
  have ft : (loans.filter fun _ => true) = loans := List.filter_eq_self.mpr fun _ _ => rfl
  rw [ft] at x1
  unfold d_next_day g_next_day nextDay
  cases e1 : loans.any (fun p => decide (p.2.1 ≤ day)) with
  | true =>
    simp only [St.d] at x1 ⊢
    simp [startE, List.replicate, wipeE, x1, lcEnd, finF, outsOf] at x1 ⊢
    simp [x1, lcEnd, e1, finF, outsOf, oD]
  | false =>
    obtain ⟨z, lpp⟩ := lp ⟨day + 1, shelf, loans, ready.filter fun p => decide (day < p.2), wait, rests⟩ (ready.filter fun p => decide (p.2 ≤ day)) (by
      unfold St.size
      simp only
      have := List.length_filter_le (fun p : Int × Int => decide (day < p.2)) ready
      omega)
    simp only [e1, Bool.false_eq_true, if_false, oD]
    generalize List.foldl (fun u _ => comeBack R u) ⟨day + 1, shelf, loans, ready.filter fun p => decide (day < p.2), wait, rests⟩ (ready.filter fun p => decide (p.2 ≤ day)) = T at lpp ⊢
    simp only [St.d] at x1 x2 x3 lpp ⊢
    simp [startE, List.replicate, wipeE, lcEnd, finF, outsOf] at x1 x2 x3 lpp ⊢
    simp [x1, x2, x3, lpp, wipeE, lcEnd, e1, fz_tup, finF, outsOf]
end DP
end

section
namespace DP
open PySem PySem.Spec PyProof.Rows L2 DP.G
theorem size_foldl (R : Ru) : ∀ (l : List (Int × Int)) (s : St), (l.foldl (fun u _ => comeBack R u) s).size = s.size
  | [], s => rfl
  | _ :: l, s => by
    rw [List.foldl_cons, size_foldl R l, size_cb]
theorem size_next {R : Ru} {s t : St} (h : nextDay R s = some t) : t.size ≤ s.size := by
  unfold nextDay at h
  split at h
  · cases h
  · cases h
    rw [size_foldl]
    unfold St.size
    simp only
    have := List.length_filter_le (fun p : Int × Int => decide (s.day < p.2)) s.ready
    omega
theorem size_passed {R : Ru} : ∀ {n : Nat} {s t : St}, passed R n s = some t → t.size ≤ s.size
  | 0, s, t, h => by cases h; exact Nat.le_refl _
  | n + 1, s, t, h => by
    unfold passed at h
    cases e : nextDay R s with
    | none => rw [e] at h; cases h
    | some u =>
      rw [e] at h
      exact Nat.le_trans (size_passed h) (size_next e)
theorem size_st {R : Ru} {s t : St} {e : Ev} (h : nextSt R s e = some t) : t.size ≤ s.size + 1 := by
  obtain ⟨day, shelf, loans, ready, wait, rests⟩ := s
  cases e with
  | bo r =>
    simp only [nextSt, borrowed] at h
    have l1 := wo_le ready r
    split at h
    · split at h
      · cases h
        unfold St.size
        simp only [(isK_perm r3 _).length_eq, List.length_append, List.length_cons, List.length_nil]
        omega
      · split at h
        · cases h
          unfold St.size
          simp only [(isK_perm r3 _).length_eq, List.length_append, List.length_cons, List.length_nil]
          omega
        · cases h
    · cases h
  | re r =>
    simp only [nextSt, returned] at h
    have l1 := wo_le loans r
    have l2 := wo_le rests r
    split at h
    · cases h
      rw [size_cb]
      unfold St.size
      simp only [List.length_append, List.length_cons, List.length_nil]
      omega
    · cases h
  | rn r =>
    simp only [nextSt, renewed] at h
    have l1 := wo_le loans r
    split at h
    · cases h
    · split at h
      · cases h
        unfold St.size
        simp only [(isK_perm r3 _).length_eq, List.length_append, List.length_cons, List.length_nil]
        omega
      · cases h
  | wa r =>
    simp only [nextSt, waited] at h
    split at h
    · split at h
      · cases h
        rw [size_cb]
        unfold St.size
        simp only [List.length_append, List.length_cons, List.length_nil]
        omega
      · cases h
        unfold St.size
        simp only [List.length_append, List.length_cons, List.length_nil]
        omega
    · cases h
  | le r =>
    simp only [nextSt, left] at h
    split at h
    · cases h
      unfold St.size
      have := List.length_filter_le (fun x => decide (x ≠ r)) wait
      simp only
      omega
    · split at h
      · cases h
        rw [size_cb]
        unfold St.size
        have l1 := wo_le ready r
        simp only
        omega
      · cases h
  | da n =>
    have := size_passed (R := R) h
    omega
@[simp] theorem isN_st (s : St) : isN s.d = false := (rfl)
theorem passed_go (R : Ru) (n0 : Sl) : ∀ (n : Nat) (lo : Int) (s : St) (z : Sl), z.w = true → s.size < 800000 → ∃ z', loopS (hName 3) l_passed_0 ((List.range n).map fun i : Nat => PyData.int (lo + i)) [.v (.dat R.d), .v (.dat s.d), n0, z] = (match passed R n s with
    | some t => .nx [.v (.dat R.d), .v (.dat t.d), n0, z']
    | none => .rt (.dat .none) [.v (.dat R.d), .v (.dat .none), n0, z'])
  | 0, lo, s, z, _, _ => ⟨z, rfl⟩
  | n + 1, lo, s, z, wz, hs => by
    have nd := next_day_ok R s hs
    have er : ((List.range (n + 1)).map fun i : Nat => PyData.int (lo + i)) = .int lo :: ((List.range n).map fun i : Nat => PyData.int ((lo + 1) + i)) := by
      rw [List.range_succ_eq_map, List.map_cons, List.map_map]
      congr 1
      · simp
      · refine List.map_congr_left fun i _ => ?_
        show PyData.int (lo + ((i + 1 : Nat) : Int)) = PyData.int (lo + 1 + i)
        congr 1
        omega
    rw [er, loopS]
    unfold passed
    cases e : nextDay R s with
    | none =>
      rw [e] at nd
      refine ⟨.v (.dat (.int lo)), ?_⟩
      unfold l_passed_0
      simp [wz, nd, lendIn, backs, oD]
    | some t =>
      rw [e] at nd
      obtain ⟨z', q⟩ := passed_go R n0 n (lo + 1) t (.v (.dat (.int lo))) rfl (by have := size_next e; omega)
      refine ⟨z', ?_⟩
      rw [← q]
      have b : l_passed_0 [.v (.dat R.d), .v (.dat s.d), n0, .v (.dat (.int lo))] = .nx [.v (.dat R.d), .v (.dat t.d), n0, .v (.dat (.int lo))] := by
        unfold l_passed_0
        simp [nd, lendIn, backs, oD]
      have h : hName 3 (.dat (.int lo)) [.v (.dat R.d), .v (.dat s.d), n0, z] = some [.v (.dat R.d), .v (.dat s.d), n0, .v (.dat (.int lo))] := by simp [wz]
      rw [h]
      simp only [b]
theorem passed_ok (R : Ru) (s : St) (n : Nat) (hn : n < 1000000) (hl : s.size < 800000) : d_passed [.dat R.d, .dat s.d, .dat (.int n)] = .ok (.dat (oD (passed R n s))) [] := by
  obtain ⟨m, hm⟩ : ∃ m : Int, m = (n : Int) := ⟨_, rfl⟩
  rw [← hm]
  obtain ⟨z, q⟩ := passed_go R (.v (.dat (.int m))) n 0 s .no rfl hl
  have hb : (-4611686018427387904 ≤ m ∧ m < 4611686018427387904) := by omega
  have ht : m.toNat = n := by omega
  have q' : loopS (hName 3) l_passed_0 (rngD 0 m.toNat) [.v (.dat R.d), .v (.dat s.d), .v (.dat (.int m)), .no] = (match passed R n s with
    | some t => .nx [.v (.dat R.d), .v (.dat t.d), .v (.dat (.int m)), z]
    | none => .rt (.dat .none) [.v (.dat R.d), .v (.dat .none), .v (.dat (.int m)), z]) := by rw [ht]; exact q
  clear q hm hn ht
  unfold d_passed g_passed
  cases e : passed R n s with
  | none =>
    rw [e] at q'
    simp [startE, List.replicate, hb, q', finF, outsOf, oD]
  | some t =>
    rw [e] at q'
    simp [startE, List.replicate, hb, q', finF, outsOf, oD]
theorem gEq_str {a b : Str} {r : Bool} (ha : SeqAt.shaped (.str a) = true) (hb : SeqAt.shaped (.str b) = true) (he : PyData.eqv (.str a) (.str b) = r) : gEq (.str a) (.str b) = some (.dat (.bool r)) := by rw [gEq_of ha hb, he]
theorem sh_borrow : SeqAt.shaped (.str "borrow") = true := by decide +kernel
theorem sh_return : SeqAt.shaped (.str "return") = true := by decide +kernel
theorem sh_renew : SeqAt.shaped (.str "renew") = true := by decide +kernel
theorem sh_wait : SeqAt.shaped (.str "wait") = true := by decide +kernel
theorem sh_leave : SeqAt.shaped (.str "leave") = true := by decide +kernel
theorem sh_days : SeqAt.shaped (.str "days") = true := by decide +kernel
@[simp] theorem w_borrow_borrow : gEq (.str "borrow") (.str "borrow") = some (.dat (.bool true)) := gEq_str sh_borrow sh_borrow (by decide +kernel)
@[simp] theorem w_borrow_return : gEq (.str "borrow") (.str "return") = some (.dat (.bool false)) := gEq_str sh_borrow sh_return (by decide +kernel)
@[simp] theorem w_borrow_renew : gEq (.str "borrow") (.str "renew") = some (.dat (.bool false)) := gEq_str sh_borrow sh_renew (by decide +kernel)
@[simp] theorem w_borrow_wait : gEq (.str "borrow") (.str "wait") = some (.dat (.bool false)) := gEq_str sh_borrow sh_wait (by decide +kernel)
@[simp] theorem w_borrow_leave : gEq (.str "borrow") (.str "leave") = some (.dat (.bool false)) := gEq_str sh_borrow sh_leave (by decide +kernel)
@[simp] theorem w_borrow_days : gEq (.str "borrow") (.str "days") = some (.dat (.bool false)) := gEq_str sh_borrow sh_days (by decide +kernel)
@[simp] theorem w_return_borrow : gEq (.str "return") (.str "borrow") = some (.dat (.bool false)) := gEq_str sh_return sh_borrow (by decide +kernel)
@[simp] theorem w_return_return : gEq (.str "return") (.str "return") = some (.dat (.bool true)) := gEq_str sh_return sh_return (by decide +kernel)
@[simp] theorem w_return_renew : gEq (.str "return") (.str "renew") = some (.dat (.bool false)) := gEq_str sh_return sh_renew (by decide +kernel)
@[simp] theorem w_return_wait : gEq (.str "return") (.str "wait") = some (.dat (.bool false)) := gEq_str sh_return sh_wait (by decide +kernel)
@[simp] theorem w_return_leave : gEq (.str "return") (.str "leave") = some (.dat (.bool false)) := gEq_str sh_return sh_leave (by decide +kernel)
@[simp] theorem w_return_days : gEq (.str "return") (.str "days") = some (.dat (.bool false)) := gEq_str sh_return sh_days (by decide +kernel)
@[simp] theorem w_renew_borrow : gEq (.str "renew") (.str "borrow") = some (.dat (.bool false)) := gEq_str sh_renew sh_borrow (by decide +kernel)
@[simp] theorem w_renew_return : gEq (.str "renew") (.str "return") = some (.dat (.bool false)) := gEq_str sh_renew sh_return (by decide +kernel)
@[simp] theorem w_renew_renew : gEq (.str "renew") (.str "renew") = some (.dat (.bool true)) := gEq_str sh_renew sh_renew (by decide +kernel)
@[simp] theorem w_renew_wait : gEq (.str "renew") (.str "wait") = some (.dat (.bool false)) := gEq_str sh_renew sh_wait (by decide +kernel)
@[simp] theorem w_renew_leave : gEq (.str "renew") (.str "leave") = some (.dat (.bool false)) := gEq_str sh_renew sh_leave (by decide +kernel)
@[simp] theorem w_renew_days : gEq (.str "renew") (.str "days") = some (.dat (.bool false)) := gEq_str sh_renew sh_days (by decide +kernel)
@[simp] theorem w_wait_borrow : gEq (.str "wait") (.str "borrow") = some (.dat (.bool false)) := gEq_str sh_wait sh_borrow (by decide +kernel)
@[simp] theorem w_wait_return : gEq (.str "wait") (.str "return") = some (.dat (.bool false)) := gEq_str sh_wait sh_return (by decide +kernel)
@[simp] theorem w_wait_renew : gEq (.str "wait") (.str "renew") = some (.dat (.bool false)) := gEq_str sh_wait sh_renew (by decide +kernel)
@[simp] theorem w_wait_wait : gEq (.str "wait") (.str "wait") = some (.dat (.bool true)) := gEq_str sh_wait sh_wait (by decide +kernel)
@[simp] theorem w_wait_leave : gEq (.str "wait") (.str "leave") = some (.dat (.bool false)) := gEq_str sh_wait sh_leave (by decide +kernel)
@[simp] theorem w_wait_days : gEq (.str "wait") (.str "days") = some (.dat (.bool false)) := gEq_str sh_wait sh_days (by decide +kernel)
@[simp] theorem w_leave_borrow : gEq (.str "leave") (.str "borrow") = some (.dat (.bool false)) := gEq_str sh_leave sh_borrow (by decide +kernel)
@[simp] theorem w_leave_return : gEq (.str "leave") (.str "return") = some (.dat (.bool false)) := gEq_str sh_leave sh_return (by decide +kernel)
@[simp] theorem w_leave_renew : gEq (.str "leave") (.str "renew") = some (.dat (.bool false)) := gEq_str sh_leave sh_renew (by decide +kernel)
@[simp] theorem w_leave_wait : gEq (.str "leave") (.str "wait") = some (.dat (.bool false)) := gEq_str sh_leave sh_wait (by decide +kernel)
@[simp] theorem w_leave_leave : gEq (.str "leave") (.str "leave") = some (.dat (.bool true)) := gEq_str sh_leave sh_leave (by decide +kernel)
@[simp] theorem w_leave_days : gEq (.str "leave") (.str "days") = some (.dat (.bool false)) := gEq_str sh_leave sh_days (by decide +kernel)
@[simp] theorem w_days_borrow : gEq (.str "days") (.str "borrow") = some (.dat (.bool false)) := gEq_str sh_days sh_borrow (by decide +kernel)
@[simp] theorem w_days_return : gEq (.str "days") (.str "return") = some (.dat (.bool false)) := gEq_str sh_days sh_return (by decide +kernel)
@[simp] theorem w_days_renew : gEq (.str "days") (.str "renew") = some (.dat (.bool false)) := gEq_str sh_days sh_renew (by decide +kernel)
@[simp] theorem w_days_wait : gEq (.str "days") (.str "wait") = some (.dat (.bool false)) := gEq_str sh_days sh_wait (by decide +kernel)
@[simp] theorem w_days_leave : gEq (.str "days") (.str "leave") = some (.dat (.bool false)) := gEq_str sh_days sh_leave (by decide +kernel)
@[simp] theorem w_days_days : gEq (.str "days") (.str "days") = some (.dat (.bool true)) := gEq_str sh_days sh_days (by decide +kernel)
def Ev.okn : Ev → Prop
  | .da n => n < 1000000
  | _ => True
theorem next_da (R s : PyData) (z : PyData) (m : Int) (q : d_passed [.dat R, .dat s, .dat (.int m)] = .ok (.dat z) []) : d_next_state [.dat R, .dat s, .dat (.tuple [.str "days", .int m])] = .ok (.dat z) [] := by
  unfold d_next_state g_next_state
  simp [startE, List.replicate, q, lendIn, backs, finF, outsOf]
theorem next_state_ok (R : Ru) (s : St) (e : Ev) (he : e.okn) (hl : s.size < 800000) : d_next_state [.dat R.d, .dat s.d, .dat e.d] = .ok (.dat (oD (nextSt R s e))) [] := by
  cases e with
  | bo r =>
    unfold d_next_state g_next_state
    have q := borrowed_ok R s r (by omega)
    simp [startE, List.replicate, Ev.d, q, lendIn, backs, finF, outsOf, nextSt]
  | re r =>
    unfold d_next_state g_next_state
    have q := returned_ok R s r hl
    simp [startE, List.replicate, Ev.d, q, lendIn, backs, finF, outsOf, nextSt]
  | rn r =>
    unfold d_next_state g_next_state
    have q := renewed_ok R s r (by omega)
    simp [startE, List.replicate, Ev.d, q, lendIn, backs, finF, outsOf, nextSt]
  | wa r =>
    unfold d_next_state g_next_state
    have q := waited_ok R s r hl
    simp [startE, List.replicate, Ev.d, q, lendIn, backs, finF, outsOf, nextSt]
  | le r =>
    unfold d_next_state g_next_state
    have q := left_ok R s r hl
    simp [startE, List.replicate, Ev.d, q, lendIn, backs, finF, outsOf, nextSt]
  | da n => exact next_da R.d s.d _ _ (passed_ok R s n (by simpa only [Ev.okn] using he) hl)
end DP
end

section
namespace DP
open PySem PySem.Spec PyProof.Rows L2 DP.G
theorem first_ok (R : Ru) : d_first_state [.dat R.d] = .ok (.dat (first R).d) [] := by
  unfold d_first_state g_first_state
  simp [startE, List.replicate, fz_tup, finF, outsOf, first, St.d]
def wS (s : Sl) : Prop := s.w = true
theorem run_body (R : Ru) (H : Sl) (s : St) (e : Ev) (he : e.okn) (hl : s.size < 800000) (k : Nat) (x y : Sl) (wx : x.w = true) (wy : y.w = true) :
    ∃ e1, hTup 2 (hCons (hName 3) (hCons (hName 4) hNil)) (.dat (.tuple [.int k, e.d])) [.v (.dat R.d), H, .v (.dat s.d), x, y] = some e1 ∧ l_run_of_0 e1 = (match nextSt R s e with
      | some t => .nx [.v (.dat R.d), H, .v (.dat t.d), .v (.dat (.int k)), .v (.dat e.d)]
      | none => .rt (.dat (.tuple [.none, .int k])) [.v (.dat R.d), H, .v (.dat .none), .v (.dat (.int k)), .v (.dat e.d)]) := by
  have q := next_state_ok R s e he hl
  refine ⟨[.v (.dat R.d), H, .v (.dat s.d), .v (.dat (.int k)), .v (.dat e.d)], by simp [wx, wy], ?_⟩
  generalize nextSt R s e = z at q ⊢
  generalize e.d = ed at q ⊢
  unfold l_run_of_0
  cases z with
  | none => simp [q, lendIn, backs, oD, fz_tup]
  | some t => simp [q, lendIn, backs, oD, fz_tup]
theorem run_go (R : Ru) (H : Sl) : ∀ (es : List Ev) (s : St) (k : Nat) (x y : Sl), x.w = true → y.w = true → (∀ e ∈ es, e.okn) → s.size + es.length < 800000 → ∃ x' y', (loopS (hTup 2 (hCons (hName 3) (hCons (hName 4) hNil))) l_run_of_0 (enumD k (es.map Ev.d)) [.v (.dat R.d), H, .v (.dat s.d), x, y]) = (match runFrom R s es k with
    | .ok t => .nx [.v (.dat R.d), H, .v (.dat t.d), x', y']
    | .error j => .rt (.dat (.tuple [.none, .int j])) [.v (.dat R.d), H, .v (.dat .none), x', y'])
  | [], s, k, x, y, _, _, _, _ => ⟨x, y, rfl⟩
  | e :: es, s, k, x, y, wx, wy, he, hl => by
    simp only [List.length_cons] at hl
    obtain ⟨e1, h1, h2⟩ := run_body R H s e (he e List.mem_cons_self) (by omega) k x y wx wy
    rw [List.map_cons, enumD, loopS, h1]
    unfold runFrom
    cases z : nextSt R s e with
    | none =>
      rw [z] at h2
      exact ⟨.v (.dat (.int k)), .v (.dat e.d), by simp only [h2]⟩
    | some t =>
      rw [z] at h2
      have sz := size_st z
      obtain ⟨x', y', q⟩ := run_go R H es t (k + 1) (.v (.dat (.int k))) (.v (.dat e.d)) rfl rfl (fun f hf => he f (List.mem_cons_of_mem _ hf)) (by omega)
      refine ⟨x', y', ?_⟩
      simp only [h2]
      exact q
theorem run_shell {F : Env → RS} {R S : PyData} {H : Sl} {z : Except Nat St} {x' y' : Sl} (f : d_first_state [.dat R] = .ok (.dat S) [])
    (q : F [.v (.dat R), H, .v (.dat S), .no, .no] = (match z with | .ok t => .nx [.v (.dat R), H, .v (.dat t.d), x', y'] | .error j => .rt (.dat (.tuple [.none, .int j])) [.v (.dat R), H, .v (.dat .none), x', y'])) :
    finF [false, false] (kSq (kAs (kCall [false] [none] d_first_state (kCons (kVar 0) (kNil))) (hName 2)) (kSq F (kRt (kMk .tup (kCons (kVar 2) (kCons (kD .none) (kNil)))))) [.v (.dat R), H, .no, .no, .no]) = .ok (.dat (runD z)) [] := by
  cases z with
  | ok t => simp [f, q, lendIn, backs, fz_tup, finF, outsOf, runD]
  | error j => simp [f, q, lendIn, backs, fz_tup, finF, outsOf, runD]
/-- a history: a tuple or a list of events -/
inductive His (es : List Ev) : PyData → Prop
  | tup : His es (.tuple (es.map Ev.d))
  | lst : His es (.list (es.map Ev.d))
theorem run_of_ok (R : Ru) {es : List Ev} {h : PyData} (hh : His es h) (he : ∀ e ∈ es, e.okn) (hl : es.length < 700000) : d_run_of [.dat R.d, .dat h] = .ok (.dat (runD (runFrom R (first R) es 0))) [] := by
  obtain ⟨x', y', q⟩ := run_go R (.v (.dat h)) es (first R) 0 .no .no rfl rfl he (by unfold first St.size; simp; omega)
  have f := first_ok R
  generalize runFrom R (first R) es 0 = z at q ⊢
  refine run_shell (F := kFor (kEnumA (kCons (kVar 1) (kNil))) (hTup 2 (hCons (hName 3) (hCons (hName 4) (hNil)))) l_run_of_0) (x' := x') (y' := y') f ?_
  generalize (first R).d = S at q ⊢
  have e : kEnumA (kCons (kVar 1) kNil) [.v (.dat R.d), .v (.dat h), .v (.dat S), .no, .no] = .ok (enumD 0 (es.map Ev.d)) [.v (.dat R.d), .v (.dat h), .v (.dat S), .no, .no] := by
    cases hh <;> simp
  rw [kFor_eq, e, st_ok]
  exact q
theorem run_shd : ∀ z : Except Nat St, True := fun _ => trivial
/-- readers and days within bounds -/
def Ev.okv : Ev → Prop
  | .bo r => 0 ≤ r ∧ r ≤ 999
  | .re r => 0 ≤ r ∧ r ≤ 999
  | .rn r => 0 ≤ r ∧ r ≤ 999
  | .wa r => 0 ≤ r ∧ r ≤ 999
  | .le r => 0 ≤ r ∧ r ≤ 999
  | .da n => 1 ≤ n ∧ n ≤ 1000
theorem Ev.okv.n {e : Ev} (h : e.okv) : e.okn := by
  cases e with
  | da n =>
    have h' : 1 ≤ n ∧ n ≤ 1000 := by simpa only [Ev.okv] using h
    have : n < 1000000 := by omega
    simpa only [Ev.okn] using this
  | _ => simp only [Ev.okn]
@[simp] theorem isi_strs (x : Str) : gIsi "str" (.str x) = some (.dat (.bool true)) := (rfl)
theorem is_reader_ok {r : Int} (h : 0 ≤ r ∧ r ≤ 999) : d_is_reader [.dat (.int r)] = .ok (.dat (.bool true)) [] := by
  have q := is_integer_ok r 0 999
  rw [decide_eq_true h.1, decide_eq_true h.2] at q
  unfold d_is_reader g_is_reader
  simp [startE, c_MAX_READER, q, lendIn, backs, finF, outsOf]
theorem in_words : ∀ w ∈ [(Str.ofString "borrow"), "return", "renew", "wait", "leave"], gIn (.str w) c_WORDS = some (.dat (.bool true)) := by
  have h : ∀ w ∈ [(Str.ofString "borrow"), "return", "renew", "wait", "leave"], inD (.str w) [.str "borrow", .str "return", .str "renew", .str "wait", .str "leave"] = true := by decide +kernel
  intro w hw
  show (if flatD (.str w) = true ∧ ([PyData.str "borrow", .str "return", .str "renew", .str "wait", .str "leave"]).all flatD = true then some (O.dat (.bool (inD (.str w) _))) else none) = _
  rw [if_pos ⟨rfl, rfl⟩, h w hw]
@[simp] theorem wd_days_b : gEq (.str "borrow") (.str "days") = some (.dat (.bool false)) := w_borrow_days
theorem is_event_ok {e : Ev} (h : e.okv) : d_is_event [.dat e.d] = .ok (.dat (.bool true)) [] := by
  unfold d_is_event g_is_event
  cases e with
  | da n =>
    have h' : 1 ≤ n ∧ n ≤ 1000 := by simpa only [Ev.okv] using h
    have q := is_integer_ok (n : Int) 1 1000
    have h1 : (1 : Int) ≤ n := by omega
    have h2 : (n : Int) ≤ 1000 := by omega
    rw [decide_eq_true h1, decide_eq_true h2] at q
    clear h h' h1 h2
    simp only [Ev.d]
    generalize (n : Int) = m at q ⊢
    simp [startE, c_MAX_DAYS, q, lendIn, backs, finF, outsOf]
  | bo r => have q := is_reader_ok (by simpa only [Ev.okv] using h); have i := in_words "borrow" (by simp); simp [startE, Ev.d, i, q, lendIn, backs, finF, outsOf]
  | re r => have q := is_reader_ok (by simpa only [Ev.okv] using h); have i := in_words "return" (by simp); simp [startE, Ev.d, i, q, lendIn, backs, finF, outsOf]
  | rn r => have q := is_reader_ok (by simpa only [Ev.okv] using h); have i := in_words "renew" (by simp); simp [startE, Ev.d, i, q, lendIn, backs, finF, outsOf]
  | wa r => have q := is_reader_ok (by simpa only [Ev.okv] using h); have i := in_words "wait" (by simp); simp [startE, Ev.d, i, q, lendIn, backs, finF, outsOf]
  | le r => have q := is_reader_ok (by simpa only [Ev.okv] using h); have i := in_words "leave" (by simp); simp [startE, Ev.d, i, q, lendIn, backs, finF, outsOf]
@[simp] theorem gAll_map {α : Type} (p : α → Bool) (l : List α) : gAll [.list (l.map fun a => .bool (p a))] = some (.dat (.bool (l.all p))) := by
  have e : l.map (fun a => PyData.bool (p a)) = (l.map p).map .bool := by rw [List.map_map]; rfl
  show (blsD (l.map fun a => .bool (p a))).map _ = _
  rw [e, blsD_map]
  simp [List.all_map]
theorem is_history_ok {es : List Ev} (h : ∀ e ∈ es, e.okv) (hl : es.length ≤ 600) : d_is_history [.dat (.tuple (es.map Ev.d))] = .ok (.dat (.bool true)) [] := by
  have x := compL_map (own := [1]) (hg := hName 1) (t := kYes) (f := kCall [false] [none] d_is_event (kCons (kVar 1) (kNil))) (env := [.v (.dat (.tuple (es.map Ev.d))), .no])
    Ev.d (fun _ => true) (fun _ => .dat (.bool true)) es (fun e me => ⟨_, [.v (.dat (.tuple (es.map Ev.d))), .v (.dat e.d)], by simp <;> rfl, rfl, fun _ => ⟨_, by have q := is_event_ok (h e me); simp [q, lendIn, backs] <;> rfl, rfl⟩, fun h => nomatch h⟩) (by omega)
  have ft : (es.filter fun _ => true) = es := List.filter_eq_self.mpr fun _ _ => rfl
  rw [ft] at x
  have hl' : ((es.length : Int) ≤ 600) := by omega
  have ga : gAll [.list (es.map fun _ => .bool true)] = some (.dat (.bool (es.all fun _ => true))) := gAll_map (fun _ => true) es
  have td := toDs_bools (fun _ => true) es
  unfold d_is_history g_is_history
  simp [startE, List.replicate, c_MAX_EVENTS, hl', hl, wipeE, x, lcEnd, td, ga, finF, outsOf]
theorem require_history_ok {es : List Ev} (h : ∀ e ∈ es, e.okv) (hl : es.length ≤ 600) : d_require_history [.dat (.tuple (es.map Ev.d))] = .ok (.dat .none) [] := by
  have q := is_history_ok h hl
  unfold d_require_history g_require_history
  simp [startE, q, lendIn, backs, finF, outsOf]
theorem first_refused_ok {R : Ru} (ok : R.ok) {es : List Ev} (h : ∀ e ∈ es, e.okv) (hl : es.length ≤ 600) : d_first_refused [.dat R.d, .dat (.tuple (es.map Ev.d))] = .ok (.dat (match runFrom R (first R) es 0 with | .ok _ => .none | .error j => .int j)) [] := by
  have q1 := require_rules_ok ok
  have q2 := require_history_ok h hl
  have q3 := run_of_ok R (.tup (es := es)) (fun e he => (h e he).n) (by omega)
  generalize runFrom R (first R) es 0 = z at q3 ⊢
  unfold d_first_refused g_first_refused
  cases z with
  | ok t => simp [startE, q1, q2, q3, lendIn, backs, finF, outsOf, runD]
  | error j => simp [startE, q1, q2, q3, lendIn, backs, finF, outsOf, runD]
/-- a stand: five of the six -/
def St.d5 (s : St) : PyData := .tuple [.int s.day, .int s.shelf, .tuple (s.loans.map dR), .tuple (s.ready.map dR), .tuple (s.wait.map .int)]
theorem stand_ok {R : Ru} (ok : R.ok) {es : List Ev} (h : ∀ e ∈ es, e.okv) (hl : es.length ≤ 600) {t : St} (ht : runFrom R (first R) es 0 = .ok t) : d_stand [.dat R.d, .dat (.tuple (es.map Ev.d))] = .ok (.dat t.d5) [] := by
  have q1 := require_rules_ok ok
  have q2 := require_history_ok h hl
  have q3 := run_of_ok R (.tup (es := es)) (fun e he => (h e he).n) (by omega)
  rw [ht] at q3
  have q4 : d_state_behind [.dat R.d, .dat (.tuple (es.map Ev.d))] = .ok (.dat t.d) [] := by
    unfold d_state_behind g_state_behind
    simp [startE, List.replicate, q3, lendIn, backs, finF, outsOf, runD]
  have cut : cutD [.int t.day, .int t.shelf, .tuple (t.loans.map dR), .tuple (t.ready.map dR), .tuple (t.wait.map .int), .tuple (t.rests.map dR)] none (some 5) = [.int t.day, .int t.shelf, .tuple (t.loans.map dR), .tuple (t.ready.map dR), .tuple (t.wait.map .int)] := rfl
  unfold d_stand g_stand
  simp only [St.d] at q4
  simp [startE, q1, q2, q4, cut, lendIn, backs, finF, outsOf, St.d5]
end DP
end

section
namespace DP
open PySem PySem.Spec PyProof.Rows L2 DP.G
/-! ### the law's model -/
def lp3 (p : Int × Int × Int) : Int × PyData := (p.1, .list [.int p.2.1, .int p.2.2])
def lp2 (p : Int × Int) : Int × PyData := (p.1, .int p.2)
def lsO (t : St) : O := .node .lst [.dat (.int t.day), .dat (.int t.shelf), dI (t.loans.map lp3), dI (t.ready.map lp2), .node .lst ((t.wait.map PyData.int).map .dat), dI (t.rests.map lp2)]
section
variable {β : Type}
def putA (l : List (Int × β)) (r : Int) (v : β) : List (Int × β) := if (l.any fun p => decide (p.1 = r)) = true then l.map (fun p => if p.1 = r then (p.1, v) else p) else l ++ [(r, v)]
theorem getI_map {g : Int × β → Int × PyData} (hg : ∀ p, (g p).1 = p.1) (r : Int) : ∀ l : List (Int × β), getI (l.map g) r = (rowOf l r).map fun p => (g p).2
  | [] => rfl
  | p :: l => by
    have ih := getI_map hg r l
    unfold getI rowOf at ih ⊢
    rw [List.map_cons]
    by_cases e : p.1 = r
    · have e' : (g p).1 = r := (hg p).trans e
      simp [List.find?_cons, e, e']
    · have e' : ¬ (g p).1 = r := fun z => e ((hg p).symm.trans z)
      simp only [List.find?_cons, e, e', decide_false] at ih ⊢
      exact ih
theorem dropI_map {g : Int × β → Int × PyData} (hg : ∀ p, (g p).1 = p.1) (r : Int) : ∀ l : List (Int × β), dropI (l.map g) r = (wo l r).map g
  | [] => rfl
  | p :: l => by
    have ih := dropI_map hg r l
    unfold dropI wo at ih ⊢
    rw [List.map_cons]
    by_cases e : p.1 = r
    · have e' : (g p).1 = r := (hg p).trans e
      rw [List.filter_cons_of_neg (by simp [e']), List.filter_cons_of_neg (by simp [e]), ih]
    · have e' : ¬ (g p).1 = r := fun z => e ((hg p).symm.trans z)
      rw [List.filter_cons_of_pos (by simpa using e'), List.filter_cons_of_pos (by simpa using e), ih, List.map_cons]
theorem putI_map {g : Int × β → Int × PyData} (hg : ∀ p, (g p).1 = p.1) (hk : ∀ k v, g (k, v) = (k, (g (0, v)).2)) (r : Int) (v : β) (l : List (Int × β)) : putI (l.map g) r (g (0, v)).2 = (putA l r v).map g := by
  unfold putI putA
  have e1 : ((l.map g).any fun p => decide (p.1 = r)) = l.any fun p => decide (p.1 = r) := by
    rw [List.any_map]
    congr 1
    funext p
    simp only [Function.comp, hg p]
  rw [e1]
  split
  · rw [List.map_map, List.map_map]
    refine List.map_congr_left fun p _ => ?_
    simp only [Function.comp, hg p]
    split
    · rw [hk p.1 v]
    · rfl
  · rw [List.map_append, List.map_cons, List.map_nil, hk r v]
end
@[simp] theorem getI3 (l : List (Int × Int × Int)) (r : Int) : getI (l.map lp3) r = (rowOf l r).map fun p => .list [.int p.2.1, .int p.2.2] := getI_map (g := lp3) (fun _ => rfl) r l
@[simp] theorem getI2 (l : List (Int × Int)) (r : Int) : getI (l.map lp2) r = (rowOf l r).map fun p => .int p.2 := getI_map (g := lp2) (fun _ => rfl) r l
@[simp] theorem dropI3 (l : List (Int × Int × Int)) (r : Int) : dropI (l.map lp3) r = (wo l r).map lp3 := dropI_map (g := lp3) (fun _ => rfl) r l
@[simp] theorem dropI2 (l : List (Int × Int)) (r : Int) : dropI (l.map lp2) r = (wo l r).map lp2 := dropI_map (g := lp2) (fun _ => rfl) r l
@[simp] theorem putI3 (l : List (Int × Int × Int)) (r d n : Int) : putI (l.map lp3) r (.list [.int d, .int n]) = (putA l r (d, n)).map lp3 := putI_map (g := lp3) (fun _ => rfl) (fun _ _ => rfl) r (d, n) l
@[simp] theorem putI2 (l : List (Int × Int)) (r x : Int) : putI (l.map lp2) r (.int x) = (putA l r x).map lp2 := putI_map (g := lp2) (fun _ => rfl) (fun _ _ => rfl) r x l
theorem putA_le {β : Type} (l : List (Int × β)) (r : Int) (v : β) : (putA l r v).length ≤ l.length + 1 := by
  unfold putA
  split <;> simp
def lBack (R : Ru) (t : St) : St := match t.wait with
  | [] => { t with shelf := t.shelf + 1 }
  | w :: ws => { t with ready := putA t.ready w (t.day + R.h), wait := ws }
def lMay (t : St) (r : Int) : Bool := (rowOf t.loans r).isNone && decide (((rowOf t.rests r).map fun p => p.2).getD 0 ≤ t.day)
def lBorrow (R : Ru) (t : St) (r : Int) : Bool × St :=
  if lMay t r = true then
    if (rowOf t.ready r).isSome = true then (true, { t with ready := wo t.ready r, loans := putA t.loans r (t.day + R.l, 0) })
    else if t.shelf = 0 then (false, t) else (true, { t with shelf := t.shelf - 1, loans := putA t.loans r (t.day + R.l, 0) })
  else (false, t)
def lRenew (R : Ru) (t : St) (r : Int) : Bool × St := match rowOf t.loans r with
  | none => (false, t)
  | some (_, due, n) => if t.wait = [] ∧ ¬ n = R.r ∧ due - t.day ≤ R.w then (true, { t with loans := putA t.loans r (due + R.l, n + 1) }) else (false, t)
def lWait (R : Ru) (t : St) (r : Int) : Bool × St :=
  if lMay t r = true ∧ (rowOf t.ready r).isSome = false ∧ r ∉ t.wait then
    if 0 < t.shelf then (true, lBack R { t with shelf := t.shelf - 1, wait := t.wait ++ [r] }) else (true, { t with wait := t.wait ++ [r] })
  else (false, t)
def lLeave (R : Ru) (t : St) (r : Int) : Bool × St :=
  if r ∈ t.wait then (true, { t with wait := t.wait.erase r })
  else if (rowOf t.ready r).isSome = true then (true, lBack R { t with ready := wo t.ready r }) else (false, t)
def lReturn (R : Ru) (t : St) (r : Int) : Bool × St :=
  if (rowOf t.loans r).isSome = true then (true, lBack R { t with loans := wo t.loans r, rests := putA t.rests r (t.day + R.s) }) else (false, t)
@[simp] theorem get_nil (o : O) : o.get [] = some o := by cases o <;> rfl
@[simp] theorem put_nil (o z : O) : o.put [] z = z := by cases o <;> rfl
@[simp] theorem toD_ints' (l : List Int) : (O.node .lst (l.map (O.dat ∘ PyData.int))).toD = some (.list (l.map .int)) := by rw [toD_lst, ← List.map_map, toDs_map]; rfl
@[simp] theorem toD_ints (l : List Int) : (O.node .lst (l.map fun a => O.dat (.int a))).toD = some (.list (l.map .int)) := by rw [toD_lst, toDs_ints]; rfl
theorem shd_intsL (ns : List Int) : Shd 1 (.list (ns.map .int)) := shd_lst fun d hd => by
  obtain ⟨i, _, rfl⟩ := List.mem_map.mp hd
  exact shd_int i
@[simp] theorem eq_lnil : gEq (.list []) (.list []) = some (.dat (.bool true)) := (rfl)
@[simp] theorem eq_lcons (a : Int) (l : List Int) : gEq (.list (.int a :: l.map .int)) (.list []) = some (.dat (.bool false)) := by
  have q := gEq_of (e := .list []) (Shd.shaped (n := 1) (shd_intsL (a :: l))) (by rfl)
  rw [List.map_cons] at q
  rw [q]
  simp [PyData.eqv, PyData.eqvAll]
@[simp] theorem ne_lnil : gNe (.list []) (.list []) = some (.dat (.bool false)) := (rfl)
@[simp] theorem ne_lcons (a : Int) (l : List Int) : gNe (.list (.int a :: l.map .int)) (.list []) = some (.dat (.bool true)) := by
  have q := gNe_of (e := .list []) (Shd.shaped (n := 1) (shd_intsL (a :: l))) (by rfl)
  rw [List.map_cons] at q
  rw [q]
  simp [PyData.eqv, PyData.eqvAll]
theorem in_intsL (r : Int) (l : List Int) : gIn (.int r) (.list (l.map .int)) = some (.dat (.bool (decide (r ∈ l)))) := by
  have h1 := Shd.shaped (n := 1) (shd_intsL l)
  show (if SeqAt.shaped (.int r) = true ∧ SeqAt.shaped (.list (l.map .int)) = true then some (O.dat (.bool (inD (.int r) (l.map .int)))) else none) = _
  rw [if_pos ⟨rfl, h1⟩]
  congr 3
  clear h1
  unfold inD
  rw [List.any_map]
  induction l with
  | nil => rfl
  | cons a l ih =>
    rw [List.any_cons, ih]
    by_cases e : r = a
    · subst e
      simp [PyData.eqv]
    · have e' : ¬ a = r := fun z => e z.symm
      simp [PyData.eqv, e, e']
@[simp] theorem flat_b (b : Bool) : flatD (.bool b) = true := (rfl)
@[simp] theorem flat_i (b : Int) : flatD (.int b) = true := (rfl)
@[simp] theorem intsO_ints (l : List Int) : intsO (l.map fun a => O.dat (.int a)) = some l := by
  have := intsO_map l
  rwa [List.map_map] at this
@[simp] theorem intsO_ints' (l : List Int) : intsO (l.map (O.dat ∘ PyData.int)) = some l := intsO_ints l
@[simp] theorem intsO_cons' (a : Int) (l : List Int) : intsO (.dat (.int a) :: l.map (O.dat ∘ PyData.int)) = some (a :: l) := intsO_ints (a :: l)
@[simp] theorem intsO_cons (a : Int) (l : List Int) : intsO (.dat (.int a) :: l.map fun a => O.dat (.int a)) = some (a :: l) := intsO_ints (a :: l)
theorem back_ok (R : Ru) (t : St) (hl : t.size < 900000) : d__law_back [.dat R.d, lsO t] = .ok (.dat .none) [lsO (lBack R t)] := by
  obtain ⟨day, shelf, loans, ready, wait, rests⟩ := t
  unfold St.size at hl
  simp only at hl
  have h1 : ready.length < 1000000 := by omega
  unfold d__law_back g__law_back lBack lsO
  cases wait with
  | nil => simp [startE, List.replicate, getP, slotO, O.get, nth, Shp.at, putP, setO, O.put, put1, finF, outsOf]
  | cons w ws => simp [startE, List.replicate, getP, slotO, O.get, nth, Shp.at, putP, setO, O.put, put1, finF, outsOf, h1]
theorem may_ok (t : St) (r : Int) : d__law_may_come [lsO t, .dat (.int r)] = .ok (.dat (.bool (lMay t r))) [lsO t] := by
  obtain ⟨day, shelf, loans, ready, wait, rests⟩ := t
  unfold d__law_may_come g__law_may_come lMay lsO
  cases e1 : rowOf loans r <;> cases e2 : rowOf rests r <;> simp [startE, List.replicate, getP, slotO, O.get, nth, Shp.at, finF, outsOf, e1, e2]
end DP
end

section
namespace DP
open PySem PySem.Spec PyProof.Rows L2 DP.G
def bO (b : Bool) : O := .dat (.bool b)
theorem borrow_ok (R : Ru) (t : St) (r : Int) (hl : t.size < 900000) : d__law_borrow [.dat R.d, lsO t, .dat (.int r)] = .ok (bO (lBorrow R t r).1) [lsO (lBorrow R t r).2] := by
  have mc := may_ok t r
  unfold lBorrow
  cases e1 : lMay t r with
  | false =>
    rw [e1] at mc
    unfold d__law_borrow g__law_borrow
    simp [startE, List.replicate, mc, lendIn, takeO, backs, putBack, finF, outsOf, bO]
  | true =>
    rw [e1] at mc
    obtain ⟨day, shelf, loans, ready, wait, rests⟩ := t
    unfold St.size at hl
    simp only at hl
    have h1 : loans.length < 1000000 := by omega
    unfold lsO at mc ⊢
    simp only [List.map_map] at mc
    unfold d__law_borrow g__law_borrow
    cases e2 : rowOf ready r with
    | some p => simp [startE, List.replicate, mc, lendIn, takeO, backs, putBack, getP, slotO, O.get, nth, Shp.at, putP, setO, O.put, put1, finF, outsOf, bO, e2, h1]
    | none =>
      by_cases h2 : shelf = 0
      · subst h2
        simp [startE, List.replicate, mc, lendIn, takeO, backs, putBack, getP, slotO, O.get, nth, Shp.at, putP, setO, O.put, put1, finF, outsOf, bO, e2, h1]
      · simp [startE, List.replicate, mc, lendIn, takeO, backs, putBack, getP, slotO, O.get, nth, Shp.at, putP, setO, O.put, put1, finF, outsOf, bO, e2, h1, h2]
theorem renew_ok (R : Ru) (t : St) (r : Int) (hl : t.size < 900000) : d__law_renew [.dat R.d, lsO t, .dat (.int r)] = .ok (bO (lRenew R t r).1) [lsO (lRenew R t r).2] := by
  obtain ⟨day, shelf, loans, ready, wait, rests⟩ := t
  unfold St.size at hl
  simp only at hl
  have h1 : loans.length < 1000000 := by omega
  unfold lRenew lsO d__law_renew g__law_renew
  cases e1 : rowOf loans r with
  | none => simp [startE, List.replicate, getP, slotO, O.get, nth, Shp.at, putP, setO, O.put, put1, finF, outsOf, bO, e1, h1]
  | some p =>
    obtain ⟨q, due, n⟩ := p
    cases wait with
    | cons w ws => simp [startE, List.replicate, getP, slotO, O.get, nth, Shp.at, putP, setO, O.put, put1, finF, outsOf, bO, e1, h1]
    | nil =>
      by_cases h2 : n = R.r
      · simp [startE, List.replicate, getP, slotO, O.get, nth, Shp.at, putP, setO, O.put, put1, finF, outsOf, bO, e1, h1, h2]
      · by_cases h3 : due - day ≤ R.w
        · have h3' : ¬ R.w < due - day := by omega
          simp [startE, List.replicate, getP, slotO, O.get, nth, Shp.at, putP, setO, O.put, put1, finF, outsOf, bO, e1, h1, h2, h3, h3']
        · have h3' : R.w < due - day := by omega
          simp [startE, List.replicate, getP, slotO, O.get, nth, Shp.at, putP, setO, O.put, put1, finF, outsOf, bO, e1, h1, h2, h3, h3']
theorem toD_intsA (l : List Int) (r : Int) : O.toDs (l.map (O.dat ∘ PyData.int) ++ [.dat (.int r)]) = some ((l ++ [r]).map .int) := by
  have := toDs_map ((l ++ [r]).map PyData.int)
  rw [List.map_map, List.map_append] at this
  exact this
theorem wait_ok (R : Ru) (t : St) (r : Int) (hl : t.size < 800000) : d__law_wait [.dat R.d, lsO t, .dat (.int r)] = .ok (bO (lWait R t r).1) [lsO (lWait R t r).2] := by
  have mc := may_ok t r
  unfold lWait
  cases e1 : lMay t r with
  | false =>
    rw [e1] at mc
    unfold d__law_wait g__law_wait
    simp [startE, List.replicate, mc, lendIn, takeO, backs, putBack, finF, outsOf, bO]
  | true =>
    rw [e1] at mc
    obtain ⟨day, shelf, loans, ready, wait, rests⟩ := t
    unfold St.size at hl
    simp only at hl
    have h1 : wait.length < 1000000 := by omega
    have iw := in_intsL r wait
    have cb := back_ok R ⟨day, shelf - 1, loans, ready, wait ++ [r], rests⟩ (by unfold St.size; simp only [List.length_append, List.length_singleton]; omega)
    unfold lsO at mc ⊢
    simp only [List.map_map] at mc
    rw [show lsO ⟨day, shelf - 1, loans, ready, wait ++ [r], rests⟩ = .node .lst [.dat (.int day), .dat (.int (shelf - 1)), dI (loans.map lp3), dI (ready.map lp2), .node .lst (wait.map (O.dat ∘ PyData.int) ++ [.dat (.int r)]), dI (rests.map lp2)] from by unfold lsO; simp] at cb
    unfold d__law_wait g__law_wait
    cases e2 : rowOf ready r with
    | some p => simp [startE, List.replicate, mc, lendIn, takeO, backs, putBack, getP, slotO, O.get, nth, Shp.at, putP, setO, O.put, put1, finF, outsOf, bO, e2, h1]
    | none =>
      by_cases h3 : r ∈ wait
      · simp [startE, List.replicate, mc, lendIn, takeO, backs, putBack, getP, slotO, O.get, nth, Shp.at, putP, setO, O.put, put1, finF, outsOf, bO, e2, h1, iw, h3]
      · by_cases h2 : 0 < shelf
        · simp [startE, List.replicate, mc, lendIn, takeO, backs, putBack, getP, slotO, O.get, nth, Shp.at, putP, setO, O.put, put1, finF, outsOf, bO, e2, h1, h2, iw, h3, cb]
          simp [lsO]
        · simp [startE, List.replicate, mc, lendIn, takeO, backs, putBack, getP, slotO, O.get, nth, Shp.at, putP, setO, O.put, put1, finF, outsOf, bO, e2, h1, h2, iw, h3]
theorem erase_map {α β : Type} (f : α → β) : ∀ (l : List α) (k : Nat), (l.map f).eraseIdx k = (l.eraseIdx k).map f
  | [], k => by simp
  | a :: l, 0 => rfl
  | a :: l, k + 1 => by simp [erase_map f l k]
theorem find_at (r : Int) : ∀ (l : List Int) (k : Nat), r ∈ l → findD (.int r) (l.map .int) k = some (k + l.idxOf r)
  | [], k, h => by simp at h
  | a :: l, k, h => by
    rw [List.map_cons, findD]
    by_cases e : a = r
    · subst e
      simp [PyData.eqv]
    · have e1 : ¬ PyData.eqv (.int a) (.int r) = true := by simp [PyData.eqv, e]
      rw [if_neg e1, find_at r l (k + 1) (by rcases List.mem_cons.mp h with z | z; exact absurd z.symm e; exact z)]
      have e2 : (a == r) = false := by simpa using e
      rw [List.idxOf_cons, e2]
      simp only [cond_false]
      congr 1
      omega
theorem leave_ok (R : Ru) (t : St) (r : Int) (hl : t.size < 800000) : d__law_leave [.dat R.d, lsO t, .dat (.int r)] = .ok (bO (lLeave R t r).1) [lsO (lLeave R t r).2] := by
  obtain ⟨day, shelf, loans, ready, wait, rests⟩ := t
  unfold St.size at hl
  simp only at hl
  have iw := in_intsL r wait
  have l2 := wo_le ready r
  have cb := back_ok R ⟨day, shelf, loans, wo ready r, wait, rests⟩ (by unfold St.size; simp only; omega)
  unfold lLeave
  by_cases h3 : r ∈ wait
  · have fd := find_at r wait 0 h3
    have hi : wait.idxOf r < wait.length := List.idxOf_lt_length_iff.mpr h3
    have fa : (wait.map PyData.int).all flatD = true := by rw [List.all_map]; exact List.all_eq_true.mpr fun _ _ => rfl
    have ix : ixN wait.length ((wait.idxOf r : Nat) : Int) = some (wait.idxOf r) := by
      unfold ixN
      rw [if_pos (by omega), if_pos (by omega)]
      simp
    have hm : ((wait.idxOf r : Nat) : Int) < 1000000 := by omega
    have hm0 : -1000000 < ((wait.idxOf r : Nat) : Int) := by omega
    have it : (wait.map (O.dat ∘ PyData.int))[wait.idxOf r]? = some (.dat (.int r)) := by
      rw [List.getElem?_map, List.getElem?_eq_getElem hi, List.getElem_idxOf]
      rfl
    have er : (wait.map (O.dat ∘ PyData.int)).eraseIdx (wait.idxOf r) = (wait.erase r).map (O.dat ∘ PyData.int) := by
      rw [List.erase_eq_eraseIdx_of_idxOf (a := r) rfl, erase_map]
    rw [Nat.zero_add] at fd
    generalize wait.idxOf r = k at fd ix it er hm hm0
    obtain ⟨kz, hkz⟩ : ∃ kz : Int, kz = (k : Int) := ⟨_, rfl⟩
    rw [← hkz] at ix hm hm0
    unfold lsO d__law_leave g__law_leave
    simp only [h3, if_true]
    simp [startE, List.replicate, lendIn, takeO, backs, putBack, getP, slotO, O.get, nth, Shp.at, putP, setO, O.put, put1, finF, outsOf, bO, iw, h3, fa, fd, ← hkz, ix, it, er, hm, hm0]
  · simp only [h3, if_false]
    unfold lsO at cb ⊢
    unfold d__law_leave g__law_leave
    cases e2 : rowOf ready r with
    | some p =>
      simp at cb
      simp [startE, List.replicate, lendIn, takeO, backs, putBack, getP, slotO, O.get, nth, Shp.at, putP, setO, O.put, put1, finF, outsOf, bO, e2, iw, h3, cb]
      try rfl
    | none => simp [startE, List.replicate, lendIn, takeO, backs, putBack, getP, slotO, O.get, nth, Shp.at, putP, setO, O.put, put1, finF, outsOf, bO, e2, iw, h3]
end DP
end

section
namespace DP
open PySem PySem.Spec PyProof.Rows L2 DP.G
def overL (t : St) : List Int := (sortZ (t.ready.map fun p => p.1)).filter fun w => match rowOf t.ready w with
  | some p => decide (p.2 < t.day + 1)
  | none => false
def popBack (R : Ru) (u : St) (w : Int) : St := lBack R { u with ready := wo u.ready w }
def lDay (R : Ru) (t : St) : Bool × St :=
  if (t.loans.any fun p => decide (p.2.1 = t.day)) = true then (false, t)
  else (true, (overL t).foldl (popBack R) { t with day := t.day + 1 })
def LReq (t : St) : Prop := t.ready.length < 64 ∧ (t.loans.map fun p => p.1).Nodup ∧ (t.ready.map fun p => p.1).Nodup ∧ t.size < 700000
theorem dues3 : ∀ l : List (Int × Int × Int), duesD (l.map lp3) = some (l.map fun p => p.2.1)
  | [] => rfl
  | p :: l => by
    rw [List.map_cons, duesD, dues3 l]
    rfl
theorem ones_empty (day : Int) (l : List (Int × Int × Int)) : (onesZ day (l.map fun p => p.2.1)).isEmpty = !(l.any fun p => decide (p.2.1 = day)) := by
  unfold onesZ
  induction l with
  | nil => rfl
  | cons p l ih =>
    by_cases e : p.2.1 = day
    · simp [e]
    · simp only [List.map_cons, List.any_cons, e, decide_false, Bool.false_or]
      rw [List.filter_cons_of_neg (by simp [e])]
      exact ih
theorem ne_ints (l : List Int) : gNe (.list (l.map .int)) (.list []) = some (.dat (.bool (!l.isEmpty))) := by
  cases l <;> simp
theorem rowOf_wo {β : Type} {l : List (Int × β)} {a w : Int} (h : w ≠ a) : rowOf (wo l a) w = rowOf l w := by
  unfold rowOf wo
  induction l with
  | nil => rfl
  | cons p l ih =>
    by_cases e : p.1 = a
    · rw [List.filter_cons_of_neg (by simp [e]), List.find?_cons_of_neg (by simp [e]; exact fun z => h z.symm)]
      exact ih
    · rw [List.filter_cons_of_pos (by simpa using e)]
      by_cases e2 : p.1 = w
      · rw [List.find?_cons_of_pos (by simp [e2]), List.find?_cons_of_pos (by simp [e2])]
      · rw [List.find?_cons_of_neg (by simp [e2]), List.find?_cons_of_neg (by simp [e2])]
        exact ih
theorem rowOf_some {β : Type} {l : List (Int × β)} {w : Int} : (rowOf l w).isSome = true ↔ w ∈ l.map fun p => p.1 := by
  unfold rowOf
  rw [List.find?_isSome, List.mem_map]
  constructor
  · rintro ⟨p, h1, h2⟩
    exact ⟨p, h1, of_decide_eq_true h2⟩
  · rintro ⟨p, h1, h2⟩
    exact ⟨p, h1, decide_eq_true h2⟩
theorem putA_keys {β : Type} {l : List (Int × β)} {r w : Int} {v : β} (h : w ∈ l.map fun p => p.1) : w ∈ (putA l r v).map fun p => p.1 := by
  obtain ⟨p, h1, h2⟩ := List.mem_map.mp h
  unfold putA
  split
  · rw [List.map_map]
    refine List.mem_map.mpr ⟨p, h1, ?_⟩
    simp only [Function.comp]
    split <;> exact h2
  · rw [List.map_append]
    exact List.mem_append_left _ h
theorem lBack_ready {R : Ru} {t : St} {w : Int} (h : (rowOf t.ready w).isSome = true) : (rowOf (lBack R t).ready w).isSome = true := by
  unfold lBack
  cases t.wait with
  | nil => exact h
  | cons a l => exact rowOf_some.mpr (putA_keys (rowOf_some.mp h))
theorem size_lb (R : Ru) (t : St) : (lBack R t).size ≤ t.size := by
  obtain ⟨day, shelf, loans, ready, wait, rests⟩ := t
  unfold lBack St.size
  cases wait with
  | nil => exact Nat.le_refl _
  | cons w ws =>
    have := putA_le ready w (day + R.h)
    simp only [List.length_cons]
    omega
theorem size_pb (R : Ru) (t : St) (w : Int) : (popBack R t w).size ≤ t.size := by
  refine Nat.le_trans (size_lb R _) ?_
  unfold St.size
  have := wo_le t.ready w
  simp only
  omega
theorem pop_body (R : Ru) (u : St) (w : Int) (x : Sl) (h : (rowOf u.ready w).isSome = true) (hl : u.size < 700000) : l__law_day_0 [.v (.dat R.d), .io (lsO u), x, .v (.dat (.int w))] = .nx [.v (.dat R.d), .io (lsO (popBack R u w)), x, .v (.dat (.int w))] := by
  have hs : (St.mk u.day u.shelf u.loans (wo u.ready w) u.wait u.rests).size < 900000 := by
    unfold St.size at hl ⊢
    have := wo_le u.ready w
    simp only
    omega
  have cb := back_ok R { u with ready := wo u.ready w } hs
  unfold popBack
  generalize lBack R { u with ready := wo u.ready w } = z at cb ⊢
  obtain ⟨day, shelf, loans, ready, wait, rests⟩ := u
  obtain ⟨p, hp⟩ := Option.isSome_iff_exists.mp h
  simp only at hp
  have cb' : d__law_back [.dat R.d, .node .lst [.dat (.int day), .dat (.int shelf), dI (loans.map lp3), dI ((wo ready w).map lp2), .node .lst (wait.map (O.dat ∘ PyData.int)), dI (rests.map lp2)]] = .ok (.dat .none) [lsO z] := by
    rw [← cb]
    unfold lsO
    simp only [List.map_map]
  clear cb
  generalize lsO z = zz at cb' ⊢
  unfold l__law_day_0 lsO
  simp [getP, slotO, O.get, nth, Shp.at, putP, setO, O.put, put1, lendIn, takeO, backs, putBack, hp, cb']
theorem pop_loop (R : Ru) (x : Sl) : ∀ (ws : List Int) (u : St) (y : Sl), y.w = true → ws.Nodup → (∀ w ∈ ws, (rowOf u.ready w).isSome = true) → u.size < 700000 →
    ∃ y', loopS (hName 3) l__law_day_0 (ws.map .int) [.v (.dat R.d), .io (lsO u), x, y] = .nx [.v (.dat R.d), .io (lsO (ws.foldl (popBack R) u)), x, y']
  | [], u, y, _, _, _, _ => ⟨y, rfl⟩
  | w :: ws, u, y, wy, nd, h, hl => by
    obtain ⟨n1, n2⟩ := List.nodup_cons.mp nd
    have b := pop_body R u w x (h w List.mem_cons_self) hl
    have hn : hName 3 (.dat (.int w)) [.v (.dat R.d), .io (lsO u), x, y] = some [.v (.dat R.d), .io (lsO u), x, .v (.dat (.int w))] := by simp [wy]
    obtain ⟨y', q⟩ := pop_loop R x ws (popBack R u w) (.v (.dat (.int w))) rfl n2 (fun v hv => by
      unfold popBack
      refine lBack_ready ?_
      show (rowOf (wo u.ready w) v).isSome = true
      have nv : v ≠ w := fun e => n1 (by rw [← e]; exact hv)
      rw [rowOf_wo nv]
      exact h v (List.mem_cons_of_mem _ hv)) (by have := size_pb R u w; omega)
    refine ⟨y', ?_⟩
    rw [List.map_cons, loopS, hn]
    simp only [b]
    exact q
@[simp] theorem keys3 (l : List (Int × Int × Int)) : l.map ((fun x => x.1) ∘ lp3) = l.map fun p => p.1 := (rfl)
@[simp] theorem keys2 (l : List (Int × Int)) : l.map ((fun x => x.1) ∘ lp2) = l.map fun p => p.1 := (rfl)
theorem day_ok (R : Ru) (t : St) (h : LReq t) : d__law_day [.dat R.d, lsO t] = .ok (bO (lDay R t).1) [lsO (lDay R t).2] := by
  obtain ⟨h64, ndl, ndr, hs⟩ := h
  have du := dues3 t.loans
  have oe := ones_empty t.day t.loans
  have nd3 : ((t.loans.map lp3).map Prod.fst).Nodup := by rw [List.map_map]; exact ndl
  have hl6 : t.loans.length < 1000000 := by unfold St.size at hs; omega
  have ne := ne_ints (onesZ t.day (t.loans.map fun p => p.2.1))
  rw [oe] at ne
  have keys : ∀ w ∈ sortZ (t.ready.map fun p => p.1), ∃ p, rowOf t.ready w = some p := fun w hw =>
    Option.isSome_iff_exists.mp (rowOf_some.mpr ((sortZ_perm _).mem_iff.mp hw))
  have cp := compL_map (own := [3]) (hg := hName 3) (t := kB (k2 gLt (kDGet 1 ([] ++ [3]) (kVar 3)) (kLeaf 1 ([] ++ [0])))) (f := kVar 3) (env := [.v (.dat R.d), .io (lsO { t with day := t.day + 1 }), .no, .no])
    PyData.int (fun w => match rowOf t.ready w with | some p => decide (p.2 < t.day + 1) | none => false) (fun w => .dat (.int w)) (sortZ (t.ready.map fun p => p.1)) (fun w hw => by
      obtain ⟨p, hp⟩ := keys w hw
      refine ⟨_, [.v (.dat R.d), .io (lsO { t with day := t.day + 1 }), .no, .v (.dat (.int w))], by simp <;> rfl, ?_, fun _ => ⟨_, by simp <;> rfl, rfl⟩, fun _ => rfl⟩
      simp [lsO, getP, slotO, O.get, nth, Shp.at, hp]) (by rw [(sortZ_perm _).length_eq, List.length_map]; omega)
  have ovn : (overL t).Nodup := ((sortZ_perm _).nodup_iff.mpr ndr).sublist List.filter_sublist
  have ovs : ∀ w ∈ overL t, (rowOf t.ready w).isSome = true := fun w hw => by
    obtain ⟨p, hp⟩ := keys w (List.mem_filter.mp hw).1
    rw [hp]
    rfl
  obtain ⟨y, lp⟩ := pop_loop R (.v (.dat (.list ((overL t).map .int)))) (overL t) { t with day := t.day + 1 } .no rfl ovn ovs hs
  have cp' : compL [3] (hName 3) (kB (k2 gLt (kDGet 1 [3] (kVar 3)) (kLeaf 1 [0]))) (kVar 3) (List.map PyData.int (sortZ (t.ready.map fun p => p.1))) [.v (.dat R.d), .io (lsO { t with day := t.day + 1 }), .no, .no] [] = .ok ((overL t).map fun w => .dat (.int w)) [.v (.dat R.d), .io (lsO { t with day := t.day + 1 }), .no, .no] := cp
  clear cp keys ovn ovs oe
  unfold lDay
  generalize overL t = ov at cp' lp ⊢
  generalize List.foldl (popBack R) { t with day := t.day + 1 } ov = T at lp ⊢
  have rk : (t.ready.map lp2).map Prod.fst = t.ready.map fun p => p.1 := by rw [List.map_map]; rfl
  cases e1 : (t.loans.any fun p => decide (p.2.1 = t.day)) with
  | true =>
    rw [e1] at ne
    obtain ⟨day, shelf, loans, ready, wait, rests⟩ := t
    unfold lsO d__law_day g__law_day
    simp only at du ndl hl6 ne
    simp [startE, List.replicate, getP, slotO, O.get, nth, Shp.at, putP, setO, O.put, put1, finF, outsOf, bO, du, ndl, hl6, ne]
  | false =>
    rw [e1] at ne
    obtain ⟨day, shelf, loans, ready, wait, rests⟩ := t
    simp only at du ndl hl6 ne h64 cp' lp
    have e : ∀ d, lsO ⟨d, shelf, loans, ready, wait, rests⟩ = .node .lst [.dat (.int d), .dat (.int shelf), dI (loans.map lp3), dI (ready.map lp2), .node .lst (wait.map (O.dat ∘ PyData.int)), dI (rests.map lp2)] := fun d => by
      unfold lsO
      rw [List.map_map]
    rw [e] at cp' lp ⊢
    unfold d__law_day g__law_day
    simp [startE, List.replicate, getP, slotO, O.get, nth, Shp.at, putP, setO, O.put, put1, finF, outsOf, bO, du, ndl, hl6, ne, h64, wipeE, cp', lcEnd, lp]
def lDays (R : Ru) : Nat → St → Bool × St
  | 0, t => (true, t)
  | n + 1, t => if (lDay R t).1 = true then lDays R n (lDay R t).2 else (false, (lDay R t).2)
def LReqs (R : Ru) : Nat → St → Prop
  | 0, _ => True
  | n + 1, t => LReq t ∧ ((lDay R t).1 = true → LReqs R n (lDay R t).2)
theorem days_go (R : Ru) (a b c : Sl) : ∀ (n : Nat) (lo : Int) (t : St) (z : Sl), z.w = true → LReqs R n t → ∃ z', loopS (hName 5) l__law_happens_0 ((List.range n).map fun i : Nat => PyData.int (lo + i)) [.v (.dat R.d), .io (lsO t), a, b, c, z] =
    (if (lDays R n t).1 = true then .nx [.v (.dat R.d), .io (lsO (lDays R n t).2), a, b, c, z'] else .rt (.dat (.bool false)) [.v (.dat R.d), .io (lsO (lDays R n t).2), a, b, c, z'])
  | 0, lo, t, z, _, _ => ⟨z, rfl⟩
  | n + 1, lo, t, z, wz, h => by
    obtain ⟨h1, h2⟩ := h
    have nd := day_ok R t h1
    have er : ((List.range (n + 1)).map fun i : Nat => PyData.int (lo + i)) = .int lo :: ((List.range n).map fun i : Nat => PyData.int ((lo + 1) + i)) := by
      rw [List.range_succ_eq_map, List.map_cons, List.map_map]
      congr 1
      · simp
      · refine List.map_congr_left fun i _ => ?_
        show PyData.int (lo + ((i + 1 : Nat) : Int)) = PyData.int (lo + 1 + i)
        congr 1
        omega
    have hn : hName 5 (.dat (.int lo)) [.v (.dat R.d), .io (lsO t), a, b, c, z] = some [.v (.dat R.d), .io (lsO t), a, b, c, .v (.dat (.int lo))] := by simp [wz]
    rw [er, loopS, hn]
    unfold lDays
    cases e : (lDay R t).1 with
    | false =>
      rw [e] at nd
      refine ⟨.v (.dat (.int lo)), ?_⟩
      have bd : l__law_happens_0 [.v (.dat R.d), .io (lsO t), a, b, c, .v (.dat (.int lo))] = .rt (.dat (.bool false)) [.v (.dat R.d), .io (lsO (lDay R t).2), a, b, c, .v (.dat (.int lo))] := by
        generalize (lDay R t).2 = u at nd ⊢
        unfold l__law_happens_0
        simp [nd, bO, lendIn, takeO, backs, putBack]
      simp only [bd]
      rfl
    | true =>
      rw [e] at nd
      obtain ⟨z', q⟩ := days_go R a b c n (lo + 1) (lDay R t).2 (.v (.dat (.int lo))) rfl (h2 e)
      refine ⟨z', ?_⟩
      have bd : l__law_happens_0 [.v (.dat R.d), .io (lsO t), a, b, c, .v (.dat (.int lo))] = .nx [.v (.dat R.d), .io (lsO (lDay R t).2), a, b, c, .v (.dat (.int lo))] := by
        generalize (lDay R t).2 = u at nd ⊢
        unfold l__law_happens_0
        simp [nd, bO, lendIn, takeO, backs, putBack]
      simp only [bd, if_true]
      exact q
def lHap (R : Ru) (t : St) : Ev → Bool × St
  | .bo r => lBorrow R t r
  | .re r => lReturn R t r
  | .rn r => lRenew R t r
  | .wa r => lWait R t r
  | .le r => lLeave R t r
  | .da n => lDays R n t
def HReq (R : Ru) (t : St) : Ev → Prop
  | .da n => n < 1000000 ∧ LReqs R n t
  | _ => t.size < 700000
theorem hap_da {R : PyData} {n : Int} {t u : O} {b : Bool} {z' : Sl} (hb : -4611686018427387904 ≤ n ∧ n < 4611686018427387904)
    (q : loopS (hName 5) l__law_happens_0 (rngD 0 n.toNat) [.v (.dat R), .io t, .v (.dat (.tuple [.str "days", .int n])), .v (.dat (.str "days")), .v (.dat (.int n)), .no] = (if b = true then .nx [.v (.dat R), .io u, .v (.dat (.tuple [.str "days", .int n])), .v (.dat (.str "days")), .v (.dat (.int n)), z'] else .rt (.dat (.bool false)) [.v (.dat R), .io u, .v (.dat (.tuple [.str "days", .int n])), .v (.dat (.str "days")), .v (.dat (.int n)), z'])) :
    d__law_happens [.dat R, t, .dat (.tuple [.str "days", .int n])] = .ok (bO b) [u] := by
  unfold d__law_happens g__law_happens
  cases b with
  | true => simp [startE, List.replicate, hb, q, finF, outsOf, bO]
  | false => simp [startE, List.replicate, hb, q, finF, outsOf, bO]
theorem hap_ok (R : Ru) (t : St) (e : Ev) (h : HReq R t e) : d__law_happens [.dat R.d, lsO t, .dat e.d] = .ok (bO (lHap R t e).1) [lsO (lHap R t e).2] := by
  cases e with
  | bo r =>
    have q := borrow_ok R t r (by have : t.size < 700000 := h; omega)
    simp only [lHap]
    generalize lBorrow R t r = z at q ⊢
    unfold d__law_happens g__law_happens
    simp [startE, List.replicate, Ev.d, q, lendIn, takeO, backs, putBack, finF, outsOf]
  | rn r =>
    have q := renew_ok R t r (by have : t.size < 700000 := h; omega)
    simp only [lHap]
    generalize lRenew R t r = z at q ⊢
    unfold d__law_happens g__law_happens
    simp [startE, List.replicate, Ev.d, q, lendIn, takeO, backs, putBack, finF, outsOf]
  | wa r =>
    have q := wait_ok R t r (by have : t.size < 700000 := h; omega)
    simp only [lHap]
    generalize lWait R t r = z at q ⊢
    unfold d__law_happens g__law_happens
    simp [startE, List.replicate, Ev.d, q, lendIn, takeO, backs, putBack, finF, outsOf]
  | le r =>
    have q := leave_ok R t r (by have : t.size < 700000 := h; omega)
    simp only [lHap]
    generalize lLeave R t r = z at q ⊢
    unfold d__law_happens g__law_happens
    simp [startE, List.replicate, Ev.d, q, lendIn, takeO, backs, putBack, finF, outsOf]
  | re r =>
    have hs : t.size < 700000 := h
    clear h
    obtain ⟨day, shelf, loans, ready, wait, rests⟩ := t
    simp only [lHap, lReturn]
    cases e1 : rowOf loans r with
    | none =>
      unfold lsO d__law_happens g__law_happens
      simp [startE, List.replicate, Ev.d, getP, slotO, O.get, nth, Shp.at, putP, setO, O.put, put1, e1, lendIn, takeO, backs, putBack, finF, outsOf, bO]
    | some p =>
      unfold St.size at hs
      simp only at hs
      have l1 := wo_le loans r
      have l2 := putA_le rests r (day + R.s)
      have h1 : rests.length < 1000000 := by omega
      have cb := back_ok R ⟨day, shelf, wo loans r, ready, wait, putA rests r (day + R.s)⟩ (by unfold St.size; simp only; omega)
      have cb' : d__law_back [.dat R.d, .node .lst [.dat (.int day), .dat (.int shelf), dI ((wo loans r).map lp3), dI (ready.map lp2), .node .lst (wait.map (O.dat ∘ PyData.int)), dI ((putA rests r (day + R.s)).map lp2)]] = .ok (.dat .none) [lsO (lBack R ⟨day, shelf, wo loans r, ready, wait, putA rests r (day + R.s)⟩)] := by
        rw [← cb]
        unfold lsO
        simp only [List.map_map]
      clear cb hs l1 l2
      simp only [Option.isSome_some, if_true]
      generalize lBack R ⟨day, shelf, wo loans r, ready, wait, putA rests r (day + R.s)⟩ = z at cb' ⊢
      generalize lsO z = zz at cb' ⊢
      unfold lsO d__law_happens g__law_happens
      simp [startE, List.replicate, Ev.d, getP, slotO, O.get, nth, Shp.at, putP, setO, O.put, put1, e1, h1, cb', lendIn, takeO, backs, putBack, finF, outsOf, bO]
  | da n =>
    have h' : n < 1000000 ∧ LReqs R n t := h
    obtain ⟨z', q⟩ := days_go R (.v (.dat (.tuple [.str "days", .int n]))) (.v (.dat (.str "days"))) (.v (.dat (.int n))) n 0 t .no rfl h'.2
    refine hap_da (z' := z') ⟨by omega, by omega⟩ ?_
    rw [Int.toNat_natCast]
    exact q
end DP
end

section
namespace DP
open PySem PySem.Spec PyProof.Rows L2 DP.G
/-! ### sorted rows -/
abbrev ky {β : Type} (l : List (Int × β)) : List Int := l.map fun p => p.1
theorem lt_nodup {l : List Int} (h : l.Pairwise (· < ·)) : l.Nodup := h.imp fun h => by omega
theorem rowOf_mem {β : Type} {l : List (Int × β)} {r : Int} {p : Int × β} (h : rowOf l r = some p) : p ∈ l ∧ p.1 = r := by
  unfold rowOf at h
  exact ⟨List.mem_of_find?_eq_some h, by simpa using List.find?_some h⟩
theorem rowOf_at {β : Type} : ∀ {l : List (Int × β)} {p : Int × β}, (ky l).Nodup → p ∈ l → rowOf l p.1 = some p
  | [], p, _, h => by simp at h
  | q :: l, p, nd, h => by
    rw [ky, List.map_cons, List.nodup_cons] at nd
    unfold rowOf
    rcases List.mem_cons.mp h with e | h
    · subst e
      rw [List.find?_cons_of_pos (by simp)]
    · have ne : ¬ q.1 = p.1 := fun e => nd.1 (by rw [e]; exact List.mem_map.mpr ⟨p, h, rfl⟩)
      rw [List.find?_cons_of_neg (by simpa using ne)]
      exact rowOf_at (l := l) nd.2 h
theorem rowOf_none {β : Type} {l : List (Int × β)} {r : Int} : rowOf l r = none ↔ r ∉ ky l := by
  rw [← rowOf_some (l := l)]
  cases rowOf l r <;> simp
theorem rowOf_perm {β : Type} {l m : List (Int × β)} (p : l.Perm m) (nd : (ky l).Nodup) (r : Int) : rowOf l r = rowOf m r := by
  have nm : (ky m).Nodup := (p.map _).nodup_iff.mp nd
  cases e : rowOf m r with
  | none =>
    refine rowOf_none.mpr fun h => ?_
    exact rowOf_none.mp e ((p.map _).mem_iff.mp h)
  | some q =>
    obtain ⟨h1, h2⟩ := rowOf_mem e
    rw [← h2]
    exact rowOf_at nd (p.mem_iff.mpr h1)
theorem wo_none {β : Type} {l : List (Int × β)} {r : Int} (h : r ∉ ky l) : wo l r = l := by
  refine List.filter_eq_self.mpr fun p hp => ?_
  exact decide_eq_true fun e => h (by rw [← e]; exact List.mem_map.mpr ⟨p, hp, rfl⟩)
theorem putA_none {β : Type} {l : List (Int × β)} {r : Int} (v : β) (h : r ∉ ky l) : putA l r v = l ++ [(r, v)] := by
  unfold putA
  rw [if_neg]
  intro q
  obtain ⟨p, hp, e⟩ := List.any_eq_true.mp q
  exact h (by rw [← of_decide_eq_true e]; exact List.mem_map.mpr ⟨p, hp, rfl⟩)
theorem wo_keys {β : Type} {l : List (Int × β)} {r w : Int} : w ∈ ky (wo l r) ↔ w ∈ ky l ∧ w ≠ r := by
  unfold wo
  constructor
  · intro h
    obtain ⟨p, hp, rfl⟩ := List.mem_map.mp h
    obtain ⟨h1, h2⟩ := List.mem_filter.mp hp
    exact ⟨List.mem_map.mpr ⟨p, h1, rfl⟩, of_decide_eq_true h2⟩
  · rintro ⟨h, ne⟩
    obtain ⟨p, hp, rfl⟩ := List.mem_map.mp h
    exact List.mem_map.mpr ⟨p, List.mem_filter.mpr ⟨hp, decide_eq_true ne⟩, rfl⟩
theorem wo_sub {β : Type} (l : List (Int × β)) (r : Int) : (ky (wo l r)).Sublist (ky l) := List.filter_sublist.map _
theorem wo_perm {β : Type} {l m : List (Int × β)} (p : l.Perm m) (r : Int) : (wo l r).Perm (wo m r) := p.filter _
theorem putA_perm {β : Type} : ∀ {l : List (Int × β)} {r : Int} {v : β}, (ky l).Nodup → (putA l r v).Perm (wo l r ++ [(r, v)])
  | l, r, v, nd => by
    by_cases h : r ∈ ky l
    · unfold putA
      have h' : (l.any fun p => decide (p.1 = r)) = true := by
        obtain ⟨p, hp, e⟩ := List.mem_map.mp h
        exact List.any_eq_true.mpr ⟨p, hp, decide_eq_true e⟩
      rw [if_pos h']
      clear h'
      induction l with
      | nil => simp at h
      | cons q l ih =>
        rw [ky, List.map_cons, List.nodup_cons] at nd
        unfold wo
        by_cases e : q.1 = r
        · rw [List.map_cons, if_pos e, List.filter_cons_of_neg (by simp [e])]
          have nk : r ∉ ky l := e ▸ nd.1
          have e1 : l.map (fun p => if p.1 = r then (p.1, v) else p) = l := by
            refine (List.map_congr_left fun p hp => ?_).trans (List.map_id l)
            rw [if_neg (fun z => nk (by rw [← z]; exact List.mem_map.mpr ⟨p, hp, rfl⟩))]
            rfl
          have e2 : (l.filter fun p => decide (p.1 ≠ r)) = l := wo_none nk
          rw [e1, e2, e]
          exact (List.perm_append_singleton _ _).symm
        · rw [List.map_cons, if_neg e, List.filter_cons_of_pos (by simpa using e)]
          have hk : r ∈ ky l := by
            rw [ky, List.map_cons] at h
            rcases List.mem_cons.mp h with z | z
            · exact absurd z.symm e
            · exact z
          exact (ih nd.2 hk).cons q
    · rw [putA_none v h, wo_none h]
theorem wo_len {β : Type} {l : List (Int × β)} {r : Int} {p : Int × β} (nd : (ky l).Nodup) (h : rowOf l r = some p) : (wo l r).length + 1 = l.length := by
  obtain ⟨h1, h2⟩ := rowOf_mem h
  have hk : r ∈ ky l := by rw [← h2]; exact List.mem_map.mpr ⟨p, h1, rfl⟩
  have q := (putA_perm (l := l) (r := r) (v := p.2) nd).length_eq
  unfold putA at q
  rw [if_pos (List.any_eq_true.mpr ⟨p, h1, decide_eq_true h2⟩)] at q
  simp at q
  omega
/-- what sorting by rows gives -/
theorem isK_sorted {α : Type} [Row α] {l : List α} (nd : (l.map Row.k).Nodup) : ((isK Row.f l).map Row.k).Pairwise (· < ·) := by
  have pm := isK_perm Row.f l
  have nd' : ((isK Row.f l).map Row.k).Nodup := (pm.map _).nodup_iff.mpr nd
  have st : SrtO.Srtd lexI ((isK Row.f l).map Row.f) := by rw [isK_map]; exact isortI_srt _
  have st' : (isK Row.f l).Pairwise fun a b => lexI (Row.f b) (Row.f a) = false := List.pairwise_map.mp st
  have nd2 : (isK Row.f l).Pairwise fun a b => Row.k a ≠ Row.k b := List.pairwise_map.mp nd'
  refine List.pairwise_map.mpr ((st'.and nd2).imp fun {a b} ⟨h1, h2⟩ => ?_)
  obtain ⟨ta, ea⟩ := Row.hd a
  obtain ⟨tb, eb⟩ := Row.hd b
  rw [ea, eb, lexI, if_neg (fun e => h2 e.symm)] at h1
  have := of_decide_eq_false h1
  omega
theorem is3_sorted {l : List (Int × Int × Int)} (nd : (ky l).Nodup) : (ky (isK r3 l)).Pairwise (· < ·) := isK_sorted (α := Int × Int × Int) nd
theorem is2_sorted {l : List (Int × Int)} (nd : (ky l).Nodup) : (ky (isK r2 l)).Pairwise (· < ·) := isK_sorted (α := Int × Int) nd
theorem nd_snoc {β : Type} {l : List (Int × β)} {r : Int} {v : β} (nd : (ky l).Nodup) (h : r ∉ ky l) : (ky (l ++ [(r, v)])).Nodup := by
  rw [ky, List.map_append]
  refine List.nodup_append.mpr ⟨nd, by simp, fun a ha b hb e => ?_⟩
  have : b = r := by simpa using hb
  subst this
  exact h (e ▸ ha)
/-! ### what stays true at a desk; k copies are in nobody's hands -/
structure SI (R : Ru) (k : Nat) (s : St) : Prop where
  ls : (ky s.loans).Pairwise (· < ·)
  rs : (ky s.ready).Pairwise (· < ·)
  nw : s.wait.Nodup
  dis : ∀ r ∈ s.wait, r ∉ ky s.ready
  cons : s.shelf + s.loans.length + s.ready.length + k = R.c
  sh : 0 ≤ s.shelf
  dy : 0 ≤ s.day
  due : ∀ p ∈ s.loans, s.day ≤ p.2.1 ∧ 0 ≤ p.2.2 ∧ p.2.2 ≤ R.r
  last : ∀ p ∈ s.ready, s.day ≤ p.2
  ws : s.wait ≠ [] → s.shelf = 0
theorem SI.first {R : Ru} (ok : R.ok) : SI R 0 (first R) := by
  obtain ⟨c0, _⟩ := ok
  exact ⟨List.Pairwise.nil, List.Pairwise.nil, List.nodup_nil, (fun _ h => nomatch h), by show R.c + ((([] : List (Int × Int × Int)).length : Nat) : Int) + ((([] : List (Int × Int)).length : Nat) : Int) + 0 = R.c; simp, by show 0 ≤ R.c; omega, Int.le_refl _, (fun _ h => nomatch h), (fun _ h => nomatch h), fun h => absurd rfl h⟩
theorem SI.cb {R : Ru} {k : Nat} {s : St} (h : SI R (k + 1) s) (h0 : 0 ≤ R.h) : SI R k (comeBack R s) := by
  obtain ⟨day, shelf, loans, ready, wait, rests⟩ := s
  obtain ⟨ls, rs, nw, dis, cons, sh, dy, due, last, ws⟩ := h
  simp only at ls rs nw dis cons sh dy due last ws
  unfold comeBack
  cases wait with
  | nil => exact ⟨ls, rs, List.nodup_nil, (fun _ h => nomatch h), by simp only; omega, by simp only; omega, dy, due, last, fun z => absurd rfl z⟩
  | cons w wt =>
    obtain ⟨n1, n2⟩ := List.nodup_cons.mp nw
    have wr := dis w List.mem_cons_self
    have pm := isK_perm r2 (ready ++ [(w, day + R.h)])
    have nd := nd_snoc (v := day + R.h) (lt_nodup rs) wr
    refine ⟨ls, is2_sorted nd, n2, fun r hr hk => ?_, ?_, sh, dy, due, fun p hp => ?_, fun _ => ws (by simp)⟩
    · have hk' := (pm.map _).mem_iff.mp hk
      rw [List.map_append] at hk'
      rcases List.mem_append.mp hk' with z | z
      · exact dis r (List.mem_cons_of_mem _ hr) z
      · have : r = w := by simpa using z
        exact n1 (this ▸ hr)
    · simp only [pm.length_eq, List.length_append, List.length_cons, List.length_nil]
      omega
    · rcases List.mem_append.mp (pm.mem_iff.mp hp) with z | z
      · exact last p z
      · have : p = (w, day + R.h) := by simpa using z
        subst this
        show day ≤ day + R.h
        omega
theorem sub_lt {l m : List Int} (h : l.Pairwise (· < ·)) (s : m.Sublist l) : m.Pairwise (· < ·) := h.sublist s
theorem wo_in {β : Type} {l : List (Int × β)} {r : Int} {p : Int × β} (h : p ∈ wo l r) : p ∈ l := (List.mem_filter.mp h).1
theorem SI.step {R : Ru} (ok : R.ok) {s t : St} {e : Ev} (hne : ∀ n, e ≠ .da n) (h : SI R 0 s) (he : nextSt R s e = some t) : SI R 0 t := by
  obtain ⟨_, _, l0, _, r0, _, _, _, h0, _, _, _⟩ := ok
  obtain ⟨day, shelf, loans, ready, wait, rests⟩ := s
  obtain ⟨ls, rs, nw, dis, cons, sh, dy, due, last, ws⟩ := h
  simp only at ls rs nw dis cons sh dy due last ws
  have loaned : ∀ {r : Int} (x : Int × Int × Int), r ∉ ky loans → x = (r, day + R.l, 0) → (ky (isK r3 (loans ++ [x]))).Pairwise (· < ·) ∧ (isK r3 (loans ++ [x])).length = loans.length + 1 ∧ ∀ p ∈ isK r3 (loans ++ [x]), day ≤ p.2.1 ∧ 0 ≤ p.2.2 ∧ p.2.2 ≤ R.r := fun {r} x nk ex => by
    subst ex
    have pm := isK_perm r3 (loans ++ [(r, day + R.l, 0)])
    refine ⟨is3_sorted (nd_snoc (lt_nodup ls) nk), by rw [pm.length_eq]; simp, fun p hp => ?_⟩
    rcases List.mem_append.mp (pm.mem_iff.mp hp) with z | z
    · exact due p z
    · have : p = (r, day + R.l, 0) := by simpa using z
      subst this
      exact ⟨by show day ≤ day + R.l; omega, Int.le_refl _, r0⟩
  cases e with
  | da n => exact absurd rfl (hne n)
  | bo r =>
    simp only [nextSt, borrowed] at he
    split at he
    · rename_i hc
      have nk : r ∉ ky loans := by
        unfold canCome at hc
        rw [Bool.and_eq_true] at hc
        exact rowOf_none.mp (by simpa using hc.1)
      obtain ⟨g1, g2, g3⟩ := loaned _ nk rfl
      split at he
      · rename_i hr
        cases he
        obtain ⟨p, hp⟩ := Option.isSome_iff_exists.mp hr
        have wl := wo_len (lt_nodup rs) hp
        exact ⟨g1, sub_lt rs (wo_sub ready r), nw, fun x hx hk => dis x hx (wo_keys.mp hk).1, by simp only [g2]; omega, sh, dy, g3, fun q hq => last q (wo_in hq), ws⟩
      · split at he
        · rename_i hs
          cases he
          exact ⟨g1, rs, nw, dis, by simp only [g2]; omega, by simp only; omega, dy, g3, last, fun hw => by have := ws hw; omega⟩
        · cases he
    · cases he
  | re r =>
    simp only [nextSt, returned] at he
    split at he
    · rename_i hr
      cases he
      obtain ⟨p, hp⟩ := Option.isSome_iff_exists.mp hr
      have wl := wo_len (lt_nodup ls) hp
      refine SI.cb ⟨sub_lt ls (wo_sub loans r), rs, nw, dis, by simp only; omega, sh, dy, fun q hq => due q (wo_in hq), last, ws⟩ h0
    · cases he
  | rn r =>
    simp only [nextSt, renewed] at he
    split at he
    · cases he
    · rename_i q d n hp
      split at he
      · rename_i hh
        cases he
        have wl := wo_len (lt_nodup ls) hp
        have pm := isK_perm r3 (wo loans r ++ [(r, d + R.l, n + 1)])
        have dn := due _ (rowOf_mem hp).1
        simp only at dn
        refine ⟨is3_sorted (nd_snoc (lt_nodup (sub_lt ls (wo_sub loans r))) fun z => (wo_keys.mp z).2 rfl), rs, nw, dis, ?_, sh, dy, fun x hx => ?_, last, ws⟩
        · simp only [pm.length_eq, List.length_append, List.length_cons, List.length_nil]
          omega
        · rcases List.mem_append.mp (pm.mem_iff.mp hx) with z | z
          · exact due x (wo_in z)
          · have : x = (r, d + R.l, n + 1) := by simpa using z
            subst this
            exact ⟨by show day ≤ d + R.l; omega, by show 0 ≤ n + 1; omega, by show n + 1 ≤ R.r; omega⟩
      · cases he
  | wa r =>
    simp only [nextSt, waited] at he
    split at he
    · rename_i hc
      obtain ⟨_, hw, hr⟩ := hc
      have hr' : r ∉ ky ready := rowOf_none.mp (by simpa using hr)
      have nw' : (wait ++ [r]).Nodup := List.nodup_append.mpr ⟨nw, by simp, fun a ha b hb e => by
        have : b = r := by simpa using hb
        subst this
        exact hw (e ▸ ha)⟩
      have dis' : ∀ x ∈ wait ++ [r], x ∉ ky ready := fun x hx => by
        rcases List.mem_append.mp hx with z | z
        · exact dis x z
        · have : x = r := by simpa using z
          exact this ▸ hr'
      split at he
      · rename_i hs
        cases he
        have we : wait = [] := by
          cases wait with
          | nil => rfl
          | cons a l => have := ws (by simp); omega
        subst we
        -- the one who comes is served at once
        unfold comeBack
        simp only [List.nil_append]
        have pm := isK_perm r2 (ready ++ [(r, day + R.h)])
        refine ⟨ls, is2_sorted (nd_snoc (lt_nodup rs) hr'), List.nodup_nil, (fun _ h => nomatch h), ?_, by simp only; omega, dy, due, fun p hp => ?_, fun z => absurd rfl z⟩
        · simp only [pm.length_eq, List.length_append, List.length_cons, List.length_nil]
          omega
        · rcases List.mem_append.mp (pm.mem_iff.mp hp) with z | z
          · exact last p z
          · have : p = (r, day + R.h) := by simpa using z
            subst this
            show day ≤ day + R.h
            omega
      · rename_i hs
        cases he
        exact ⟨ls, rs, nw', dis', cons, sh, dy, due, last, fun _ => by simp only; omega⟩
    · cases he
  | le r =>
    simp only [nextSt, left] at he
    split at he
    · cases he
      refine ⟨ls, rs, nw.sublist List.filter_sublist, fun x hx => dis x (List.mem_filter.mp hx).1, cons, sh, dy, due, last, fun z => ws fun e => z ?_⟩
      subst e
      rfl
    · split at he
      · rename_i hr
        cases he
        obtain ⟨p, hp⟩ := Option.isSome_iff_exists.mp hr
        have wl := wo_len (lt_nodup rs) hp
        exact SI.cb ⟨ls, sub_lt rs (wo_sub ready r), nw, fun x hx hk => dis x hx (wo_keys.mp hk).1, by simp only; omega, sh, dy, due, fun q hq => last q (wo_in hq), ws⟩ h0
      · cases he
end DP
end

section
namespace DP
open PySem PySem.Spec PyProof.Rows L2 DP.G
/-! ### a day passes -/
theorem len_filter {α : Type} (p : α → Bool) : ∀ l : List α, (l.filter p).length + (l.filter fun x => !p x).length = l.length
  | [] => rfl
  | x :: l => by
    have ih := len_filter p l
    cases e : p x with
    | true => rw [List.filter_cons_of_pos e, List.filter_cons_of_neg (by simp [e]), List.length_cons, List.length_cons]; omega
    | false => rw [List.filter_cons_of_neg (by simp [e]), List.filter_cons_of_pos (by simp [e]), List.length_cons, List.length_cons]; omega
theorem SI.fold {R : Ru} (h0 : 0 ≤ R.h) : ∀ (l : List (Int × Int)) (s : St), SI R l.length s → SI R 0 (l.foldl (fun u _ => comeBack R u) s)
  | [], s, h => h
  | _ :: l, s, h => SI.fold h0 l (comeBack R s) (SI.cb h h0)
theorem ready_split (day : Int) (l : List (Int × Int)) : (l.filter fun p => decide (day < p.2)).length + (l.filter fun p => decide (p.2 ≤ day)).length = l.length := by
  have q := len_filter (fun p : Int × Int => decide (day < p.2)) l
  have e : (fun p : Int × Int => !decide (day < p.2)) = fun p => decide (p.2 ≤ day) := by
    funext p
    by_cases h : day < p.2
    · have : ¬ p.2 ≤ day := by omega
      simp [h, this]
    · have : p.2 ≤ day := by omega
      simp [h, this]
  rw [e] at q
  exact q
def dawn (s : St) : St := { s with day := s.day + 1, ready := s.ready.filter fun p => decide (s.day < p.2) }
def overS (s : St) : List (Int × Int) := s.ready.filter fun p => decide (p.2 ≤ s.day)
theorem nextDay_eq (R : Ru) (s : St) : nextDay R s = if (s.loans.any fun p => decide (p.2.1 ≤ s.day)) = true then none else some ((overS s).foldl (fun u _ => comeBack R u) (dawn s)) := (rfl)
theorem SI.dawn {R : Ru} {s : St} (h : SI R 0 s) (a : (s.loans.any fun p => decide (p.2.1 ≤ s.day)) = false) : SI R (overS s).length (DP.dawn s) := by
  obtain ⟨day, shelf, loans, ready, wait, rests⟩ := s
  obtain ⟨ls, rs, nw, dis, cons, sh, dy, due, last, ws⟩ := h
  simp only at ls rs nw dis cons sh dy due last ws a
  have sp := ready_split day ready
  refine ⟨ls, sub_lt rs (List.filter_sublist.map _), nw, fun r hr hk => ?_, ?_, sh, by show 0 ≤ day + 1; omega, fun p hp => ?_, fun p hp => ?_, ws⟩
  · obtain ⟨p, hp, e⟩ := List.mem_map.mp hk
    exact dis r hr (List.mem_map.mpr ⟨p, (List.mem_filter.mp hp).1, e⟩)
  · show shelf + (loans.length : Int) + ((ready.filter fun p => decide (day < p.2)).length : Int) + ((ready.filter fun p => decide (p.2 ≤ day)).length : Int) = R.c
    omega
  · have q := List.any_eq_false.mp a p hp
    obtain ⟨_, h2, h3⟩ := due p hp
    refine ⟨?_, h2, h3⟩
    show day + 1 ≤ p.2.1
    have : ¬ p.2.1 ≤ day := by simpa using q
    omega
  · have q := (List.mem_filter.mp hp).2
    show day + 1 ≤ p.2
    have : day < p.2 := by simpa using q
    omega
theorem SI.day {R : Ru} {s t : St} (h0 : 0 ≤ R.h) (h : SI R 0 s) (he : nextDay R s = some t) : SI R 0 t := by
  rw [nextDay_eq] at he
  split at he
  · cases he
  · rename_i a
    cases he
    exact SI.fold h0 _ _ (SI.dawn h (by simpa using a))
theorem SI.days {R : Ru} (h0 : 0 ≤ R.h) : ∀ {n : Nat} {s t : St}, SI R 0 s → passed R n s = some t → SI R 0 t
  | 0, s, t, h, e => by cases e; exact h
  | n + 1, s, t, h, e => by
    unfold passed at e
    split at e
    · rename_i u hu
      exact SI.days h0 (SI.day h0 h hu) e
    · cases e
theorem SI.next {R : Ru} (ok : R.ok) {s t : St} {e : Ev} (h : SI R 0 s) (he : nextSt R s e = some t) : SI R 0 t := by
  by_cases hd : ∃ n, e = .da n
  · obtain ⟨n, rfl⟩ := hd
    exact SI.days ok.2.2.2.2.2.2.2.2.1 h he
  · exact SI.step ok (fun n q => hd ⟨n, q⟩) h he
/-! ### the law's model goes alike -/
structure SimX (l : List (Int × Int)) (s t : St) : Prop where
  day : t.day = s.day
  shelf : t.shelf = s.shelf
  wait : t.wait = s.wait
  loans : t.loans.Perm s.loans
  ready : t.ready.Perm (s.ready ++ l)
  rests : t.rests.Perm s.rests
  nr : (ky s.rests).Nodup
  nw : s.wait.Nodup
  nd : (ky (s.ready ++ l)).Nodup
  dis : ∀ w ∈ s.wait, w ∉ ky (s.ready ++ l)
theorem SimX.back {R : Ru} {l : List (Int × Int)} {s t : St} (h : SimX l s t) : SimX l (comeBack R s) (lBack R t) := by
  obtain ⟨day, shelf, loans, ready, wait, rests⟩ := s
  obtain ⟨tday, tshelf, tloans, tready, twait, trests⟩ := t
  obtain ⟨hd, hs, hw, hl, hr, hre, nr, nw, nd, dis⟩ := h
  simp only at hd hs hw hl hr hre nr nw nd dis
  subst hd hs hw
  unfold comeBack lBack
  cases twait with
  | nil => exact ⟨rfl, rfl, rfl, hl, hr, hre, nr, nw, nd, dis⟩
  | cons w ws =>
    obtain ⟨n1, n2⟩ := List.nodup_cons.mp nw
    have wn := dis w List.mem_cons_self
    have wn' : w ∉ ky tready := fun z => wn ((hr.map _).mem_iff.mp z)
    have pm := isK_perm r2 (ready ++ [(w, tday + R.h)])
    have p1 : (isK r2 (ready ++ [(w, tday + R.h)]) ++ l).Perm ((ready ++ l) ++ [(w, tday + R.h)]) := by
      refine (pm.append_right l).trans ?_
      rw [List.append_assoc, List.append_assoc]
      exact List.Perm.append_left ready List.perm_append_comm
    refine ⟨rfl, rfl, rfl, hl, ?_, hre, nr, n2, ?_, ?_⟩
    · show (putA tready w (tday + R.h)).Perm _
      rw [putA_none _ wn']
      exact (hr.append_right _).trans p1.symm
    · exact (p1.map _).nodup_iff.mpr (nd_snoc nd wn)
    · intro x hx hk
      have hk' := (p1.map _).mem_iff.mp hk
      rw [List.map_append] at hk'
      rcases List.mem_append.mp hk' with z | z
      · exact dis x (List.mem_cons_of_mem _ hx) z
      · have : x = w := by simpa using z
        exact n1 (this ▸ hx)
abbrev Sim := SimX []
theorem Sim.of {R : Ru} {s : St} (si : SI R 0 s) {t : St} (day : t.day = s.day) (shelf : t.shelf = s.shelf) (wait : t.wait = s.wait) (loans : t.loans.Perm s.loans) (ready : t.ready.Perm s.ready) (rests : t.rests.Perm s.rests) (nr : (ky s.rests).Nodup) : Sim s t :=
  ⟨day, shelf, wait, loans, by rw [List.append_nil]; exact ready, rests, nr, si.nw, by rw [List.append_nil]; exact lt_nodup si.rs, by rw [List.append_nil]; exact si.dis⟩
theorem Sim.rd {s t : St} (h : Sim s t) : t.ready.Perm s.ready := by
  have q := h.ready
  rw [List.append_nil] at q
  exact q
theorem Sim.rdn {s t : St} (h : Sim s t) : (ky s.ready).Nodup := by
  have q := h.nd
  rw [List.append_nil] at q
  exact q
theorem wo_app {β : Type} (l m : List (Int × β)) (r : Int) : wo (l ++ m) r = wo l r ++ wo m r := List.filter_append ..
theorem SimX.pop {R : Ru} {p : Int × Int} {l : List (Int × Int)} {s t : St} (h : SimX (p :: l) s t) : SimX l (comeBack R s) (popBack R t p.1) := by
  refine SimX.back ?_
  obtain ⟨hd, hs, hw, hl, hr, hre, nr, nw, nd, dis⟩ := h
  have sub : (s.ready ++ l).Sublist (s.ready ++ p :: l) := List.Sublist.append (List.Sublist.refl _) (List.sublist_cons_self _ _)
  refine ⟨hd, hs, hw, hl, ?_, hre, nr, nw, nd.sublist (sub.map _), fun w hw hk => dis w hw ((sub.map _).subset hk)⟩
  have e : wo (s.ready ++ p :: l) p.1 = s.ready ++ l := by
    have nd' := nd
    rw [ky, List.map_append, List.map_cons] at nd'
    obtain ⟨_, n2, n3⟩ := List.nodup_append.mp nd'
    have e1 : p.1 ∉ ky s.ready := fun z => n3 _ z _ List.mem_cons_self rfl
    have e2 : p.1 ∉ ky l := (List.nodup_cons.mp n2).1
    rw [wo_app, wo_none e1]
    congr 1
    unfold wo
    rw [List.filter_cons_of_neg (by simp)]
    exact wo_none e2
  rw [← e]
  exact wo_perm hr p.1
theorem SimX.pops {R : Ru} : ∀ (l : List (Int × Int)) {s t : St}, SimX l s t → Sim (l.foldl (fun u _ => comeBack R u) s) ((l.map fun p => p.1).foldl (popBack R) t)
  | [], _, _, h => h
  | _ :: l, _, _, h => SimX.pops l (SimX.pop h)
theorem sortZ_eq {l m : List Int} (p : l.Perm m) (h : m.Pairwise (· < ·)) : sortZ l = m :=
  sortZ_uniq (sortZ_le l) (h.imp fun h => by omega) ((sortZ_perm l).trans p)
theorem keys_filter {β : Type} (q : Int → Bool) : ∀ l : List (Int × β), (ky l).filter q = (l.filter fun p => q p.1).map fun p => p.1
  | [] => rfl
  | p :: l => by
    have ih := keys_filter q l
    rw [ky, List.map_cons]
    cases e : q p.1 with
    | true => rw [List.filter_cons_of_pos e, List.filter_cons_of_pos (by simpa using e), List.map_cons, ← ih]
    | false => rw [List.filter_cons_of_neg (by simp [e]), List.filter_cons_of_neg (by simp [e]), ← ih]
theorem overL_eq {R : Ru} {s t : St} (si : SI R 0 s) (h : Sim s t) : overL t = (overS s).map fun p => p.1 := by
  unfold overL overS
  rw [sortZ_eq (h.rd.map _) si.rs, keys_filter]
  congr 1
  refine List.filter_congr fun p hp => ?_
  have q : rowOf t.ready p.1 = some p := rowOf_at (h.rd.map _ |>.nodup_iff.mpr h.rdn) (h.rd.mem_iff.mpr hp)
  simp only [q, h.day]
  congr 1
  exact propext ⟨fun z => by omega, fun z => by omega⟩
theorem any_perm {α : Type} {l m : List α} (p : l.Perm m) (f : α → Bool) : l.any f = m.any f := by
  refine Bool.eq_iff_iff.mpr ?_
  rw [List.any_eq_true, List.any_eq_true]
  exact ⟨fun ⟨x, h, e⟩ => ⟨x, p.mem_iff.mp h, e⟩, fun ⟨x, h, e⟩ => ⟨x, p.mem_iff.mpr h, e⟩⟩
theorem any_due {R : Ru} {s t : St} (si : SI R 0 s) (h : Sim s t) : (t.loans.any fun p => decide (p.2.1 = t.day)) = s.loans.any fun p => decide (p.2.1 ≤ s.day) := by
  rw [any_perm h.loans, h.day]
  refine Bool.eq_iff_iff.mpr ?_
  rw [List.any_eq_true, List.any_eq_true]
  constructor
  · rintro ⟨p, hp, e⟩
    have : p.2.1 = s.day := by simpa using e
    exact ⟨p, hp, decide_eq_true (by omega)⟩
  · rintro ⟨p, hp, e⟩
    have e1 : p.2.1 ≤ s.day := by simpa using e
    have e2 := (si.due p hp).1
    exact ⟨p, hp, decide_eq_true (by omega)⟩
theorem sim_day {R : Ru} {s t : St} (si : SI R 0 s) (h : Sim s t) : match nextDay R s with
    | some s' => (lDay R t).1 = true ∧ Sim s' (lDay R t).2
    | none => (lDay R t).1 = false := by
  rw [nextDay_eq]
  unfold lDay
  rw [any_due si h]
  cases a : s.loans.any fun p => decide (p.2.1 ≤ s.day) with
  | true => rfl
  | false =>
    refine ⟨rfl, ?_⟩
    show Sim _ ((overL t).foldl (popBack R) { t with day := t.day + 1 })
    rw [overL_eq si h]
    refine SimX.pops (overS s) ?_
    obtain ⟨hd, hs, hw, hl, hr, hre, nr, nw, nd, dis⟩ := h
    rw [List.append_nil] at hr nd dis
    have sp : ((dawn s).ready ++ overS s).Perm s.ready := by
      have q := List.filter_append_perm (fun p : Int × Int => decide (s.day < p.2)) s.ready
      have e : (fun p : Int × Int => !decide (s.day < p.2)) = fun p => decide (p.2 ≤ s.day) := by
        funext p
        by_cases h : s.day < p.2
        · have : ¬ p.2 ≤ s.day := by omega
          simp [h, this]
        · have : p.2 ≤ s.day := by omega
          simp [h, this]
      rw [e] at q
      exact q
    exact ⟨by show t.day + 1 = s.day + 1; omega, hs, hw, hl, hr.trans sp.symm, hre, nr, nw, (sp.map _).nodup_iff.mpr nd, fun w hw hk => dis w hw ((sp.map _).mem_iff.mp hk)⟩
theorem sim_days {R : Ru} (h0 : 0 ≤ R.h) : ∀ (n : Nat) {s t : St}, SI R 0 s → Sim s t → match passed R n s with
    | some s' => (lDays R n t).1 = true ∧ Sim s' (lDays R n t).2
    | none => (lDays R n t).1 = false
  | 0, s, t, si, h => ⟨rfl, h⟩
  | n + 1, s, t, si, h => by
    have q := sim_day si h
    unfold passed lDays
    cases e : nextDay R s with
    | none =>
      rw [e] at q
      simp only at q
      simp only [q, Bool.false_eq_true, if_false]
    | some u =>
      rw [e] at q
      simp only at q
      simp only [q.1, if_true]
      exact sim_days h0 n (SI.day h0 si e) q.2
theorem Sim.size {s t : St} (h : Sim s t) : t.size = s.size := by
  unfold St.size
  rw [h.loans.length_eq, h.rd.length_eq, h.wait, h.rests.length_eq]
theorem sim_req {R : Ru} (ok : R.ok) {s t : St} (si : SI R 0 s) (h : Sim s t) (hl : s.size < 700000) : LReq t := by
  have c := si.cons
  have c4 := ok.2.1
  have sh := si.sh
  refine ⟨?_, (h.loans.map _).nodup_iff.mpr (lt_nodup si.ls), (h.rd.map _).nodup_iff.mpr h.rdn, by rw [h.size]; exact hl⟩
  rw [h.rd.length_eq]
  omega
theorem sim_reqs {R : Ru} (ok : R.ok) : ∀ (n : Nat) {s t : St}, SI R 0 s → Sim s t → s.size < 700000 → LReqs R n t
  | 0, _, _, _, _, _ => trivial
  | n + 1, s, t, si, h, hl => by
    refine ⟨sim_req ok si h hl, fun z => ?_⟩
    have q := sim_day si h
    cases e : nextDay R s with
    | none =>
      rw [e] at q
      simp only at q
      rw [q] at z
      cases z
    | some u =>
      rw [e] at q
      simp only at q
      have q2 := size_next e
      exact sim_reqs ok n (SI.day ok.2.2.2.2.2.2.2.2.1 si e) q.2 (by omega)
theorem sim_hreq {R : Ru} (ok : R.ok) {s t : St} {e : Ev} (he : e.okn) (si : SI R 0 s) (h : Sim s t) (hl : s.size < 700000) : HReq R t e := by
  cases e with
  | da n => exact ⟨he, sim_reqs ok n si h hl⟩
  | _ => show t.size < 700000; rw [h.size]; exact hl
theorem rowOf_sim {β : Type} {l m : List (Int × β)} (p : l.Perm m) (nd : (ky m).Nodup) (r : Int) : rowOf l r = rowOf m r := rowOf_perm p ((p.map _).nodup_iff.mpr nd) r
theorem may_sim {R : Ru} {s t : St} (si : SI R 0 s) (h : Sim s t) (r : Int) : lMay t r = canCome s r := by
  unfold lMay canCome
  rw [rowOf_sim h.loans (lt_nodup si.ls), rowOf_sim h.rests h.nr, h.day]
  congr 1
  cases rowOf s.rests r with
  | none => simpa using si.dy
  | some p => rfl
def Stp : Option St → Bool × St → Prop
  | some s', p => p.1 = true ∧ Sim s' p.2
  | none, p => p.1 = false
/-- the law's model: the same events are allowed, and the states stay alike -/
theorem sim_step {R : Ru} (ok : R.ok) {s t : St} (e : Ev) (si : SI R 0 s) (h : Sim s t) : Stp (nextSt R s e) (lHap R t e) := by
  cases e with
  | da n =>
    have q := sim_days ok.2.2.2.2.2.2.2.2.1 n si h
    show Stp (passed R n s) (lDays R n t)
    unfold Stp
    cases e : passed R n s with
    | none => rw [e] at q; exact q
    | some u => rw [e] at q; exact q
  | bo r =>
    have si' : ∀ u, borrowed R s r = some u → SI R 0 u := fun u hu => SI.step ok (e := .bo r) (fun _ q => by cases q) si hu
    simp only [nextSt, lHap]
    unfold lBorrow
    rw [may_sim si h, rowOf_sim h.rd h.rdn, h.shelf]
    unfold borrowed at si' ⊢
    by_cases hc : canCome s r = true
    · rw [if_pos hc] at si'
      rw [if_pos hc, if_pos hc]
      have nk : r ∉ ky s.loans := by
        unfold canCome at hc
        rw [Bool.and_eq_true] at hc
        exact rowOf_none.mp (by simpa using hc.1)
      have nk' : r ∉ ky t.loans := fun z => nk ((h.loans.map _).mem_iff.mp z)
      have pl : (putA t.loans r (t.day + R.l, 0)).Perm (isK r3 (s.loans ++ [(r, s.day + R.l, 0)])) := by
        rw [putA_none _ nk', h.day]
        exact (h.loans.append_right _).trans (isK_perm _ _).symm
      by_cases hr : (rowOf s.ready r).isSome = true
      · rw [if_pos hr] at si'
        rw [if_pos hr, if_pos hr]
        exact ⟨rfl, Sim.of (si' _ rfl) h.day rfl h.wait pl (wo_perm h.rd r) h.rests h.nr⟩
      · rw [if_neg hr] at si'
        rw [if_neg hr, if_neg hr]
        by_cases hs : 0 < s.shelf
        · rw [if_pos hs] at si' ⊢
          rw [if_neg (by omega)]
          exact ⟨rfl, Sim.of (si' _ rfl) h.day rfl h.wait pl h.rd h.rests h.nr⟩
        · have := si.sh
          rw [if_neg hs, if_pos (by omega)]
          rfl
    · rw [if_neg hc, if_neg hc]
      rfl
  | re r =>
    simp only [nextSt, lHap]
    unfold lReturn returned
    rw [rowOf_sim h.loans (lt_nodup si.ls)]
    by_cases hc : (rowOf s.loans r).isSome = true
    · rw [if_pos hc, if_pos hc]
      refine ⟨rfl, SimX.back ?_⟩
      have pr : (putA t.rests r (t.day + R.s)).Perm (wo s.rests r ++ [(r, s.day + R.s)]) := by
        rw [h.day]
        exact (putA_perm ((h.rests.map _).nodup_iff.mpr h.nr)).trans ((wo_perm h.rests r).append_right _)
      have nr' : (ky (wo s.rests r ++ [(r, s.day + R.s)])).Nodup := nd_snoc (h.nr.sublist (wo_sub _ _)) fun z => (wo_keys.mp z).2 rfl
      exact ⟨h.day, h.shelf, h.wait, wo_perm h.loans r, h.ready, pr, nr', h.nw, h.nd, h.dis⟩
    · rw [if_neg hc, if_neg hc]
      rfl
  | rn r =>
    have si' : ∀ u, renewed R s r = some u → SI R 0 u := fun u hu => SI.step ok (e := .rn r) (fun _ q => by cases q) si hu
    simp only [nextSt, lHap]
    unfold lRenew
    unfold renewed at si' ⊢
    rw [rowOf_sim h.loans (lt_nodup si.ls)]
    cases e : rowOf s.loans r with
    | none => rfl
    | some p =>
      obtain ⟨q, due, n⟩ := p
      rw [e] at si'
      simp only at si' ⊢
      have dn := si.due _ (rowOf_mem e).1
      simp only at dn
      by_cases hh : s.wait = [] ∧ n < R.r ∧ due - s.day ≤ R.w
      · rw [if_pos hh] at si' ⊢
        rw [if_pos (by rw [h.wait, h.day]; exact ⟨hh.1, by omega, hh.2.2⟩)]
        refine ⟨rfl, Sim.of (si' _ rfl) h.day h.shelf h.wait ?_ h.rd h.rests h.nr⟩
        exact ((putA_perm ((h.loans.map _).nodup_iff.mpr (lt_nodup si.ls))).trans ((wo_perm h.loans r).append_right _)).trans (isK_perm _ _).symm
      · rw [if_neg hh]
        rw [if_neg (fun z => hh ⟨by rw [← h.wait]; exact z.1, by omega, by rw [← h.day]; exact z.2.2⟩)]
        rfl
  | wa r =>
    simp only [nextSt, lHap]
    unfold lWait waited
    rw [may_sim si h, rowOf_sim h.rd h.rdn, h.shelf, h.wait]
    by_cases hc : canCome s r = true ∧ r ∉ s.wait ∧ (rowOf s.ready r).isSome = false
    · obtain ⟨h1, h2, h3⟩ := hc
      rw [if_pos (⟨h1, h2, h3⟩ : canCome s r = true ∧ r ∉ s.wait ∧ (rowOf s.ready r).isSome = false), if_pos (⟨h1, h3, h2⟩ : canCome s r = true ∧ (rowOf s.ready r).isSome = false ∧ r ∉ s.wait)]
      have hr' : r ∉ ky s.ready := rowOf_none.mp (by simpa using h3)
      have base : ∀ x : Int, SimX [] { s with shelf := x, wait := s.wait ++ [r] } { t with shelf := x, wait := s.wait ++ [r] } := fun x => by
        refine ⟨h.day, rfl, rfl, h.loans, h.ready, h.rests, h.nr, ?_, h.nd, fun w hw => ?_⟩
        · refine List.nodup_append.mpr ⟨h.nw, by simp, fun a ha b hb e => ?_⟩
          have : b = r := by simpa using hb
          subst this
          exact h2 (e ▸ ha)
        · rcases List.mem_append.mp hw with z | z
          · exact h.dis w z
          · have : w = r := by simpa using z
            subst this
            rw [List.append_nil]
            exact hr'
      by_cases hs : 0 < s.shelf
      · rw [if_pos hs, if_pos hs]
        exact ⟨rfl, SimX.back (base (s.shelf - 1))⟩
      · rw [if_neg hs, if_neg hs]
        refine ⟨rfl, ?_⟩
        have q := base s.shelf
        exact q
    · rw [if_neg hc, if_neg (fun z => hc ⟨z.1, z.2.2, z.2.1⟩)]
      rfl
  | le r =>
    simp only [nextSt, lHap]
    unfold lLeave left
    rw [rowOf_sim h.rd h.rdn, h.wait]
    by_cases hw : r ∈ s.wait
    · rw [if_pos hw, if_pos hw]
      refine ⟨rfl, h.day, h.shelf, ?_, h.loans, h.ready, h.rests, h.nr, h.nw.sublist List.filter_sublist, h.nd, fun w hw => h.dis w (List.mem_filter.mp hw).1⟩
      show s.wait.erase r = s.wait.filter _
      rw [h.nw.erase_eq_filter]
      refine List.filter_congr fun x _ => ?_
      by_cases e : x = r <;> simp [e]
    · rw [if_neg hw, if_neg hw]
      by_cases hr : (rowOf s.ready r).isSome = true
      · rw [if_pos hr, if_pos hr]
        refine ⟨rfl, SimX.back ?_⟩
        have e1 := h.rdn.sublist (wo_sub s.ready r)
        have q : Sim { s with ready := wo s.ready r } { t with ready := wo t.ready r, wait := s.wait } := ⟨h.day, h.shelf, rfl, h.loans, by rw [List.append_nil]; exact wo_perm h.rd r, h.rests, h.nr, h.nw, by rw [List.append_nil]; exact e1, fun w hw hk => by
          rw [List.append_nil] at hk
          have q := h.dis w hw
          rw [List.append_nil] at q
          exact q (wo_keys.mp hk).1⟩
        exact q
      · rw [if_neg hr, if_neg hr]
        rfl
end DP
end

section
namespace DP
open PySem PySem.Spec PyProof.Rows L2 DP.G
/-! ### a drawn history, one turn -/
def hS1 : Env → RS := kAs (kCall [true, false] [some 0, none] d__law_pick (kCons (kMark 0) (kCons (kD (.int 9)) (kNil)))) (hName 7)
def hS2 : Env → RS := kAs (kCall [true, false] [some 0, none] d__law_pick (kCons (kMark 0) (kCons (kD (.int 7)) (kNil)))) (hName 8)
def hS3 : Env → RS := kAs (k2 gIx (kMk .lst (kCons (kD (.str "borrow")) (kCons (kD (.str "borrow")) (kCons (kD (.str "return")) (kCons (kD (.str "renew")) (kCons (kD (.str "wait")) (kCons (kD (.str "wait")) (kCons (kD (.str "leave")) (kCons (kD (.str "days")) (kCons (kD (.str "days")) (kNil))))))))))) (kVar 7)) (hName 9)
def hS4 : Env → RS := kAs (kDSrt 4 ([] ++ [2])) (hName 10)
def hS5 : Env → RS := kIf (kAnd (kB (k2 gIn (kVar 9) (kMk .tup (kCons (kD (.str "return")) (kCons (kD (.str "renew")) (kNil)))))) (kB (k2 gNe (kFrz 10) (kMk .lst (kNil))))) (kAs (k2 gIx (kFrz 10) (kCall [true, false] [some 0, none] d__law_pick (kCons (kMark 0) (kCons (kn gLen (kCons (kFrz 10) (kNil))) (kNil))))) (hName 8)) (kNx)
def hS6 : Env → RS := kAs (kMk .tup (kCons (kVar 9) (kCons (kVar 8) (kNil)))) (hName 11)
def hS7 : Env → RS := kIf (kB (k2 gEq (kVar 9) (kD (.str "days")))) (kSq (kAs (kMk .tup (kCons (kVar 9) (kCons (k2 gAdd (kD (.int 1)) (kCall [true, false] [some 0, none] d__law_pick (kCons (kMark 0) (kCons (k2 gIx (kMk .lst (kCons (kD (.int 2)) (kCons (k2 gAdd (k2 gIx (kVar 1) (kD (.int 1))) (kD (.int 2))) (kNil)))) (kCall [true, false] [some 0, none] d__law_pick (kCons (kMark 0) (kCons (kD (.int 2)) (kNil))))) (kNil))))) (kNil)))) (hName 11)) (kSq (kAs (k2 gSub (kn gMinL (kCons (k2 gAdd (kLc [14] (kIt (kFrz 10)) (hName 14) (kYes) (k2 gIx (kDGet 4 ([] ++ [2]) (kVar 14)) (kD (.int 0)))) (kMk .lst (kCons (k2 gPow (kD (.int 10)) (kD (.int 6))) (kNil)))) (kNil))) (kLeaf 4 ([] ++ [0]))) (hName 12)) (kIf (kB (k2 gEq (kVar 12) (kD (.int 0)))) (kAs (kMk .tup (kCons (kD (.str "return")) (kCons (k2 gIx (kLc [14] (kIt (kFrz 10)) (hName 14) (kB (k2 gEq (k2 gIx (kDGet 4 ([] ++ [2]) (kVar 14)) (kD (.int 0))) (kLeaf 4 ([] ++ [0])))) (kVar 14)) (kD (.int 0))) (kNil)))) (hName 11)) (kIf (kOr (kNot (kB (kVar 3))) (kB (k2 gGt (kCall [true, false] [some 0, none] d__law_pick (kCons (kMark 0) (kCons (kD (.int 8)) (kNil)))) (kD (.int 0))))) (kAs (kMk .tup (kCons (kVar 9) (kCons (kn gMin2 (kCons (kVar 12) (kCons (k2 gIx (kVar 11) (kD (.int 1))) (kNil)))) (kNil)))) (hName 11)) (kNx))))) (kNx)
def hS8 : Env → RS := kAs (kMk .lst (kCons (kLeaf 4 ([] ++ [0])) (kCons (kLeaf 4 ([] ++ [1])) (kCons (kDCpy 4 ([] ++ [2])) (kCons (kDCpy 4 ([] ++ [3])) (kCons (kLsP 4 ([] ++ [4])) (kCons (kDCpy 4 ([] ++ [5])) (kNil)))))))) (hName 13)
def hS9 : Env → RS := kIf (kB (kCall [false, true, false] [none, some 13, none] d__law_happens (kCons (kVar 1) (kCons (kMark 13) (kCons (kVar 11) (kNil)))))) (kSq (kAs (kMov 13) (hName 4)) (kAs (k2 gAdd (kVar 5) (kMk .tup (kCons (kVar 11) (kNil)))) (hName 5))) (kIf (kAnd (kB (kVar 3)) (kB (k2 gEq (kCall [true, false] [some 0, none] d__law_pick (kCons (kMark 0) (kCons (kD (.int 6)) (kNil)))) (kD (.int 0))))) (kAs (k2 gAdd (kVar 5) (kMk .tup (kCons (kVar 11) (kNil)))) (hName 5)) (kNx))
theorem hist_split : l__law_history_0 = kSq hS1 (kSq hS2 (kSq hS3 (kSq hS4 (kSq hS5 (kSq hS6 (kSq hS7 (kSq hS8 hS9))))))) := (rfl)
def hD1 : Env → RS := kAs (kMk .tup (kCons (kVar 9) (kCons (k2 gAdd (kD (.int 1)) (kCall [true, false] [some 0, none] d__law_pick (kCons (kMark 0) (kCons (k2 gIx (kMk .lst (kCons (kD (.int 2)) (kCons (k2 gAdd (k2 gIx (kVar 1) (kD (.int 1))) (kD (.int 2))) (kNil)))) (kCall [true, false] [some 0, none] d__law_pick (kCons (kMark 0) (kCons (kD (.int 2)) (kNil))))) (kNil))))) (kNil)))) (hName 11)
def hD2 : Env → RS := kAs (k2 gSub (kn gMinL (kCons (k2 gAdd (kLc [14] (kIt (kFrz 10)) (hName 14) (kYes) (k2 gIx (kDGet 4 ([] ++ [2]) (kVar 14)) (kD (.int 0)))) (kMk .lst (kCons (k2 gPow (kD (.int 10)) (kD (.int 6))) (kNil)))) (kNil))) (kLeaf 4 ([] ++ [0]))) (hName 12)
def hD3 : Env → RS := kIf (kB (k2 gEq (kVar 12) (kD (.int 0)))) (kAs (kMk .tup (kCons (kD (.str "return")) (kCons (k2 gIx (kLc [14] (kIt (kFrz 10)) (hName 14) (kB (k2 gEq (k2 gIx (kDGet 4 ([] ++ [2]) (kVar 14)) (kD (.int 0))) (kLeaf 4 ([] ++ [0])))) (kVar 14)) (kD (.int 0))) (kNil)))) (hName 11)) (kIf (kOr (kNot (kB (kVar 3))) (kB (k2 gGt (kCall [true, false] [some 0, none] d__law_pick (kCons (kMark 0) (kCons (kD (.int 8)) (kNil)))) (kD (.int 0))))) (kAs (kMk .tup (kCons (kVar 9) (kCons (kn gMin2 (kCons (kVar 12) (kCons (k2 gIx (kVar 11) (kD (.int 1))) (kNil)))) (kNil)))) (hName 11)) (kNx))
theorem hS7_eq : hS7 = kIf (kB (k2 gEq (kVar 9) (kD (.str "days")))) (kSq hD1 (kSq hD2 hD3)) kNx := (rfl)
section
variable {src : O} {R : Ru} {m : Sl} {t : St} {wild : Bool} {es : List Ev}
def hE (src : O) (R : Ru) (m : Sl) (wild : Bool) (t : St) (es : List Ev) (l : Env) : Env := .io src :: .v (.dat R.d) :: m :: .v (.dat (.bool wild)) :: .v (lsO t) :: .v (.dat (.tuple (es.map Ev.d))) :: l
theorem hs1 (S : Src src) {x6 x7 x8 x9 x10 x11 x12 x13 x14 : Sl} (w7 : x7.w = true) : ∃ (r : Int) (o : O), 0 ≤ r ∧ r < 9 ∧ Src o ∧ hS1 (hE src R m wild t es [x6, x7, x8, x9, x10, x11, x12, x13, x14]) = .nx (hE o R m wild t es [x6, .v (.dat (.int r)), x8, x9, x10, x11, x12, x13, x14]) := by
  obtain ⟨r, o, e, r0, r1, S'⟩ := pick_ok S (n := 9) (by decide) (by decide)
  refine ⟨r, o, r0, r1, S', ?_⟩
  unfold hS1 hE
  simp [e, lendIn, takeO, backs, putBack, w7]
theorem hs2 (S : Src src) {x6 x7 x8 x9 x10 x11 x12 x13 x14 : Sl} (w8 : x8.w = true) : ∃ (r : Int) (o : O), 0 ≤ r ∧ r ≤ 6 ∧ Src o ∧ hS2 (hE src R m wild t es [x6, x7, x8, x9, x10, x11, x12, x13, x14]) = .nx (hE o R m wild t es [x6, x7, .v (.dat (.int r)), x9, x10, x11, x12, x13, x14]) := by
  obtain ⟨r, o, e, r0, r1, S'⟩ := pick_ok S (n := 7) (by decide) (by decide)
  refine ⟨r, o, r0, by omega, S', ?_⟩
  unfold hS2 hE
  simp [e, lendIn, takeO, backs, putBack, w8]
inductive Wd where
  | bo | re | rn | wa | le | da
def Wd.d : Wd → PyData
  | .bo => .str "borrow"
  | .re => .str "return"
  | .rn => .str "renew"
  | .wa => .str "wait"
  | .le => .str "leave"
  | .da => .str "days"
theorem hs3 {r : Int} (r0 : 0 ≤ r) (r1 : r < 9) {x6 x8 x9 x10 x11 x12 x13 x14 : Sl} (w9 : x9.w = true) : ∃ w : Wd, hS3 (hE src R m wild t es [x6, .v (.dat (.int r)), x8, x9, x10, x11, x12, x13, x14]) = .nx (hE src R m wild t es [x6, .v (.dat (.int r)), x8, .v (.dat w.d), x10, x11, x12, x13, x14]) := by
  unfold hS3 hE
  obtain rfl | rfl | rfl | rfl | rfl | rfl | rfl | rfl | rfl : r = 0 ∨ r = 1 ∨ r = 2 ∨ r = 3 ∨ r = 4 ∨ r = 5 ∨ r = 6 ∨ r = 7 ∨ r = 8 := by omega
  · exact ⟨.bo, by simp [w9, atI, ixN, Wd.d]⟩
  · exact ⟨.bo, by simp [w9, atI, ixN, Wd.d]⟩
  · exact ⟨.re, by simp [w9, atI, ixN, Wd.d]⟩
  · exact ⟨.rn, by simp [w9, atI, ixN, Wd.d]⟩
  · exact ⟨.wa, by simp [w9, atI, ixN, Wd.d]⟩
  · exact ⟨.wa, by simp [w9, atI, ixN, Wd.d]⟩
  · exact ⟨.le, by simp [w9, atI, ixN, Wd.d]⟩
  · exact ⟨.da, by simp [w9, atI, ixN, Wd.d]⟩
  · exact ⟨.da, by simp [w9, atI, ixN, Wd.d]⟩
def inO (l : List Int) : O := .node .lst ((l.map PyData.int).map .dat)
theorem hs4 (h : t.loans.length < 64) {x6 x7 x8 x9 x10 x11 x12 x13 x14 : Sl} (w10 : x10.w = true) : hS4 (hE src R m wild t es [x6, x7, x8, x9, x10, x11, x12, x13, x14]) = .nx (hE src R m wild t es [x6, x7, x8, x9, .v (inO (sortZ (ky t.loans))), x11, x12, x13, x14]) := by
  have e : (t.loans.map lp3).map (fun p => p.1) = ky t.loans := by rw [List.map_map]; rfl
  unfold hS4 hE
  simp [w10, getP, slotO, O.get, nth, Shp.at, lsO, h, inO]
def Wd.rr : Wd → Bool
  | .re => true
  | .rn => true
  | _ => false
theorem in_rr (w : Wd) : gIn w.d (.tuple [.str "return", .str "renew"]) = some (.dat (.bool w.rr)) := by
  have h : inD w.d [.str "return", .str "renew"] = w.rr := by cases w <;> decide +kernel
  have f : flatD w.d = true := by cases w <;> rfl
  show (if flatD w.d = true ∧ ([PyData.str "return", .str "renew"]).all flatD = true then some (O.dat (.bool (inD w.d _))) else none) = _
  rw [if_pos ⟨f, rfl⟩, h]
theorem datsO_ints (l : List Int) : datsO (l.map (O.dat ∘ PyData.int)) = some (l.map .int) := by
  rw [← List.map_map]
  exact datsO_map _
theorem toD_inO (l : List Int) : (inO l).toD = some (.list (l.map .int)) := by
  unfold inO
  rw [toD_lst, toDs_map]
  rfl
theorem hs5 (S : Src src) {who : Int} {w : Wd} {L : O} {l : List Int} (hL : L.toD = some (.list (l.map .int))) (hl : l.length < 1000) (h6 : ∀ r ∈ l, 0 ≤ r ∧ r ≤ 6) (hw : 0 ≤ who ∧ who ≤ 6) {x6 x7 x11 x12 x13 x14 : Sl} : ∃ (r : Int) (o L' : O), 0 ≤ r ∧ r ≤ 6 ∧ Src o ∧ L'.toD = some (.list (l.map .int)) ∧
    hS5 (hE src R m wild t es [x6, x7, .v (.dat (.int who)), .v (.dat w.d), .v L, x11, x12, x13, x14]) = .nx (hE o R m wild t es [x6, x7, .v (.dat (.int r)), .v (.dat w.d), .v L', x11, x12, x13, x14]) := by
  have i := in_rr w
  have ne := ne_ints l
  cases hr : w.rr with
  | false =>
    rw [hr] at i
    refine ⟨who, src, L, hw.1, hw.2, S, hL, ?_⟩
    unfold hS5 hE
    generalize w.d = W at *
    simp [i, hL, fz_tup]
  | true =>
    rw [hr] at i
    cases l with
    | nil =>
      refine ⟨who, src, .dat (.list []), hw.1, hw.2, S, rfl, ?_⟩
      unfold hS5 hE
      generalize w.d = W at *
      simp [i, hL, fz_tup, ne]
    | cons a l =>
      obtain ⟨r, o, e, r0, r1, S'⟩ := pick_ok S (n := ((a :: l).length : Int)) (by rw [List.length_cons]; omega) (by omega)
      obtain ⟨d, hd, md⟩ := atI_mem (xs := (a :: l).map PyData.int) (i := r) r0 (by simpa using r1)
      obtain ⟨z, mz, rfl⟩ := List.mem_map.mp md
      obtain ⟨z0, z1⟩ := h6 z mz
      have gl : gLen [.list ((a :: l).map .int)] = some (.dat (.int ((a :: l).length : Int))) := by
        rw [gLen_l, List.length_map]
      have gx : gIx (.list ((a :: l).map .int)) (.int r) = some (.dat (.int z)) := by rw [gIx_l, hd]; rfl
      have hk : (a :: l) ≠ [] := by simp
      generalize (a :: l) = k at *
      have hk' : k.isEmpty = false := by cases k with
        | nil => exact absurd rfl hk
        | cons _ _ => rfl
      rw [hk'] at ne
      refine ⟨z, o, .dat (.list (k.map .int)), z0, z1, S', rfl, ?_⟩
      unfold hS5 hE
      generalize w.d = W at *
      generalize (k.length : Int) = n at *
      generalize PyData.list (k.map .int) = D at *
      simp [i, hL, fz_tup, ne, gl, e, gx, lendIn, takeO, backs, putBack]
theorem hs6 {who : Int} {w : Wd} {x6 x7 x10 x11 x12 x13 x14 : Sl} (w11 : x11.w = true) : hS6 (hE src R m wild t es [x6, x7, .v (.dat (.int who)), .v (.dat w.d), x10, x11, x12, x13, x14]) = .nx (hE src R m wild t es [x6, x7, .v (.dat (.int who)), .v (.dat w.d), x10, .v (.dat (.tuple [w.d, .int who])), x12, x13, x14]) := by
  unfold hS6 hE
  simp [fz_tup, w11]
theorem hd1 (S : Src src) (ok : R.ok) {x6 x7 x8 x10 x11 x12 x13 x14 : Sl} (w11 : x11.w = true) : ∃ (n : Int) (o : O), 1 ≤ n ∧ n ≤ 32 ∧ Src o ∧ hD1 (hE src R m wild t es [x6, x7, x8, .v (.dat (.str "days")), x10, x11, x12, x13, x14]) = .nx (hE o R m wild t es [x6, x7, x8, .v (.dat (.str "days")), x10, .v (.dat (.tuple [.str "days", .int n])), x12, x13, x14]) := by
  obtain ⟨_, _, l0, l1, _⟩ := ok
  obtain ⟨i, z, r, o1, o2, e1, e2, e3, r0, r1, S'⟩ := pick2_ok S (x := 2) (y := R.l + 2) (by decide) (by decide) (by omega) (by omega)
  refine ⟨1 + r, o2, by omega, by omega, S', ?_⟩
  unfold hD1 hE
  simp [e1, e2, e3, lendIn, takeO, backs, putBack, w11, fz_tup]
theorem ls_day (t : St) : (lsO t).get [0] = some (.dat (.int t.day)) := rfl
def dueOf (t : St) (r : Int) : Int := match rowOf t.loans r with
  | some p => p.2.1
  | none => 0
def limOf (t : St) (l : List Int) : Int := minZ (l.map (dueOf t) ++ [1000000]) - t.day
theorem intsD_ints : ∀ l : List Int, intsD (l.map .int) = some l
  | [] => rfl
  | a :: l => by rw [List.map_cons, intsD, intsD_ints l]; rfl
theorem gMinL_ints {l : List Int} (h : l ≠ []) : gMinL [.list (l.map .int)] = some (.dat (.int (minZ l))) := by
  cases l with
  | nil => exact absurd rfl h
  | cons a l =>
    have q := intsD_ints (a :: l)
    show (match intsD ((a :: l).map .int) with
      | some (n :: ns) => some (O.dat (.int (minZ (n :: ns))))
      | _ => none) = _
    rw [q]
theorem rowOf_due {t : St} {r : Int} (h : r ∈ ky t.loans) : (rowOf t.loans r).map (fun p => PyData.list [.int p.2.1, .int p.2.2]) = some (.list [.int (dueOf t r), .int (((rowOf t.loans r).map fun p => p.2.2).getD 0)]) := by
  have q := rowOf_some.mpr h
  unfold dueOf
  cases e : rowOf t.loans r with
  | none => rw [e] at q; cases q
  | some p => rfl
theorem hd2 {L : O} {l : List Int} (hL : L.toD = some (.list (l.map .int))) (hl : l.length < 1000) (hk : ∀ r ∈ l, r ∈ ky t.loans) {x6 x7 x8 x9 x11 x12 x13 x14 : Sl} (w12 : x12.w = true) (w14 : x14.w = true) : hD2 (hE src R m wild t es [x6, x7, x8, x9, .v L, x11, x12, x13, x14]) = .nx (hE src R m wild t es [x6, x7, x8, x9, .v (.dat (.list (l.map .int))), x11, .v (.dat (.int (limOf t l))), x13, .no]) := by
  have x := compL_map (own := [14]) (hg := hName 14) (t := kYes) (f := k2 gIx (kDGet 4 ([] ++ [2]) (kVar 14)) (kD (.int 0))) (env := hE src R m wild t es [x6, x7, x8, x9, .v (.dat (.list (l.map .int))), x11, x12, x13, .no])
    PyData.int (fun _ => true) (fun r => .dat (.int (dueOf t r))) l (fun r hr => by
      have q := rowOf_due (hk r hr)
      refine ⟨_, hE src R m wild t es [x6, x7, x8, x9, .v (.dat (.list (l.map .int))), x11, x12, x13, .v (.dat (.int r))], rfl, rfl, fun _ => ⟨hE src R m wild t es [x6, x7, x8, x9, .v (.dat (.list (l.map .int))), x11, x12, x13, .v (.dat (.int r))], ?_, rfl⟩, fun z => nomatch z⟩
      generalize PyData.list (l.map .int) = D
      simp [getP, slotO, O.get, nth, Shp.at, lsO, q, hE]) (by omega)
  have ft : (l.filter fun _ => true) = l := List.filter_eq_self.mpr fun _ _ => rfl
  rw [ft] at x
  have td : O.toDs (l.map fun r => O.dat (.int (dueOf t r))) = some ((l.map (dueOf t)).map .int) := by
    rw [List.map_map]
    exact toDs_mapc (fun r => PyData.int (dueOf t r)) l
  have ga : gAdd (.list ((l.map (dueOf t)).map .int)) (.list [.int 1000000]) = some (.node .lst (((l.map (dueOf t) ++ [1000000]).map PyData.int).map O.dat)) := by
    show (if ((l.map (dueOf t)).map PyData.int).length + 1 ≤ 1000000 then some (O.node .lst (((l.map (dueOf t)).map PyData.int ++ [PyData.int 1000000]).map O.dat)) else none) = _
    rw [if_pos (by simp; omega), List.map_append, List.map_append, List.map_append]
    rfl
  have tn : O.toD (.node .lst (((l.map (dueOf t) ++ [1000000]).map PyData.int).map O.dat)) = some (.list ((l.map (dueOf t) ++ [1000000]).map .int)) := by rw [toD_lst, toDs_map]; rfl
  have gm := gMinL_ints (l := l.map (dueOf t) ++ [1000000]) (by simp)
  have sq : seqD (.list (l.map .int)) = some (l.map .int) := rfl
  unfold limOf
  generalize l.map (dueOf t) ++ [1000000] = ds at *
  generalize (l.map (dueOf t)).map PyData.int = dd at *
  generalize l.map (fun r => O.dat (.int (dueOf t r))) = od at *
  simp only [hE, List.nil_append] at x
  unfold hD2 hE
  generalize PyData.list (l.map .int) = D at *
  generalize O.node .lst ((ds.map PyData.int).map O.dat) = N at *
  generalize PyData.list (ds.map .int) = M at *
  simp [hL, sq, wipeE, w12, w14, x, td, ga, tn, gm, lcEnd, getP, slotO, ls_day]
/-- events of a drawn history -/
def Ev.okh : Ev → Prop
  | .bo r => 0 ≤ r ∧ r ≤ 6
  | .re r => 0 ≤ r ∧ r ≤ 6
  | .rn r => 0 ≤ r ∧ r ≤ 6
  | .wa r => 0 ≤ r ∧ r ≤ 6
  | .le r => 0 ≤ r ∧ r ≤ 6
  | .da n => 1 ≤ n ∧ n ≤ 32
theorem da_of {n : Int} (n0 : 1 ≤ n) (n1 : n ≤ 32) : ∃ e : Ev, e.okh ∧ PyData.tuple [.str "days", .int n] = e.d := by
  refine ⟨.da n.toNat, ?_, ?_⟩
  · have : 1 ≤ n.toNat ∧ n.toNat ≤ 32 := by omega
    simpa only [Ev.okh] using this
  · show _ = PyData.tuple [.str "days", .int (n.toNat : Int)]
    rw [Int.toNat_of_nonneg (by omega)]
theorem hd3a {l : List Int} {n : Int} (hl : l.length < 1000) (hk : ∀ r ∈ l, r ∈ ky t.loans) (h6 : ∀ r ∈ l, 0 ≤ r ∧ r ≤ 6) (hx : ∃ r ∈ l, dueOf t r = t.day) {x6 x7 x8 x9 x13 : Sl} : ∃ e : Ev, e.okh ∧
    hD3 (hE src R m wild t es [x6, x7, x8, x9, .v (.dat (.list (l.map .int))), .v (.dat (.tuple [.str "days", .int n])), .v (.dat (.int 0)), x13, .no]) = .nx (hE src R m wild t es [x6, x7, x8, x9, .v (.dat (.list (l.map .int))), .v (.dat e.d), .v (.dat (.int 0)), x13, .no]) := by
  have x := compL_map (own := [14]) (hg := hName 14) (t := kB (k2 gEq (k2 gIx (kDGet 4 ([] ++ [2]) (kVar 14)) (kD (.int 0))) (kLeaf 4 ([] ++ [0])))) (f := kVar 14) (env := hE src R m wild t es [x6, x7, x8, x9, .v (.dat (.list (l.map .int))), .v (.dat (.tuple [.str "days", .int n])), .v (.dat (.int 0)), x13, .no])
    PyData.int (fun r => decide (dueOf t r = t.day)) (fun r => .dat (.int r)) l (fun r hr => by
      have q := rowOf_due (hk r hr)
      refine ⟨hE src R m wild t es [x6, x7, x8, x9, .v (.dat (.list (l.map .int))), .v (.dat (.tuple [.str "days", .int n])), .v (.dat (.int 0)), x13, .v (.dat (.int r))], hE src R m wild t es [x6, x7, x8, x9, .v (.dat (.list (l.map .int))), .v (.dat (.tuple [.str "days", .int n])), .v (.dat (.int 0)), x13, .v (.dat (.int r))], rfl, ?_, fun _ => ⟨hE src R m wild t es [x6, x7, x8, x9, .v (.dat (.list (l.map .int))), .v (.dat (.tuple [.str "days", .int n])), .v (.dat (.int 0)), x13, .v (.dat (.int r))], rfl, rfl⟩, fun _ => rfl⟩
      generalize PyData.list (l.map .int) = D
      simp [getP, slotO, O.get, nth, Shp.at, lsO, q, hE]) (by omega)
  obtain ⟨r0, m0, e0⟩ := hx
  obtain ⟨f, fs, ef⟩ : ∃ f fs, l.filter (fun r => decide (dueOf t r = t.day)) = f :: fs := by
    cases e : l.filter (fun r => decide (dueOf t r = t.day)) with
    | nil =>
      have : r0 ∈ l.filter (fun r => decide (dueOf t r = t.day)) := List.mem_filter.mpr ⟨m0, decide_eq_true e0⟩
      rw [e] at this
      cases this
    | cons f fs => exact ⟨f, fs, rfl⟩
  have mf : f ∈ l := (List.mem_filter.mp (by rw [ef]; exact List.mem_cons_self : f ∈ l.filter (fun r => decide (dueOf t r = t.day)))).1
  refine ⟨.re f, h6 f mf, ?_⟩
  rw [ef] at x
  have td : O.toDs ((f :: fs).map fun r => O.dat (.int r)) = some ((f :: fs).map .int) := toDs_mapc PyData.int (f :: fs)
  have gx : gIx (.list ((f :: fs).map .int)) (.int 0) = some (.dat (.int f)) := by
    rw [gIx_l, List.map_cons, atI_zero]
    rfl
  have sq : seqD (.list (l.map .int)) = some (l.map .int) := rfl
  generalize (f :: fs).map (fun r => O.dat (.int r)) = od at *
  generalize PyData.list ((f :: fs).map .int) = M at *
  simp only [hE, List.nil_append] at x
  unfold hD3 hE
  simp [sq, wipeE, x, lcEnd, td, gx, fz_tup, Ev.d, atI_zero]
theorem hd3b (S : Src src) {l : List Int} {n lim : Int} (n0 : 1 ≤ n) (n1 : n ≤ 32) (h0 : 1 ≤ lim) {x6 x7 x8 x10 x13 : Sl} : ∃ (e : Ev) (o : O), e.okh ∧ Src o ∧
    hD3 (hE src R m wild t es [x6, x7, x8, .v (.dat (.str "days")), x10, .v (.dat (.tuple [.str "days", .int n])), .v (.dat (.int lim)), x13, .no]) = .nx (hE o R m wild t es [x6, x7, x8, .v (.dat (.str "days")), x10, .v (.dat e.d), .v (.dat (.int lim)), x13, .no]) := by
  have ne : ¬ lim = 0 := by omega
  obtain ⟨k, hk⟩ : ∃ k, k = (if n < lim then n else lim) := ⟨_, rfl⟩
  have k0 : 1 ≤ k := by rw [hk]; split <;> omega
  have k1 : k ≤ 32 := by rw [hk]; split <;> omega
  obtain ⟨e, he, ee⟩ := da_of k0 k1
  obtain ⟨e', he', ee'⟩ := da_of n0 n1
  cases wild with
  | false =>
    refine ⟨e, src, he, S, ?_⟩
    unfold hD3 hE
    rw [← ee]
    simp [ne, fz_tup, ← hk]
  | true =>
    obtain ⟨r, o, e1, r0, r1, S'⟩ := pick_ok S (n := 8) (by decide) (by decide)
    by_cases hr : 0 < r
    · refine ⟨e, o, he, S', ?_⟩
      unfold hD3 hE
      rw [← ee]
      simp [ne, fz_tup, ← hk, e1, lendIn, takeO, backs, putBack, hr]
    · refine ⟨e', o, he', S', ?_⟩
      unfold hD3 hE
      rw [← ee']
      simp [ne, fz_tup, ← hk, e1, lendIn, takeO, backs, putBack, hr]
theorem hs8 {x6 x7 x8 x9 x10 x11 x12 x13 x14 : Sl} (w13 : x13.w = true) : hS8 (hE src R m wild t es [x6, x7, x8, x9, x10, x11, x12, x13, x14]) = .nx (hE src R m wild t es [x6, x7, x8, x9, x10, x11, x12, .v (lsO t), x14]) := by
  unfold hS8 hE
  simp [w13, getP, slotO, O.get, nth, Shp.at, lsO, datsO_ints]
theorem hs7o {who : Int} {w : Wd} (hw : w ≠ .da) {x6 x7 x8 x10 x11 x12 x13 x14 : Sl} : hS7 (hE src R m wild t es [x6, x7, x8, .v (.dat w.d), x10, x11, x12, x13, x14]) = .nx (hE src R m wild t es [x6, x7, x8, .v (.dat w.d), x10, x11, x12, x13, x14]) := by
  unfold hS7 hE
  cases w <;> simp [Wd.d] at hw ⊢
theorem dueOf_at {s t : St} (ls : (ky s.loans).Nodup) (h : t.loans.Perm s.loans) {p : Int × Int × Int} (hp : p ∈ s.loans) : dueOf t p.1 = p.2.1 := by
  unfold dueOf
  rw [rowOf_at ((h.map _).nodup_iff.mpr ls) (h.mem_iff.mpr hp)]
theorem lim_of {R : Ru} {s t : St} {l : List Int} (si : SI R 0 s) (h : Sim s t) (hl : ∀ r, r ∈ l ↔ r ∈ ky t.loans) (hd : s.day < 1000000) : 0 ≤ limOf t l ∧ (limOf t l = 0 → ∃ r ∈ l, dueOf t r = t.day) := by
  obtain ⟨m1, m2⟩ := minZ_mem (l := l.map (dueOf t) ++ [1000000]) (by simp)
  have ge : ∀ r ∈ l, s.day ≤ dueOf t r := fun r hr => by
    obtain ⟨p, hp, e⟩ := List.mem_map.mp ((hl r).mp hr)
    have hp' := h.loans.mem_iff.mp hp
    have q := dueOf_at (lt_nodup si.ls) h.loans hp'
    rw [← e, q]
    exact (si.due p hp').1
  unfold limOf
  rw [h.day]
  rcases List.mem_append.mp m1 with z | z
  · obtain ⟨r, hr, e⟩ := List.mem_map.mp z
    have := ge r hr
    rw [← e]
    exact ⟨by omega, fun q => ⟨r, hr, by omega⟩⟩
  · have e : minZ (l.map (dueOf t) ++ [1000000]) = 1000000 := by simpa using z
    rw [e]
    exact ⟨by omega, fun q => by omega⟩
theorem hs7 (S : Src src) (ok : R.ok) {s : St} {l : List Int} {L : O} {who : Int} {w : Wd} (si : SI R 0 s) (h : Sim s t) (hL : L.toD = some (.list (l.map .int))) (hl : l.length < 1000) (hm : ∀ r, r ∈ l ↔ r ∈ ky t.loans) (h6 : ∀ r ∈ l, 0 ≤ r ∧ r ≤ 6) (hd : s.day < 1000000) (hw : 0 ≤ who ∧ who ≤ 6)
    {x6 x7 x8 x12 x13 x14 : Sl} (w12 : x12.w = true) (w14 : x14.w = true) : ∃ (e : Ev) (o : O) (y10 y12 y14 : Sl), e.okh ∧ Src o ∧ y10.w = true ∧ y12.w = true ∧ y14.w = true ∧
      hS7 (hE src R m wild t es [x6, x7, x8, .v (.dat w.d), .v L, .v (.dat (.tuple [w.d, .int who])), x12, x13, x14]) = .nx (hE o R m wild t es [x6, x7, x8, .v (.dat w.d), y10, .v (.dat e.d), y12, x13, y14]) := by
  by_cases hda : w = .da
  · subst hda
    obtain ⟨n, o, n0, n1, S1, e1⟩ := hd1 (m := m) (t := t) (wild := wild) (es := es) S ok (x6 := x6) (x7 := x7) (x8 := x8) (x10 := .v L) (x11 := .v (.dat (.tuple [.str "days", .int who]))) (x12 := x12) (x13 := x13) (x14 := x14) rfl
    have e2 := hd2 (src := o) (R := R) (m := m) (t := t) (wild := wild) (es := es) hL hl (fun r hr => (hm r).mp hr) (x6 := x6) (x7 := x7) (x8 := x8) (x9 := .v (.dat (.str "days"))) (x11 := .v (.dat (.tuple [.str "days", .int n]))) (x13 := x13) w12 w14
    obtain ⟨l0, l1⟩ := lim_of si h hm hd
    have tt : kB (k2 gEq (kVar 9) (kD (.str "days"))) (hE src R m wild t es [x6, x7, x8, .v (.dat (.str "days")), .v L, .v (.dat (.tuple [.str "days", .int who])), x12, x13, x14]) = .ok true (hE src R m wild t es [x6, x7, x8, .v (.dat (.str "days")), .v L, .v (.dat (.tuple [.str "days", .int who])), x12, x13, x14]) := by simp [hE]
    show ∃ (e : Ev) (o : O) (y10 y12 y14 : Sl), e.okh ∧ Src o ∧ y10.w = true ∧ y12.w = true ∧ y14.w = true ∧
      hS7 (hE src R m wild t es [x6, x7, x8, .v (.dat (.str "days")), .v L, .v (.dat (.tuple [.str "days", .int who])), x12, x13, x14]) = .nx (hE o R m wild t es [x6, x7, x8, .v (.dat (.str "days")), y10, .v (.dat e.d), y12, x13, y14])
    by_cases z : limOf t l = 0
    · obtain ⟨e, he, e3⟩ := hd3a (src := o) (R := R) (m := m) (t := t) (wild := wild) (es := es) hl (fun r hr => (hm r).mp hr) h6 (l1 z) (n := n) (x6 := x6) (x7 := x7) (x8 := x8) (x9 := .v (.dat (.str "days"))) (x13 := x13)
      refine ⟨e, o, .v (.dat (.list (l.map .int))), .v (.dat (.int 0)), .no, he, S1, rfl, rfl, rfl, ?_⟩
      rw [hS7_eq, kIf_eq, tt, st_ok, if_pos rfl, kSq_eq, e1, sq_nx, kSq_eq, e2, sq_nx, z, e3]
    · obtain ⟨e, o2, he, S2, e3⟩ := hd3b (R := R) (m := m) (t := t) (wild := wild) (es := es) S1 (l := l) (n := n) n0 n1 (by omega : 1 ≤ limOf t l) (x6 := x6) (x7 := x7) (x8 := x8) (x10 := .v (.dat (.list (l.map .int)))) (x13 := x13)
      refine ⟨e, o2, .v (.dat (.list (l.map .int))), .v (.dat (.int (limOf t l))), .no, he, S2, rfl, rfl, rfl, ?_⟩
      rw [hS7_eq, kIf_eq, tt, st_ok, if_pos rfl, kSq_eq, e1, sq_nx, kSq_eq, e2, sq_nx, e3]
  · have q := hs7o (who := who) (src := src) (R := R) (m := m) (t := t) (wild := wild) (es := es) hda (x6 := x6) (x7 := x7) (x8 := x8) (x10 := .v L) (x11 := .v (.dat (.tuple [w.d, .int who]))) (x12 := x12) (x13 := x13) (x14 := x14)
    obtain ⟨e, he, ee⟩ : ∃ e : Ev, e.okh ∧ PyData.tuple [w.d, .int who] = e.d := by
      cases w with
      | bo => exact ⟨.bo who, hw, rfl⟩
      | re => exact ⟨.re who, hw, rfl⟩
      | rn => exact ⟨.rn who, hw, rfl⟩
      | wa => exact ⟨.wa who, hw, rfl⟩
      | le => exact ⟨.le who, hw, rfl⟩
      | da => exact absurd rfl hda
    rw [ee] at q ⊢
    exact ⟨e, src, _, _, _, he, S, rfl, w12, w14, q⟩
/-- an event comes behind the others -/
def hs9r (o : O) (R : Ru) (m : Sl) (wild : Bool) (t' : St) (es' : List Ev) (x6 x7 x8 x9 x10 x11 x12 y13 x14 : Sl) : RS := .nx (hE o R m wild t' es' [x6, x7, x8, x9, x10, x11, x12, y13, x14])
theorem hs9 (S : Src src) {e : Ev} (hr : HReq R t e) (hl : es.length < 1000) {x6 x7 x8 x9 x10 x12 x14 : Sl} : 
    ((lHap R t e).1 = true ∧ hS9 (hE src R m wild t es [x6, x7, x8, x9, x10, .v (.dat e.d), x12, .v (lsO t), x14]) = .nx (hE src R m wild (lHap R t e).2 (es ++ [e]) [x6, x7, x8, x9, x10, .v (.dat e.d), x12, .no, x14])) ∨
    ((lHap R t e).1 = false ∧ ∃ (o : O) (es' : List Ev) (y13 : Sl), Src o ∧ y13.w = true ∧ (es' = es ∨ (wild = true ∧ es' = es ++ [e])) ∧ hS9 (hE src R m wild t es [x6, x7, x8, x9, x10, .v (.dat e.d), x12, .v (lsO t), x14]) = .nx (hE o R m wild t es' [x6, x7, x8, x9, x10, .v (.dat e.d), x12, y13, x14])) := by
  have q := hap_ok R t e hr
  have hl' : es.length + 1 ≤ 1000000 := by omega
  generalize lHap R t e = z at q ⊢
  obtain ⟨b, t'⟩ := z
  simp only at q ⊢
  cases b with
  | true =>
    left
    refine ⟨rfl, ?_⟩
    obtain ⟨xs, hx⟩ : ∃ xs, lsO t' = .node .lst xs := ⟨_, rfl⟩
    unfold hS9 hE
    rw [hx] at q ⊢
    simp [q, bO, lendIn, takeO, backs, putBack, fz_tup, hl']
  | false =>
    right
    refine ⟨rfl, ?_⟩
    cases wild with
    | false =>
      refine ⟨src, es, .v (lsO t'), S, rfl, .inl rfl, ?_⟩
      unfold hS9 hE
      simp [q, bO, lendIn, takeO, backs, putBack]
    | true =>
      obtain ⟨r, o, e1, r0, r1, S'⟩ := pick_ok S (n := 6) (by decide) (by decide)
      by_cases h0 : r = 0
      · refine ⟨o, es ++ [e], .v (lsO t'), S', rfl, .inr ⟨rfl, rfl⟩, ?_⟩
        unfold hS9 hE
        simp [q, bO, lendIn, takeO, backs, putBack, e1, h0, fz_tup, hl']
      · refine ⟨o, es, .v (lsO t'), S', rfl, .inl rfl, ?_⟩
        unfold hS9 hE
        simp [q, bO, lendIn, takeO, backs, putBack, e1, h0]
end
end DP
end

section
namespace DP
open PySem PySem.Spec PyProof.Rows L2 DP.G
/-! ### drawn histories -/
theorem cb_day (R : Ru) (s : St) : (comeBack R s).day = s.day := by
  unfold comeBack
  split <;> rfl
theorem cb_loans (R : Ru) (s : St) : (comeBack R s).loans = s.loans := by
  unfold comeBack
  split <;> rfl
theorem fold_day (R : Ru) : ∀ (l : List (Int × Int)) (s : St), (l.foldl (fun u _ => comeBack R u) s).day = s.day ∧ (l.foldl (fun u _ => comeBack R u) s).loans = s.loans
  | [], _ => ⟨rfl, rfl⟩
  | _ :: l, s => by
    rw [List.foldl_cons]
    obtain ⟨h1, h2⟩ := fold_day R l (comeBack R s)
    exact ⟨h1.trans (cb_day R s), h2.trans (cb_loans R s)⟩
theorem nextDay_day {R : Ru} {s t : St} (h : nextDay R s = some t) : t.day = s.day + 1 ∧ t.loans = s.loans := by
  rw [nextDay_eq] at h
  split at h
  · cases h
  · cases h
    exact fold_day R _ _
theorem passed_day {R : Ru} : ∀ {n : Nat} {s t : St}, passed R n s = some t → t.day = s.day + n ∧ t.loans = s.loans
  | 0, s, t, h => by cases h; simp
  | n + 1, s, t, h => by
    unfold passed at h
    split at h
    · rename_i u hu
      obtain ⟨h1, h2⟩ := passed_day h
      obtain ⟨h3, h4⟩ := nextDay_day hu
      exact ⟨by omega, h2.trans h4⟩
    · cases h
def Ev.days : Ev → Int
  | .da n => n
  | _ => 0
theorem next_day_eq {R : Ru} {s t : St} {e : Ev} (h : nextSt R s e = some t) : t.day = s.day + e.days := by
  cases e with
  | da n => exact (passed_day h).1
  | bo r =>
    simp only [nextSt, borrowed] at h
    repeat' split at h
    all_goals cases h
    all_goals simp [Ev.days]
  | re r =>
    simp only [nextSt, returned] at h
    repeat' split at h
    all_goals cases h
    all_goals simp [Ev.days, cb_day]
  | rn r =>
    simp only [nextSt, renewed] at h
    repeat' split at h
    all_goals cases h
    all_goals simp [Ev.days]
  | wa r =>
    simp only [nextSt, waited] at h
    repeat' split at h
    all_goals cases h
    all_goals simp [Ev.days, cb_day]
  | le r =>
    simp only [nextSt, left] at h
    repeat' split at h
    all_goals cases h
    all_goals simp [Ev.days, cb_day]
theorem is3_key {l : List (Int × Int × Int)} {r w d n : Int} (h : w ∈ ky (isK r3 (l ++ [(r, d, n)]))) : w ∈ ky l ∨ w = r := by
  have h' := ((isK_perm r3 (l ++ [(r, d, n)])).map _).mem_iff.mp h
  rw [List.map_append] at h'
  rcases List.mem_append.mp h' with z | z
  · exact .inl z
  · exact .inr (by simpa using z)
theorem next_keys {R : Ru} {s t : St} {e : Ev} (h : nextSt R s e = some t) : ∀ w ∈ ky t.loans, w ∈ ky s.loans ∨ e = .bo w := by
  intro w hw
  cases e with
  | da n => exact .inl (by rw [← (passed_day h).2]; exact hw)
  | bo r =>
    simp only [nextSt, borrowed] at h
    repeat' split at h
    all_goals cases h
    all_goals
      rcases is3_key hw with z | z
      · exact .inl z
      · exact .inr (by rw [z])
  | re r =>
    simp only [nextSt, returned] at h
    repeat' split at h
    all_goals cases h
    rw [cb_loans] at hw
    exact .inl (wo_keys.mp hw).1
  | rn r =>
    simp only [nextSt, renewed] at h
    split at h
    · cases h
    · rename_i q d n hp
      split at h
      · cases h
        rcases is3_key hw with z | z
        · exact .inl (wo_keys.mp z).1
        · exact .inl (rowOf_some.mp (by rw [z, hp]; rfl))
      · cases h
  | wa r =>
    simp only [nextSt, waited] at h
    repeat' split at h
    all_goals cases h
    · rw [cb_loans] at hw
      exact .inl hw
    · exact .inl hw
  | le r =>
    simp only [nextSt, left] at h
    repeat' split at h
    all_goals cases h
    · exact .inl hw
    · rw [cb_loans] at hw
      exact .inl hw
theorem run_snoc {R : Ru} {e : Ev} {v : St} : ∀ {es : List Ev} {s u : St} {k : Nat}, runFrom R s es k = .ok u → nextSt R u e = some v → runFrom R s (es ++ [e]) k = .ok v
  | [], s, u, k, h, q => by
    cases h
    show runFrom R s [e] k = .ok v
    unfold runFrom
    rw [q]
    rfl
  | a :: es, s, u, k, h, q => by
    rw [List.cons_append]
    unfold runFrom at h ⊢
    split at h
    · exact run_snoc h q
    · cases h
theorem Ev.okh.v {e : Ev} (h : e.okh) : e.okv := by
  cases e with
  | da n =>
    have h' : 1 ≤ n ∧ n ≤ 32 := by simpa only [Ev.okh] using h
    have : 1 ≤ n ∧ n ≤ 1000 := by omega
    simpa only [Ev.okv] using this
  | bo r => have h' : 0 ≤ r ∧ r ≤ 6 := h; exact (by omega : 0 ≤ r ∧ r ≤ 999)
  | re r => have h' : 0 ≤ r ∧ r ≤ 6 := h; exact (by omega : 0 ≤ r ∧ r ≤ 999)
  | rn r => have h' : 0 ≤ r ∧ r ≤ 6 := h; exact (by omega : 0 ≤ r ∧ r ≤ 999)
  | wa r => have h' : 0 ≤ r ∧ r ≤ 6 := h; exact (by omega : 0 ≤ r ∧ r ≤ 999)
  | le r => have h' : 0 ≤ r ∧ r ≤ 6 := h; exact (by omega : 0 ≤ r ∧ r ≤ 999)
theorem Ev.okh.days {e : Ev} (h : e.okh) : e.days ≤ 32 := by
  cases e with
  | da n =>
    have h' : 1 ≤ n ∧ n ≤ 32 := h
    show (n : Int) ≤ 32
    omega
  | _ => show (0 : Int) ≤ 32; decide
/-- what stands behind j turns -/
structure HI (R : Ru) (wild : Bool) (j : Nat) (t : St) (es : List Ev) : Prop where
  ex : ∃ s, SI R 0 s ∧ Sim s t ∧ s.size ≤ j ∧ s.day ≤ 32 * j ∧ (∀ r ∈ ky s.loans, 0 ≤ r ∧ r ≤ 6) ∧ (wild = false → runFrom R (first R) es 0 = .ok s)
  ln : es.length ≤ j
  ev : ∀ e ∈ es, e.okh
theorem HI.up {R : Ru} {wild : Bool} {j : Nat} {t : St} {es : List Ev} (h : HI R wild j t es) : HI R wild (j + 1) t es := by
  obtain ⟨⟨s, si, sm, sz, sd, k6, rn⟩, ln, ev⟩ := h
  exact ⟨⟨s, si, sm, by omega, by omega, k6, rn⟩, by omega, ev⟩
theorem turn_ok {src : O} {R : Ru} {m : Sl} {wild : Bool} {j : Nat} {t : St} {es : List Ev} (ok : R.ok) (S : Src src) (h : HI R wild j t es) (hj : j < 100) {x6 x7 x8 x9 x10 x11 x12 x13 x14 : Sl} (w : ∀ s ∈ [x7, x8, x9, x10, x11, x12, x13, x14], s.w = true) :
    ∃ (o : O) (t' : St) (es' : List Ev) (y7 y8 y9 y10 y11 y12 y13 y14 : Sl), Src o ∧ HI R wild (j + 1) t' es' ∧ (∀ s ∈ [y7, y8, y9, y10, y11, y12, y13, y14], s.w = true) ∧
      l__law_history_0 (hE src R m wild t es [x6, x7, x8, x9, x10, x11, x12, x13, x14]) = .nx (hE o R m wild t' es' [x6, y7, y8, y9, y10, y11, y12, y13, y14]) := by
  obtain ⟨w7, w8, w9, w10, w11, w12, w13, w14⟩ : x7.w = true ∧ x8.w = true ∧ x9.w = true ∧ x10.w = true ∧ x11.w = true ∧ x12.w = true ∧ x13.w = true ∧ x14.w = true := by
    refine ⟨w _ ?_, w _ ?_, w _ ?_, w _ ?_, w _ ?_, w _ ?_, w _ ?_, w _ ?_⟩ <;> simp
  obtain ⟨⟨s, si, sm, sz, sd, k6, rn⟩, ln, ev⟩ := h
  have cons := si.cons
  have sh := si.sh
  have c4 := ok.2.1
  have ll : t.loans.length < 64 := by rw [sm.loans.length_eq]; omega
  have lk : (sortZ (ky t.loans)).Perm (ky t.loans) := sortZ_perm _
  have hl : (sortZ (ky t.loans)).length < 1000 := by rw [lk.length_eq, List.length_map]; omega
  have hm : ∀ r, r ∈ sortZ (ky t.loans) ↔ r ∈ ky t.loans := fun r => lk.mem_iff
  have h6 : ∀ r ∈ sortZ (ky t.loans), 0 ≤ r ∧ r ≤ 6 := fun r hr => k6 r ((sm.loans.map _).mem_iff.mp ((hm r).mp hr))
  obtain ⟨r1, o1, a1, b1, S1, e1⟩ := hs1 (src := src) (R := R) (m := m) (wild := wild) (t := t) (es := es) S (x6 := x6) (x7 := x7) (x8 := x8) (x9 := x9) (x10 := x10) (x11 := x11) (x12 := x12) (x13 := x13) (x14 := x14) w7
  obtain ⟨r2, o2, a2, b2, S2, e2⟩ := hs2 (R := R) (m := m) (wild := wild) (t := t) (es := es) S1 (x6 := x6) (x7 := .v (.dat (.int r1))) (x8 := x8) (x9 := x9) (x10 := x10) (x11 := x11) (x12 := x12) (x13 := x13) (x14 := x14) w8
  obtain ⟨wd, e3⟩ := hs3 (src := o2) (R := R) (m := m) (wild := wild) (t := t) (es := es) a1 b1 (x6 := x6) (x8 := .v (.dat (.int r2))) (x9 := x9) (x10 := x10) (x11 := x11) (x12 := x12) (x13 := x13) (x14 := x14) w9
  have e4 := hs4 (src := o2) (R := R) (m := m) (wild := wild) (t := t) (es := es) ll (x6 := x6) (x7 := .v (.dat (.int r1))) (x8 := .v (.dat (.int r2))) (x9 := .v (.dat wd.d)) (x10 := x10) (x11 := x11) (x12 := x12) (x13 := x13) (x14 := x14) w10
  obtain ⟨r5, o5, L, a5, b5, S5, hL, e5⟩ := hs5 (R := R) (m := m) (wild := wild) (t := t) (es := es) S2 (w := wd) (toD_inO _) hl h6 ⟨a2, b2⟩ (x6 := x6) (x7 := .v (.dat (.int r1))) (x11 := x11) (x12 := x12) (x13 := x13) (x14 := x14)
  have e6 := hs6 (src := o5) (R := R) (m := m) (wild := wild) (t := t) (es := es) (w := wd) (who := r5) (x6 := x6) (x7 := .v (.dat (.int r1))) (x10 := .v L) (x11 := x11) (x12 := x12) (x13 := x13) (x14 := x14) w11
  obtain ⟨e, o7, y10, y12, y14, he, S7, v10, v12, v14, e7⟩ := hs7 (m := m) (wild := wild) (es := es) S5 ok si sm hL hl hm h6 (by omega) (w := wd) ⟨a5, b5⟩ (x6 := x6) (x7 := .v (.dat (.int r1))) (x8 := .v (.dat (.int r5))) (x12 := x12) (x13 := x13) (x14 := x14) w12 w14
  have e8 := hs8 (src := o7) (R := R) (m := m) (wild := wild) (t := t) (es := es) (x6 := x6) (x7 := .v (.dat (.int r1))) (x8 := .v (.dat (.int r5))) (x9 := .v (.dat wd.d)) (x10 := y10) (x11 := .v (.dat e.d)) (x12 := y12) (x13 := x13) (x14 := y14) w13
  have hr : HReq R t e := sim_hreq ok he.v.n si sm (by omega)
  have e9 := hs9 (m := m) (wild := wild) S7 hr (es := es) (by omega) (x6 := x6) (x7 := .v (.dat (.int r1))) (x8 := .v (.dat (.int r5))) (x9 := .v (.dat wd.d)) (x10 := y10) (x12 := y12) (x14 := y14)
  have st := sim_step ok e si sm
  have all : ∀ z, hS9 (hE o7 R m wild t es [x6, .v (.dat (.int r1)), .v (.dat (.int r5)), .v (.dat wd.d), y10, .v (.dat e.d), y12, .v (lsO t), y14]) = z → l__law_history_0 (hE src R m wild t es [x6, x7, x8, x9, x10, x11, x12, x13, x14]) = z := fun z q => by
    rw [hist_split, kSq_eq, e1, sq_nx, kSq_eq, e2, sq_nx, kSq_eq, e3, sq_nx, kSq_eq, e4, sq_nx, kSq_eq, e5, sq_nx, kSq_eq, e6, sq_nx, kSq_eq, e7, sq_nx, kSq_eq, e8, sq_nx]
    exact q
  rcases e9 with ⟨ha, q⟩ | ⟨ha, o, es', y13, So, v13, hes, q⟩
  · refine ⟨o7, _, _, _, _, _, _, _, _, _, _, S7, ?_, ?_, all _ q⟩
    · cases en : nextSt R s e with
      | none =>
        rw [en] at st
        have : (lHap R t e).1 = false := st
        rw [this] at ha
        cases ha
      | some s' =>
        rw [en] at st
        obtain ⟨_, st⟩ : (lHap R t e).1 = true ∧ Sim s' (lHap R t e).2 := st
        have d1 := next_day_eq en
        have d2 := he.days
        have z1 := size_st en
        refine ⟨⟨s', SI.next ok si en, st, by omega, by omega, fun r hr => ?_, fun hw => run_snoc (rn hw) en⟩, by rw [List.length_append]; show es.length + 1 ≤ j + 1; omega, fun x hx => ?_⟩
        · rcases next_keys en r hr with z | z
          · exact k6 r z
          · subst z; exact he
        · rcases List.mem_append.mp hx with z | z
          · exact ev x z
          · have : x = e := by simpa using z
            exact this ▸ he
    · intro s hs
      simp only [List.mem_cons, List.not_mem_nil, or_false] at hs
      rcases hs with rfl | rfl | rfl | rfl | rfl | rfl | rfl | rfl <;> first | rfl | assumption
  · refine ⟨o, _, _, _, _, _, _, _, _, _, _, So, ?_, ?_, all _ q⟩
    · rcases hes with rfl | ⟨hw, rfl⟩
      · exact HI.up ⟨⟨s, si, sm, sz, sd, k6, rn⟩, ln, ev⟩
      · refine ⟨⟨s, si, sm, by omega, by omega, k6, fun z => by rw [hw] at z; cases z⟩, by rw [List.length_append]; show es.length + 1 ≤ j + 1; omega, fun x hx => ?_⟩
        rcases List.mem_append.mp hx with z | z
        · exact ev x z
        · have : x = e := by simpa using z
          exact this ▸ he
    · intro s hs
      simp only [List.mem_cons, List.not_mem_nil, or_false] at hs
      rcases hs with rfl | rfl | rfl | rfl | rfl | rfl | rfl | rfl <;> first | rfl | assumption
theorem hist_go {R : Ru} {m : Sl} {wild : Bool} (ok : R.ok) : ∀ (n : Nat) (lo : Int) (j : Nat) {src : O} {t : St} {es : List Ev} {x6 x7 x8 x9 x10 x11 x12 x13 x14 : Sl}, Src src → HI R wild j t es → j + n ≤ 100 → (∀ s ∈ [x6, x7, x8, x9, x10, x11, x12, x13, x14], s.w = true) →
    ∃ (o : O) (t' : St) (es' : List Ev) (l : Env), Src o ∧ HI R wild (j + n) t' es' ∧ loopS (hName 6) l__law_history_0 ((List.range n).map fun i : Nat => PyData.int (lo + i)) (hE src R m wild t es [x6, x7, x8, x9, x10, x11, x12, x13, x14]) = .nx (hE o R m wild t' es' l)
  | 0, lo, j, src, t, es, x6, x7, x8, x9, x10, x11, x12, x13, x14, S, h, _, _ => ⟨src, t, es, _, S, h, rfl⟩
  | n + 1, lo, j, src, t, es, x6, x7, x8, x9, x10, x11, x12, x13, x14, S, h, hj, w => by
    obtain ⟨o, t', es', y7, y8, y9, y10, y11, y12, y13, y14, S1, h1, w1, e1⟩ := turn_ok (m := m) ok S h (by omega) (x6 := .v (.dat (.int lo))) (x7 := x7) (x8 := x8) (x9 := x9) (x10 := x10) (x11 := x11) (x12 := x12) (x13 := x13) (x14 := x14) (fun s hs => w s (List.mem_cons_of_mem _ hs))
    obtain ⟨o2, t2, es2, l, S2, h2, e2⟩ := hist_go (m := m) ok n (lo + 1) (j + 1) (x6 := .v (.dat (.int lo))) S1 h1 (by omega) (fun s hs => by
      rcases List.mem_cons.mp hs with e | hs
      · rw [e]; rfl
      · exact w1 s hs)
    refine ⟨o2, t2, es2, l, S2, by rw [show j + (n + 1) = j + 1 + n by omega]; exact h2, ?_⟩
    have er : ((List.range (n + 1)).map fun i : Nat => PyData.int (lo + i)) = .int lo :: ((List.range n).map fun i : Nat => PyData.int ((lo + 1) + i)) := by
      rw [List.range_succ_eq_map, List.map_cons, List.map_map]
      congr 1
      · simp
      · refine List.map_congr_left fun i _ => ?_
        show PyData.int (lo + ((i + 1 : Nat) : Int)) = PyData.int (lo + 1 + i)
        congr 1
        omega
    have w6 : x6.w = true := w x6 List.mem_cons_self
    have hn : hName 6 (.dat (.int lo)) (hE src R m wild t es [x6, x7, x8, x9, x10, x11, x12, x13, x14]) = some (hE src R m wild t es [.v (.dat (.int lo)), x7, x8, x9, x10, x11, x12, x13, x14]) := by simp [hE, w6]
    rw [er, loopS, hn]
    simp only [e1]
    exact e2
theorem HI.start {R : Ru} (ok : R.ok) (wild : Bool) : HI R wild 0 (first R) [] := by
  refine ⟨⟨first R, SI.first ok, Sim.of (SI.first ok) rfl rfl rfl (List.Perm.refl _) (List.Perm.refl _) (List.Perm.refl _) List.nodup_nil, Nat.le_refl _, ?_, (fun r h => nomatch h), fun _ => rfl⟩, Nat.le_refl _, fun e h => nomatch h⟩
  show (0 : Int) ≤ 32 * ((0 : Nat) : Int)
  decide
theorem lfirst_ok (R : Ru) : d__law_first [.dat R.d] = .ok (lsO (first R)) [] := by
  unfold d__law_first g__law_first
  simp [startE, finF, outsOf, lsO, first, dI]
theorem dI_toD (l : List (Int × PyData)) : (dI l).toD = none := by
  unfold dI
  rw [O.toD] <;> (intro h; cases h)
theorem ls_toD (t : St) : (lsO t).toD = none := by
  unfold lsO
  rw [toD_lst]
  simp only [toDs_cons, dI_toD, toD_dat]
  rfl
/-- what `_law_history` draws -/
theorem history_ok {src : O} {R : Ru} {wild : Bool} {k : Int} (ok : R.ok) (S : Src src) (k0 : 0 ≤ k) (k1 : k ≤ 60) : ∃ (es : List Ev) (o : O), d__law_history [src, .dat R.d, .dat (.int k), .dat (.bool wild)] = .ok (.dat (.tuple (es.map Ev.d))) [o] ∧ Src o ∧ (∀ e ∈ es, e.okh) ∧ es.length ≤ k.toNat ∧ (wild = false → ∃ s, runFrom R (first R) es 0 = .ok s) := by
  obtain ⟨r, o1, e1, r0, r1, S1⟩ := pick_ok S (n := k + 1) (by omega) (by omega)
  obtain ⟨o2, t2, es2, l, S2, h2, e2⟩ := hist_go (R := R) (m := .v (.dat (.int k))) (wild := wild) ok r.toNat 0 0 (x6 := .no) (x7 := .no) (x8 := .no) (x9 := .no) (x10 := .no) (x11 := .no) (x12 := .no) (x13 := .no) (x14 := .no) S1 (HI.start ok wild) (by omega) (by simp)
  obtain ⟨⟨s, _, _, _, _, _, rn⟩, ln, ev⟩ := h2
  refine ⟨es2, o2, ?_, S2, ev, by omega, fun h => ⟨s, rn h⟩⟩
  have er : rngD 0 r.toNat = (List.range r.toNat).map fun i : Nat => PyData.int (0 + (i : Int)) := rfl
  have f := lfirst_ok R
  have ro : -4611686018427387904 ≤ r ∧ r < 4611686018427387904 := by omega
  rw [← er] at e2
  simp only [hE, List.map_nil] at e2
  obtain ⟨xs, hx⟩ : ∃ xs, lsO (first R) = .node .lst xs := ⟨_, rfl⟩
  have hd := ls_toD (first R)
  rw [hx] at f e2 hd
  unfold d__law_history g__law_history
  have hd' : O.toDs xs = none := by
    rw [toD_lst] at hd
    simpa using hd
  simp [startE, List.replicate, f, lendIn, takeO, backs, putBack, fz_tup, hd', e1, ro, e2, finF, outsOf]
end DP
end

section
namespace DP
open PySem PySem.Spec PyProof.Rows L2 DP.G
/-! ### tools for the laws -/
theorem loopN_inv {hg : GF} {body : Env → RS} (I : Nat → Env → Prop) : ∀ (n j : Nat) (env : Env), (∀ (i : Nat) (env : Env), i < j + n → I i env → ∃ e1, hg (.dat (.int i)) env = some e1 ∧ ∃ e2, body e1 = .nx e2 ∧ I (i + 1) e2) → I j env → ∃ env', loopS hg body ((List.range n).map fun i : Nat => PyData.int ((j : Int) + i)) env = .nx env' ∧ I (j + n) env'
  | 0, j, env, _, i => ⟨env, rfl, i⟩
  | n + 1, j, env, h, i0 => by
    obtain ⟨e1, h1, e2, h2, i1⟩ := h j env (by omega) i0
    obtain ⟨e3, h3, i3⟩ := loopN_inv I n (j + 1) e2 (fun i env hi => h i env (by omega)) i1
    refine ⟨e3, ?_, by rw [show j + (n + 1) = j + 1 + n by omega]; exact i3⟩
    have er : ((List.range (n + 1)).map fun i : Nat => PyData.int ((j : Int) + i)) = .int (j : Int) :: ((List.range n).map fun i : Nat => PyData.int (((j + 1 : Nat) : Int) + i)) := by
      rw [List.range_succ_eq_map, List.map_cons, List.map_map]
      have e0 : PyData.int ((j : Int) + ((0 : Nat) : Int)) = .int (j : Int) := by simp
      rw [e0]
      refine congrArg _ (List.map_congr_left fun i _ => ?_)
      show PyData.int ((j : Int) + ((i + 1 : Nat) : Int)) = PyData.int (((j + 1 : Nat) : Int) + i)
      congr 1
      omega
    rw [er, loopS, h1]
    simp only [h2]
    exact h3
theorem loopN0 {hg : GF} {body : Env → RS} (I : Nat → Env → Prop) (n : Nat) (env : Env) (h : ∀ (i : Nat) (env : Env), i < n → I i env → ∃ e1, hg (.dat (.int i)) env = some e1 ∧ ∃ e2, body e1 = .nx e2 ∧ I (i + 1) e2) (i0 : I 0 env) : ∃ env', loopS hg body (rngD 0 n) env = .nx env' ∧ I n env' := by
  obtain ⟨e, h1, h2⟩ := loopN_inv I n 0 env (fun i env hi => h i env (by omega)) i0
  refine ⟨e, ?_, by rw [show n = 0 + n by omega]; exact h2⟩
  have : rngD 0 n = (List.range n).map fun i : Nat => PyData.int (((0 : Nat) : Int) + i) := by
    unfold rngD
    refine List.map_congr_left fun i _ => ?_
    simp
  rw [this]
  exact h1
theorem cut_hi {ds : List PyData} {n : Nat} (h : n ≤ ds.length) : cutD ds none (some (n : Int)) = ds.take n := by
  unfold cutD
  have e1 : HT.sIx ds.length 0 none = 0 := rfl
  have e2 : HT.sIx ds.length ds.length (some (n : Int)) = n := by
    rw [HT.sIx_nat]
    omega
  rw [e1, e2]
  simp
theorem notIn_intsT (r : Int) (l : List Int) : gNotIn (.int r) (.tuple (l.map .int)) = some (.dat (.bool (decide (r ∉ l)))) := by
  have h := in_ints r l
  have h1 : (l.map PyData.int).all flatD = true := by
    rw [List.all_map]
    exact List.all_eq_true.mpr fun _ _ => rfl
  show (if flatD (.int r) = true ∧ (l.map PyData.int).all flatD = true then some (O.dat (.bool (!inD (.int r) (l.map .int)))) else none) = _
  have h' : (if flatD (.int r) = true ∧ (l.map PyData.int).all flatD = true then some (O.dat (.bool (inD (.int r) (l.map .int)))) else none) = some (.dat (.bool (decide (r ∈ l)))) := h
  rw [if_pos ⟨rfl, h1⟩] at h' ⊢
  have e : inD (.int r) (l.map .int) = decide (r ∈ l) := by
    injection h' with h'
    injection h' with h'
    injection h'
  rw [e]
  simp
theorem notIn_intsL (r : Int) (l : List Int) : gNotIn (.int r) (.list (l.map .int)) = some (.dat (.bool (decide (r ∉ l)))) := by
  have h := in_intsL r l
  have h1 := Shd.shaped (n := 1) (shd_intsL l)
  show (if SeqAt.shaped (.int r) = true ∧ SeqAt.shaped (.list (l.map .int)) = true then some (O.dat (.bool (!inD (.int r) (l.map .int)))) else none) = _
  have h' : (if SeqAt.shaped (.int r) = true ∧ SeqAt.shaped (.list (l.map .int)) = true then some (O.dat (.bool (inD (.int r) (l.map .int)))) else none) = some (.dat (.bool (decide (r ∈ l)))) := h
  rw [if_pos ⟨rfl, h1⟩] at h' ⊢
  have e : inD (.int r) (l.map .int) = decide (r ∈ l) := by
    injection h' with h'
    injection h' with h'
    injection h'
  rw [e]
  simp
theorem ne_intsL (l : List Int) : gNe (.list (l.map .int)) (.list (l.map .int)) = some (.dat (.bool false)) := gNe_self (Shd.shaped (n := 1) (shd_intsL l))
theorem filter_ofI (p : Int → Bool) : ∀ l : List Int, (l.map PyData.int).filter (ofI p) = (l.filter p).map .int
  | [] => rfl
  | a :: l => by
    have ih := filter_ofI p l
    cases e : p a with
    | true => rw [List.filter_cons_of_pos e, List.map_cons, List.filter_cons_of_pos (by exact e), ih, List.map_cons]
    | false => rw [List.filter_cons_of_neg (by rw [e]; decide), List.map_cons, List.filter_cons_of_neg (by show ¬ p a = true; rw [e]; decide), ih]
/-- a comprehension over ints that keeps a word I -/
theorem compI {own : List Nat} {hg : GF} {t : Env → RE Bool} {f : EF} (I : Env → Prop) (p : Int → Bool) (l : List Int) {env : Env} (h : ∀ r ∈ l, ∀ env, I env → ∃ e1 e2 e4, hg (.dat (.int r)) env = some e1 ∧ t e1 = .ok (p r) e2 ∧ f e2 = .ok (.dat (.int r)) e2 ∧ wipeE own e2 = some e4 ∧ I e4) (hl : l.length < 1000000) (i : I env) :
    ∃ e', compL own hg t f (l.map .int) env [] = .ok (((l.filter p).map PyData.int).map O.dat) e' ∧ I e' := by
  obtain ⟨e', h1, h2⟩ := compL_inv (own := own) (hg := hg) (t := t) (f := f) I (ofI p) O.dat (ds := l.map .int) (env := env) (acc := []) (fun d hd env i => by
    obtain ⟨r, hr, rfl⟩ := List.mem_map.mp hd
    obtain ⟨e1, e2, e4, q1, q2, q3, q4, q5⟩ := h r hr env i
    exact ⟨e1, e2, q1, q2, fun _ => ⟨e2, e4, q3, q4, q5⟩, fun _ => ⟨e4, q4, q5⟩⟩) (by simp; omega) i
  refine ⟨e', ?_, h2⟩
  rw [h1, List.nil_append, filter_ofI]
/-! runs, event by event -/
theorem run_take {R : Ru} : ∀ {es : List Ev} {s u : St} {k : Nat} (i : Nat), runFrom R s es k = .ok u → ∃ v, runFrom R s (es.take i) k = .ok v ∧ (i < es.length → ∃ e w, es[i]? = some e ∧ nextSt R v e = some w ∧ runFrom R s (es.take (i + 1)) k = .ok w)
  | [], s, u, k, i, h => ⟨s, by rw [List.take_nil]; rfl, fun z => nomatch z⟩
  | a :: es, s, u, k, 0, h => by
    refine ⟨s, rfl, fun _ => ?_⟩
    unfold runFrom at h
    split at h
    · rename_i w hw
      refine ⟨a, w, rfl, hw, ?_⟩
      show runFrom R s [a] k = .ok w
      unfold runFrom
      rw [hw]
      rfl
    · cases h
  | a :: es, s, u, k, i + 1, h => by
    unfold runFrom at h
    split at h
    · rename_i w hw
      obtain ⟨v, h1, h2⟩ := run_take (es := es) (s := w) (k := k + 1) i h
      have cons : ∀ (l : List Ev) (x : St), runFrom R w l (k + 1) = .ok x → runFrom R s (a :: l) k = .ok x := fun l x q => by
        unfold runFrom
        rw [hw]
        exact q
      refine ⟨v, cons _ _ h1, fun z => ?_⟩
      obtain ⟨e, x, q1, q2, q3⟩ := h2 (by simpa using z)
      exact ⟨e, x, by simpa using q1, q2, cons _ _ q3⟩
    · cases h
theorem run_si {R : Ru} (ok : R.ok) : ∀ {es : List Ev} {s u : St} {k : Nat}, SI R 0 s → runFrom R s es k = .ok u → SI R 0 u
  | [], s, u, k, si, h => by cases h; exact si
  | e :: es, s, u, k, si, h => by
    unfold runFrom at h
    split at h
    · rename_i w hw
      exact run_si ok (SI.next ok si hw) h
    · cases h
theorem run_size {R : Ru} : ∀ {es : List Ev} {s u : St} {k : Nat}, runFrom R s es k = .ok u → u.size ≤ s.size + es.length
  | [], s, u, k, h => by cases h; simp
  | e :: es, s, u, k, h => by
    unfold runFrom at h
    split at h
    · rename_i w hw
      have h1 := run_size h
      have h2 := size_st hw
      rw [List.length_cons]
      omega
    · cases h
end DP
end

section
namespace DP
open PySem PySem.Spec PyProof.Rows L2 DP.G
/-! ### rules that allow more -/
/-- R' allows all that R allows, by the closed form -/
abbrev Perm (R R' : Ru) : Prop := permB R.c R.l R.r R.w R.h R.s R'.c R'.l R'.r R'.w R'.h R'.s = true
structure Allow (R R' : Ru) : Prop where
  c : R.c = R'.c
  h : R.h = R'.h
  l : R.l ≤ R'.l
  r : R.r ≤ R'.r
  s : R'.s ≤ R.s
  q : ∀ k : Int, 1 ≤ k → k ≤ R.r → R'.l * k - R'.w ≤ (if 0 < R.l * k - R.w then R.l * k - R.w else 0)
theorem allow_of {R R' : Ru} (ok : R.ok) : Perm R R' ↔ Allow R R' := by
  obtain ⟨_, _, _, _, r0, r3, _⟩ := ok
  unfold Perm permB
  simp only [Bool.and_eq_true, Bool.or_eq_true, decide_eq_true_eq, qB]
  constructor
  · rintro ⟨h1, h2, h3, h4, h5, h6, h7, h8⟩
    refine ⟨h1, h2, h3, h4, h5, fun k k0 k1 => ?_⟩
    obtain rfl | rfl | rfl : k = 1 ∨ k = 2 ∨ k = 3 := by omega
    · rcases h6 with z | z
      · omega
      · exact z
    · rcases h7 with z | z
      · omega
      · exact z
    · rcases h8 with z | z
      · omega
      · exact z
  · rintro ⟨h1, h2, h3, h4, h5, q⟩
    refine ⟨h1, h2, h3, h4, h5, ?_, ?_, ?_⟩
    · by_cases z : R.r < 1
      · exact .inl z
      · exact .inr (q 1 (by decide) (by omega))
    · by_cases z : R.r < 2
      · exact .inl z
      · exact .inr (q 2 (by decide) (by omega))
    · by_cases z : R.r < 3
      · exact .inl z
      · exact .inr (q 3 (by decide) (by omega))
/-- a loan, told with other rules -/
def lup (R R' : Ru) (p : Int × Int × Int) : Int × Int × Int := (p.1, p.2.1 + (R'.l - R.l) * (1 + p.2.2), p.2.2)
@[simp] theorem lup_fst (R R' : Ru) (p : Int × Int × Int) : (lup R R' p).1 = p.1 := rfl
theorem lup_key (R R' : Ru) (l : List (Int × Int × Int)) : ky (l.map (lup R R')) = ky l := by
  rw [ky, List.map_map]
  rfl
theorem rowOf_lup (R R' : Ru) (r : Int) : ∀ l : List (Int × Int × Int), rowOf (l.map (lup R R')) r = (rowOf l r).map (lup R R')
  | [] => rfl
  | p :: l => by
    have ih := rowOf_lup R R' r l
    unfold rowOf at ih ⊢
    rw [List.map_cons]
    by_cases e : p.1 = r
    · rw [List.find?_cons_of_pos (p := fun q : Int × Int × Int => decide (q.1 = r)) (show decide ((lup R R' p).1 = r) = true from decide_eq_true e), List.find?_cons_of_pos (by simpa using e)]
      rfl
    · rw [List.find?_cons_of_neg (p := fun q : Int × Int × Int => decide (q.1 = r)) (show ¬ decide ((lup R R' p).1 = r) = true from fun z => e (of_decide_eq_true z)), List.find?_cons_of_neg (by simpa using e), ih]
theorem wo_lup (R R' : Ru) (r : Int) : ∀ l : List (Int × Int × Int), wo (l.map (lup R R')) r = (wo l r).map (lup R R')
  | [] => rfl
  | p :: l => by
    have ih := wo_lup R R' r l
    unfold wo at ih ⊢
    rw [List.map_cons]
    by_cases e : p.1 = r
    · rw [List.filter_cons_of_neg (p := fun q : Int × Int × Int => decide (q.1 ≠ r)) (show ¬ decide ((lup R R' p).1 ≠ r) = true from fun z => of_decide_eq_true z e), List.filter_cons_of_neg (by simpa using e), ih]
    · rw [List.filter_cons_of_pos (p := fun q : Int × Int × Int => decide (q.1 ≠ r)) (show decide ((lup R R' p).1 ≠ r) = true from decide_eq_true e), List.filter_cons_of_pos (by simpa using e), ih, List.map_cons]
theorem rowOf_snoc {β : Type} (l : List (Int × β)) (r w : Int) (v : β) : rowOf (wo l r ++ [(r, v)]) w = if w = r then some (r, v) else rowOf l w := by
  by_cases e : w = r
  · rw [if_pos e, e]
    unfold rowOf wo
    rw [List.find?_append]
    have : (l.filter fun p => decide (p.1 ≠ r)).find? (fun p => decide (p.1 = r)) = none := List.find?_eq_none.mpr fun p hp => by
      have := (List.mem_filter.mp hp).2
      simpa using this
    rw [this]
    simp
  · rw [if_neg e, ← rowOf_wo (l := l) e]
    unfold rowOf
    rw [List.find?_append]
    have : ¬ r = w := fun z => e z.symm
    simp [this]
/-- two lists in the order of their keys, with the same rows -/
theorem sorted_uniq {β : Type} : ∀ {l m : List (Int × β)}, (ky l).Pairwise (· < ·) → (ky m).Pairwise (· < ·) → l.Perm m → l = m
  | [], m, _, _, p => by
    cases m with
    | nil => rfl
    | cons a m => exact absurd p.length_eq (by simp)
  | a :: l, [], _, _, p => absurd p.length_eq (by simp)
  | a :: l, b :: m, hl, hm, p => by
    rw [ky, List.map_cons, List.pairwise_cons] at hl hm
    have e : a = b := by
      have ma := p.mem_iff.mp (List.mem_cons_self : a ∈ a :: l)
      have mb := p.mem_iff.mpr (List.mem_cons_self : b ∈ b :: m)
      rcases List.mem_cons.mp ma with e | h1
      · exact e
      · rcases List.mem_cons.mp mb with e | h2
        · exact e.symm
        · have z1 := hm.1 a.1 (List.mem_map.mpr ⟨a, h1, rfl⟩)
          have z2 := hl.1 b.1 (List.mem_map.mpr ⟨b, h2, rfl⟩)
          omega
    subst e
    rw [sorted_uniq hl.2 hm.2 p.cons_inv]
theorem is3_lup {R R' : Ru} {l : List (Int × Int × Int)} (nd : (ky l).Nodup) : isK r3 (l.map (lup R R')) = (isK r3 l).map (lup R R') := by
  refine sorted_uniq (is3_sorted (by rw [lup_key]; exact nd)) (by rw [lup_key]; exact is3_sorted nd) ?_
  exact (isK_perm _ _).trans ((isK_perm r3 l).map _).symm
structure Rel (R R' : Ru) (s t : St) : Prop where
  day : t.day = s.day
  shelf : t.shelf = s.shelf
  loans : t.loans = s.loans.map (lup R R')
  ready : t.ready = s.ready
  wait : t.wait = s.wait
  rests : ∀ r p, rowOf t.rests r = some p → ∃ q, rowOf s.rests r = some q ∧ p.2 ≤ q.2
  beg : ∀ p ∈ s.loans, p.2.1 - R.l * (1 + p.2.2) ≤ s.day
theorem Rel.cb {R R' : Ru} (hh : R.h = R'.h) {s t : St} (h : Rel R R' s t) : Rel R R' (comeBack R s) (comeBack R' t) := by
  obtain ⟨hd, hs, hl, hr, hw, hre, hb⟩ := h
  unfold comeBack
  rw [hw]
  cases e : s.wait with
  | nil => exact ⟨hd, by show t.shelf + 1 = s.shelf + 1; omega, hl, hr, rfl, hre, hb⟩
  | cons w ws => exact ⟨hd, hs, hl, by show isK r2 (t.ready ++ [(w, t.day + R'.h)]) = isK r2 (s.ready ++ [(w, s.day + R.h)]); rw [hr, hd, hh], rfl, hre, hb⟩
theorem Rel.fold {R R' : Ru} (hh : R.h = R'.h) : ∀ (l : List (Int × Int)) {s t : St}, Rel R R' s t → Rel R R' (l.foldl (fun u _ => comeBack R u) s) (l.foldl (fun u _ => comeBack R' u) t)
  | [], _, _, h => h
  | _ :: l, _, _, h => Rel.fold hh l (Rel.cb hh h)
theorem Rel.come {R R' : Ru} {s t : St} (h : Rel R R' s t) {r : Int} (c : canCome s r = true) : canCome t r = true := by
  unfold canCome at c ⊢
  rw [Bool.and_eq_true] at c ⊢
  obtain ⟨c1, c2⟩ := c
  refine ⟨?_, ?_⟩
  · rw [h.loans, rowOf_lup]
    cases e : rowOf s.loans r with
    | none => rfl
    | some p => rw [e] at c1; cases c1
  · cases e : rowOf t.rests r with
    | none => rfl
    | some p =>
      obtain ⟨q, e2, le⟩ := h.rests r p e
      rw [e2] at c2
      have : q.2 ≤ s.day := of_decide_eq_true c2
      exact decide_eq_true (by rw [h.day]; omega)
theorem Rel.dayS {R R' : Ru} (A : Allow R R') {s t u : St} (si : SI R 0 s) (h : Rel R R' s t) (he : nextDay R s = some u) : ∃ v, nextDay R' t = some v ∧ Rel R R' u v := by
  rw [nextDay_eq] at he
  split at he
  · cases he
  · rename_i a
    cases he
    refine ⟨(overS t).foldl (fun u _ => comeBack R' u) (dawn t), ?_, ?_⟩
    · rw [nextDay_eq, if_neg]
      intro z
      refine a ?_
      obtain ⟨p, hp, e⟩ := List.any_eq_true.mp z
      rw [h.loans] at hp
      obtain ⟨q, hq, rfl⟩ := List.mem_map.mp hp
      have e' : q.2.1 + (R'.l - R.l) * (1 + q.2.2) ≤ t.day := of_decide_eq_true e
      have n0 := (si.due q hq).2.1
      have m := Int.mul_nonneg (a := R'.l - R.l) (b := 1 + q.2.2) (by have := A.l; omega) (by omega)
      have hd := h.day
      exact List.any_eq_true.mpr ⟨q, hq, decide_eq_true (by omega)⟩
    · have e1 : overS t = overS s := by unfold overS; rw [h.ready, h.day]
      rw [e1]
      refine Rel.fold A.h _ ⟨?_, h.shelf, h.loans, ?_, h.wait, h.rests, fun p hp => ?_⟩
      · show t.day + 1 = s.day + 1
        rw [h.day]
      · show (t.ready.filter fun p => decide (t.day < p.2)) = s.ready.filter fun p => decide (s.day < p.2)
        rw [h.ready, h.day]
      · have := h.beg p hp
        show _ ≤ s.day + 1
        omega
theorem Rel.days {R R' : Ru} (A : Allow R R') (h0 : 0 ≤ R.h) : ∀ {n : Nat} {s t u : St}, SI R 0 s → Rel R R' s t → passed R n s = some u → ∃ v, passed R' n t = some v ∧ Rel R R' u v
  | 0, s, t, u, si, h, he => by cases he; exact ⟨t, rfl, h⟩
  | n + 1, s, t, u, si, h, he => by
    unfold passed at he
    split at he
    · rename_i w hw
      obtain ⟨v, e1, h1⟩ := Rel.dayS A si h hw
      obtain ⟨x, e2, h2⟩ := Rel.days A h0 (SI.day h0 si hw) h1 he
      refine ⟨x, ?_, h2⟩
      unfold passed
      rw [e1]
      exact e2
    · cases he
theorem Rel.step {R R' : Ru} (ok : R.ok) (A : Allow R R') {s t u : St} {e : Ev} (si : SI R 0 s) (h : Rel R R' s t) (he : nextSt R s e = some u) : ∃ v, nextSt R' t e = some v ∧ Rel R R' u v := by
  have l0 := ok.2.2.1
  have lend : ∀ r, r ∉ ky s.loans → isK r3 (t.loans ++ [(r, t.day + R'.l, 0)]) = (isK r3 (s.loans ++ [(r, s.day + R.l, 0)])).map (lup R R') ∧ ∀ p ∈ isK r3 (s.loans ++ [(r, s.day + R.l, 0)]), p.2.1 - R.l * (1 + p.2.2) ≤ s.day := fun r nk => by
    constructor
    · rw [← is3_lup (nd_snoc (lt_nodup si.ls) nk), List.map_append, h.loans, h.day]
      congr 1
      congr 1
      show [(r, s.day + R'.l, (0 : Int))] = [(r, s.day + R.l + (R'.l - R.l) * (1 + 0), (0 : Int))]
      congr 3
      omega
    · intro p hp
      rcases List.mem_append.mp ((isK_perm _ _).mem_iff.mp hp) with z | z
      · exact h.beg p z
      · have : p = (r, s.day + R.l, 0) := by simpa using z
        subst this
        show s.day + R.l - R.l * (1 + 0) ≤ s.day
        omega
  cases e with
  | da n => exact Rel.days A ok.2.2.2.2.2.2.2.2.1 si h he
  | bo r =>
    simp only [nextSt, borrowed] at he ⊢
    split at he
    · rename_i hc
      rw [if_pos (h.come hc), h.ready, h.shelf]
      have nk : r ∉ ky s.loans := by
        unfold canCome at hc
        rw [Bool.and_eq_true] at hc
        exact rowOf_none.mp (by simpa using hc.1)
      obtain ⟨g1, g2⟩ := lend r nk
      split at he
      · rename_i hr
        cases he
        rw [if_pos hr]
        exact ⟨_, rfl, h.day, rfl, g1, rfl, h.wait, h.rests, g2⟩
      · rename_i hr
        rw [if_neg hr]
        split at he
        · rename_i hs
          cases he
          rw [if_pos hs]
          exact ⟨_, rfl, h.day, rfl, g1, rfl, h.wait, h.rests, g2⟩
        · cases he
    · cases he
  | re r =>
    simp only [nextSt, returned] at he ⊢
    split at he
    · rename_i hr
      cases he
      have hr' : (rowOf t.loans r).isSome = true := by
        rw [h.loans, rowOf_lup, Option.isSome_map]
        exact hr
      rw [if_pos hr']
      refine ⟨_, rfl, Rel.cb A.h ⟨h.day, h.shelf, ?_, h.ready, h.wait, fun w p hp => ?_, fun p hp => h.beg p (wo_in hp)⟩⟩
      · show wo t.loans r = _
        rw [h.loans, wo_lup]
      · show ∃ q, rowOf (wo s.rests r ++ [(r, s.day + R.s)]) w = some q ∧ p.2 ≤ q.2
        have hp' : rowOf (wo t.rests r ++ [(r, t.day + R'.s)]) w = some p := hp
        rw [rowOf_snoc] at hp' ⊢
        by_cases e : w = r
        · rw [if_pos e] at hp' ⊢
          cases hp'
          exact ⟨_, rfl, by show t.day + R'.s ≤ s.day + R.s; have := A.s; have := h.day; omega⟩
        · rw [if_neg e] at hp' ⊢
          exact h.rests w p hp'
    · cases he
  | rn r =>
    simp only [nextSt, renewed] at he ⊢
    rw [h.loans, rowOf_lup]
    cases hp : rowOf s.loans r with
    | none => rw [hp] at he; cases he
    | some p =>
      obtain ⟨q, d, n⟩ := p
      rw [hp] at he
      simp only at he
      split at he
      · rename_i hh
        obtain ⟨hw, hn, hd⟩ := hh
        cases he
        have mem := (rowOf_mem hp).1
        have key : q = r := (rowOf_mem hp).2
        have dn := si.due _ mem
        have bg := h.beg _ mem
        simp only at dn bg
        have qk := A.q (n + 1) (by omega) (by omega)
        have e1 : R.l * (1 + n) = R.l * (n + 1) := by rw [Int.add_comm 1 n]
        have e2 : (R'.l - R.l) * (1 + n) = R'.l * (n + 1) - R.l * (n + 1) := by rw [Int.sub_mul, Int.add_comm 1 n]
        have dd := h.day
        have cond : t.wait = [] ∧ n < R'.r ∧ d + (R'.l - R.l) * (1 + n) - t.day ≤ R'.w := by
          refine ⟨by rw [h.wait]; exact hw, by have := A.r; omega, ?_⟩
          rw [e2]
          rw [e1] at bg
          generalize R'.l * (n + 1) = X at *
          generalize R.l * (n + 1) = Y at *
          split at qk <;> omega
        refine ⟨{ t with loans := isK r3 (wo t.loans r ++ [(r, d + (R'.l - R.l) * (1 + n) + R'.l, n + 1)]) }, ?_, h.day, h.shelf, ?_, h.ready, h.wait, h.rests, fun p hp => ?_⟩
        · show (if t.wait = [] ∧ n < R'.r ∧ d + (R'.l - R.l) * (1 + n) - t.day ≤ R'.w then _ else _) = _
          rw [if_pos cond, h.loans]
        · show isK r3 (wo t.loans r ++ [(r, d + (R'.l - R.l) * (1 + n) + R'.l, n + 1)]) = _
          rw [← is3_lup (nd_snoc (lt_nodup (sub_lt si.ls (wo_sub s.loans r))) fun z => (wo_keys.mp z).2 rfl), List.map_append, h.loans, wo_lup]
          congr 1
          congr 1
          show [(r, d + (R'.l - R.l) * (1 + n) + R'.l, n + 1)] = [(r, d + R.l + (R'.l - R.l) * (1 + (n + 1)), n + 1)]
          congr 3
          have : (R'.l - R.l) * (1 + (n + 1)) = (R'.l - R.l) * (1 + n) + (R'.l - R.l) := by rw [show 1 + (n + 1) = (1 + n) + 1 by omega, Int.mul_add, Int.mul_one]
          omega
        · rcases List.mem_append.mp ((isK_perm _ _).mem_iff.mp hp) with z | z
          · exact h.beg p (wo_in z)
          · have : p = (r, d + R.l, n + 1) := by simpa using z
            subst this
            show d + R.l - R.l * (1 + (n + 1)) ≤ s.day
            have e3 : R.l * (1 + (n + 1)) = R.l * (1 + n) + R.l := by rw [show 1 + (n + 1) = (1 + n) + 1 by omega, Int.mul_add, Int.mul_one]
            omega
      · cases he
  | wa r =>
    simp only [nextSt, waited] at he ⊢
    split at he
    · rename_i hc
      obtain ⟨h1, h2, h3⟩ := hc
      rw [if_pos (⟨h.come h1, by rw [h.wait]; exact h2, by rw [h.ready]; exact h3⟩ : canCome t r = true ∧ r ∉ t.wait ∧ (rowOf t.ready r).isSome = false), h.shelf, h.wait]
      split at he
      · rename_i hs
        cases he
        rw [if_pos hs]
        exact ⟨_, rfl, Rel.cb A.h ⟨h.day, rfl, h.loans, h.ready, rfl, h.rests, h.beg⟩⟩
      · rename_i hs
        cases he
        rw [if_neg hs]
        exact ⟨_, rfl, h.day, rfl, h.loans, h.ready, rfl, h.rests, h.beg⟩
    · cases he
  | le r =>
    simp only [nextSt, left] at he ⊢
    rw [h.wait, h.ready]
    split at he
    · rename_i hw
      cases he
      rw [if_pos hw]
      exact ⟨_, rfl, h.day, h.shelf, h.loans, rfl, rfl, h.rests, h.beg⟩
    · rename_i hw
      rw [if_neg hw]
      split at he
      · rename_i hr
        cases he
        rw [if_pos hr]
        exact ⟨_, rfl, Rel.cb A.h ⟨h.day, h.shelf, h.loans, rfl, rfl, h.rests, h.beg⟩⟩
      · cases he
theorem Rel.first {R R' : Ru} (A : Allow R R') : Rel R R' (first R) (first R') :=
  ⟨rfl, A.c.symm, rfl, rfl, rfl, (fun r p h => nomatch h), fun p h => nomatch h⟩
theorem Rel.run {R R' : Ru} (ok : R.ok) (A : Allow R R') : ∀ {es : List Ev} {s t u : St} {k : Nat}, SI R 0 s → Rel R R' s t → runFrom R s es k = .ok u → ∃ v, runFrom R' t es k = .ok v
  | [], s, t, u, k, si, h, he => ⟨t, rfl⟩
  | e :: es, s, t, u, k, si, h, he => by
    unfold runFrom at he
    split at he
    · rename_i w hw
      obtain ⟨x, e1, h1⟩ := Rel.step ok A si h hw
      obtain ⟨v, e2⟩ := Rel.run ok A (SI.next ok si hw) h1 he
      refine ⟨v, ?_⟩
      unfold runFrom
      rw [e1]
      exact e2
    · cases he
/-- what rules allow, rules that allow more allow -/
theorem allow_run {R R' : Ru} (ok : R.ok) (p : Perm R R') {es : List Ev} {u : St} (h : runFrom R (first R) es 0 = .ok u) : ∃ v, runFrom R' (DP.first R') es 0 = .ok v :=
  Rel.run ok ((allow_of ok).mp p) (SI.first ok) (Rel.first ((allow_of ok).mp p)) h
end DP
end

section
namespace DP
open PySem PySem.Spec PyProof.Rows L2 DP.G
/-! ### the law's own run of a history -/
theorem ran_body (R : Ru) (H : Sl) (t : St) (e : Ev) (hr : HReq R t e) (k : Nat) (x y : Sl) (wx : x.w = true) (wy : y.w = true) :
    ∃ e1, hTup 2 (hCons (hName 3) (hCons (hName 4) hNil)) (.dat (.tuple [.int k, e.d])) [.v (.dat R.d), H, .v (lsO t), x, y] = some e1 ∧ l__law_ran_0 e1 = (if (lHap R t e).1 = true
      then .nx [.v (.dat R.d), H, .v (lsO (lHap R t e).2), .v (.dat (.int k)), .v (.dat e.d)]
      else .rt (.dat (.tuple [.none, .int k])) [.v (.dat R.d), H, .v (lsO (lHap R t e).2), .v (.dat (.int k)), .v (.dat e.d)]) := by
  have q := hap_ok R t e hr
  refine ⟨[.v (.dat R.d), H, .v (lsO t), .v (.dat (.int k)), .v (.dat e.d)], by simp [wx, wy], ?_⟩
  generalize lHap R t e = z at q ⊢
  obtain ⟨b, t'⟩ := z
  generalize e.d = ed at q ⊢
  unfold l__law_ran_0
  cases b with
  | false => simp [q, lendIn, takeO, backs, putBack, bO, fz_tup]
  | true => simp [q, lendIn, takeO, backs, putBack, bO, fz_tup]
theorem ran_go {R : Ru} (ok : R.ok) (H : Sl) : ∀ (es : List Ev) (s t : St) (k : Nat) (x y : Sl), x.w = true → y.w = true → (∀ e ∈ es, e.okn) → SI R 0 s → Sim s t → s.size + es.length < 600000 → ∃ t' x' y', (loopS (hTup 2 (hCons (hName 3) (hCons (hName 4) hNil))) l__law_ran_0 (enumD k (es.map Ev.d)) [.v (.dat R.d), H, .v (lsO t), x, y]) = (match runFrom R s es k with
    | .ok _ => .nx [.v (.dat R.d), H, .v (lsO t'), x', y']
    | .error j => .rt (.dat (.tuple [.none, .int j])) [.v (.dat R.d), H, .v (lsO t'), x', y']) ∧ ∀ u, runFrom R s es k = .ok u → Sim u t'
  | [], s, t, k, x, y, _, _, _, _, h, _ => ⟨t, x, y, rfl, fun u q => by cases q; exact h⟩
  | e :: es, s, t, k, x, y, wx, wy, he, si, h, hl => by
    simp only [List.length_cons] at hl
    have hr : HReq R t e := sim_hreq ok (he e List.mem_cons_self) si h (by omega)
    obtain ⟨e1, h1, h2⟩ := ran_body R H t e hr k x y wx wy
    have st := sim_step ok e si h
    rw [List.map_cons, enumD, loopS, h1]
    unfold runFrom
    cases z : nextSt R s e with
    | none =>
      rw [z] at st
      have st' : (lHap R t e).1 = false := st
      rw [st'] at h2
      exact ⟨(lHap R t e).2, .v (.dat (.int k)), .v (.dat e.d), by simp only [h2]; rfl, fun u q => by cases q⟩
    | some s' =>
      rw [z] at st
      obtain ⟨st1, st2⟩ : (lHap R t e).1 = true ∧ Sim s' (lHap R t e).2 := st
      rw [st1] at h2
      have sz := size_st z
      obtain ⟨t', x', y', q, g⟩ := ran_go ok H es s' (lHap R t e).2 (k + 1) (.v (.dat (.int k))) (.v (.dat e.d)) rfl rfl (fun f hf => he f (List.mem_cons_of_mem _ hf)) (SI.next ok si z) st2 (by omega)
      refine ⟨t', x', y', ?_, g⟩
      simp only [h2, if_true]
      exact q
/-- what `_law_ran` returns: its second item is none, or the index of the first event that is refused -/
def ranO (t : St) : Except Nat St → O
  | .ok _ => .node .tup [lsO t, .dat .none]
  | .error k => .dat (.tuple [.none, .int k])
theorem ran_shell {F : Env → RS} {R : PyData} {H : Sl} {t0 t : St} {z : Except Nat St} {x' y' : Sl} (f : d__law_first [.dat R] = .ok (lsO t0) [])
    (q : F [.v (.dat R), H, .v (lsO t0), .no, .no] = (match z with | .ok _ => .nx [.v (.dat R), H, .v (lsO t), x', y'] | .error j => .rt (.dat (.tuple [.none, .int j])) [.v (.dat R), H, .v (lsO t), x', y'])) :
    finF [false, false] (kSq (kAs (kCall [false] [none] d__law_first (kCons (kVar 0) (kNil))) (hName 2)) (kSq F (kRt (kMk .tup (kCons (kMov 2) (kCons (kD .none) (kNil)))))) [.v (.dat R), H, .no, .no, .no]) = .ok (ranO t z) [] := by
  have hd := ls_toD t
  obtain ⟨ys, hy⟩ : ∃ ys, lsO t0 = .node .lst ys := ⟨_, rfl⟩
  obtain ⟨xs, hx⟩ : ∃ xs, lsO t = .node .lst xs := ⟨_, rfl⟩
  rw [hx] at q hd
  rw [hy] at f q
  have hd' : O.toDs xs = none := by
    rw [toD_lst] at hd
    simpa using hd
  cases z with
  | ok u => simp [f, q, lendIn, backs, fz_tup, finF, outsOf, ranO, hx, hd']
  | error j => simp [f, q, lendIn, backs, fz_tup, finF, outsOf, ranO]
theorem ran_ok {R : Ru} (ok : R.ok) {es : List Ev} {h : PyData} (hh : His es h) (he : ∀ e ∈ es, e.okn) (hl : es.length < 500000) : ∃ t, d__law_ran [.dat R.d, .dat h] = .ok (ranO t (runFrom R (first R) es 0)) [] ∧ ∀ u, runFrom R (first R) es 0 = .ok u → Sim u t := by
  have s0 : Sim (first R) (first R) := Sim.of (SI.first ok) rfl rfl rfl (List.Perm.refl _) (List.Perm.refl _) (List.Perm.refl _) List.nodup_nil
  obtain ⟨t, x', y', q, g⟩ := ran_go ok (.v (.dat h)) es (first R) (first R) 0 .no .no rfl rfl he (SI.first ok) s0 (by unfold first St.size; simp; omega)
  refine ⟨t, ?_, g⟩
  have f := lfirst_ok R
  generalize runFrom R (first R) es 0 = z at q ⊢
  refine ran_shell (F := kFor (kEnumA (kCons (kVar 1) (kNil))) (hTup 2 (hCons (hName 3) (hCons (hName 4) (hNil)))) l__law_ran_0) (x' := x') (y' := y') f ?_
  have e : kEnumA (kCons (kVar 1) kNil) [.v (.dat R.d), .v (.dat h), .v (lsO (first R)), .no, .no] = .ok (enumD 0 (es.map Ev.d)) [.v (.dat R.d), .v (.dat h), .v (lsO (first R)), .no, .no] := by
    cases hh <;> simp
  rw [kFor_eq, e, st_ok]
  exact q
/-- whether no event is refused -/
def okR (R : Ru) (es : List Ev) : Bool := match runFrom R (first R) es 0 with
  | .ok _ => true
  | .error _ => false
/-- the second item -/
def exD : Except Nat St → PyData
  | .ok _ => .none
  | .error k => .int k
theorem ran_ix (t : St) (z : Except Nat St) (f : EF) (env e : Env) (h : f env = .ok (ranO t z) e) : kIxN 1 f env = .ok (.dat (exD z)) e := by
  rw [kIxN_eq, h, bind_ok]
  cases z <;> rfl
theorem run_ix (z : Except Nat St) (f : EF) (env e : Env) (h : f env = .ok (.dat (runD z)) e) : kIxN 1 f env = .ok (.dat (exD z)) e := by
  rw [kIxN_eq, h, bind_ok]
  cases z <;> rfl
theorem gIs_ex (R : Ru) (es : List Ev) : gIs (exD (runFrom R (first R) es 0)) .none = some (.dat (.bool (okR R es))) := by
  unfold okR
  cases runFrom R (first R) es 0 <;> rfl
theorem gIsNot_ex (R : Ru) (es : List Ev) : gIsNot (exD (runFrom R (first R) es 0)) .none = some (.dat (.bool (!okR R es))) := by
  unfold okR
  cases runFrom R (first R) es 0 <;> rfl
theorem okR_of {R : Ru} {es : List Ev} : okR R es = true ↔ ∃ u, runFrom R (first R) es 0 = .ok u := by
  unfold okR
  cases runFrom R (first R) es 0 with
  | ok u => exact ⟨fun _ => ⟨u, rfl⟩, fun _ => rfl⟩
  | error k => exact ⟨fun h => (nomatch h), fun ⟨_, h⟩ => (nomatch h)⟩
theorem okR_allow {R R' : Ru} (ok : R.ok) (p : Perm R R') {es : List Ev} (h : okR R es = true) : okR R' es = true := by
  obtain ⟨u, hu⟩ := okR_of.mp h
  exact okR_of.mpr (allow_run ok p hu)
/-! ### several rules at once -/
theorem is_many {many : List Ru} (ok : ∀ R ∈ many, R.ok) (h0 : 1 ≤ many.length) (h1 : many.length ≤ 6) : d_require_many [.dat (.tuple (many.map Ru.d))] = .ok (.dat .none) [] := by
  have x := compL_map (own := [1]) (hg := hName 1) (t := kYes) (f := kCall [false] [none] d_is_rules (kCons (kVar 1) (kNil))) (env := [.v (.dat (.tuple (many.map Ru.d))), .no])
    Ru.d (fun _ => true) (fun _ => .dat (.bool true)) many (fun R mR => ⟨_, [.v (.dat (.tuple (many.map Ru.d))), .v (.dat R.d)], by simp <;> rfl, rfl, fun _ => ⟨_, by have q := is_rules_ok (ok R mR); simp [q, lendIn, backs] <;> rfl, rfl⟩, fun h => nomatch h⟩) (by omega)
  have ft : (many.filter fun _ => true) = many := List.filter_eq_self.mpr fun _ _ => rfl
  rw [ft] at x
  have a1 : (1 : Int) ≤ (many.length : Int) := by omega
  have a2 : (many.length : Int) ≤ 6 := by omega
  have ga : gAll [.list (many.map fun _ => .bool true)] = some (.dat (.bool (many.all fun _ => true))) := gAll_map (fun _ => true) many
  have td := toDs_bools (fun _ => true) many
  unfold d_require_many g_require_many
  simp [startE, List.replicate, c_MOST_RULES, a1, a2, h0, h1, wipeE, x, lcEnd, td, ga, finF, outsOf, gLe]
def enumP {α : Type} : Nat → List α → List (Nat × α)
  | _, [] => []
  | k, a :: l => (k, a) :: enumP (k + 1) l
theorem enumD_map {α : Type} (F : α → PyData) : ∀ (l : List α) (k : Nat), enumD k (l.map F) = (enumP k l).map fun p => .tuple [.int p.1, F p.2]
  | [], _ => rfl
  | a :: l, k => by
    rw [List.map_cons, enumD, enumP, List.map_cons, enumD_map F l (k + 1)]
theorem enumP_len {α : Type} : ∀ (l : List α) (k : Nat), (enumP k l).length = l.length
  | [], _ => rfl
  | a :: l, k => by rw [enumP, List.length_cons, List.length_cons, enumP_len l]
theorem enumP_mem {α : Type} {p : Nat × α} : ∀ {l : List α} {k : Nat}, p ∈ enumP k l → p.2 ∈ l ∧ k ≤ p.1 ∧ l[p.1 - k]? = some p.2
  | [], _, h => nomatch h
  | a :: l, k, h => by
    rw [enumP] at h
    rcases List.mem_cons.mp h with e | h
    · subst e
      exact ⟨List.mem_cons_self, Nat.le_refl _, by simp⟩
    · obtain ⟨h1, h2, h3⟩ := enumP_mem h
      refine ⟨List.mem_cons_of_mem _ h1, by omega, ?_⟩
      rw [show p.1 - k = (p.1 - (k + 1)) + 1 by omega, List.getElem?_cons_succ]
      exact h3
theorem enumP_at {α : Type} {a : α} : ∀ {l : List α} {k i : Nat}, l[i]? = some a → (k + i, a) ∈ enumP k l
  | [], _, _, h => by simp at h
  | b :: l, k, 0, h => by
    rw [List.getElem?_cons_zero] at h
    cases h
    exact List.mem_cons_self
  | b :: l, k, i + 1, h => by
    rw [List.getElem?_cons_succ] at h
    have := enumP_at (k := k + 1) h
    rw [show k + (i + 1) = k + 1 + i by omega]
    exact List.mem_cons_of_mem _ this
def fitI (many : List Ru) (es : List Ev) : List Int := ((enumP 0 many).filter fun p => okR p.2 es).map fun p => (p.1 : Int)
theorem fit_ok {many : List Ru} {es : List Ev} (ok : ∀ R ∈ many, R.ok) (h0 : 1 ≤ many.length) (h1 : many.length ≤ 6) (hv : ∀ e ∈ es, e.okv) (hl : es.length ≤ 600) : d_fitting [.dat (.tuple (many.map Ru.d)), .dat (.tuple (es.map Ev.d))] = .ok (inO (fitI many es)) [] := by
  have q1 := is_many ok h0 h1
  have q2 := require_history_ok hv hl
  have x := compL_map (own := [2, 3]) (hg := hTup 2 (hCons (hName 2) (hCons (hName 3) (hNil)))) (t := kB (k2 gIs (kIxN 1 (kCall [false, false] [none, none] d_run_of (kCons (kVar 3) (kCons (kVar 1) (kNil))))) (kD .none))) (f := kVar 2) (env := [.v (.dat (.tuple (many.map Ru.d))), .v (.dat (.tuple (es.map Ev.d))), .no, .no])
    (fun p : Nat × Ru => .tuple [.int p.1, p.2.d]) (fun p => okR p.2 es) (fun p => .dat (.int p.1)) (enumP 0 many) (fun p mp => by
      have q3 := run_of_ok p.2 (.tup (es := es)) (fun e he => (hv e he).n) (by omega)
      have gi := gIs_ex p.2 es
      refine ⟨[.v (.dat (.tuple (many.map Ru.d))), .v (.dat (.tuple (es.map Ev.d))), .v (.dat (.int p.1)), .v (.dat p.2.d)], [.v (.dat (.tuple (many.map Ru.d))), .v (.dat (.tuple (es.map Ev.d))), .v (.dat (.int p.1)), .v (.dat p.2.d)], by simp, ?_, fun _ => ⟨[.v (.dat (.tuple (many.map Ru.d))), .v (.dat (.tuple (es.map Ev.d))), .v (.dat (.int p.1)), .v (.dat p.2.d)], rfl, rfl⟩, fun _ => rfl⟩
      rw [kB_eq, k2_eq, run_ix (runFrom p.2 (first p.2) es 0) _ [.v (.dat (.tuple (many.map Ru.d))), .v (.dat (.tuple (es.map Ev.d))), .v (.dat (.int p.1)), .v (.dat p.2.d)] [.v (.dat (.tuple (many.map Ru.d))), .v (.dat (.tuple (es.map Ev.d))), .v (.dat (.int p.1)), .v (.dat p.2.d)] (by simp [q3, lendIn, backs])]
      simp [gi]) (by rw [enumP_len]; omega)
  have er := enumD_map Ru.d many 0
  have rs : (((enumP 0 many).filter fun p => okR p.2 es).map fun p => O.dat (.int p.1)) = ((fitI many es).map PyData.int).map O.dat := by
    unfold fitI
    rw [List.map_map, List.map_map]
    rfl
  rw [rs] at x
  unfold d_fitting g_fitting inO
  generalize ((fitI many es).map PyData.int).map O.dat = OL at *
  generalize es.map Ev.d = ED at *
  rw [← er] at x
  generalize many.map Ru.d = MD at *
  simp [startE, List.replicate, q1, q2, lendIn, backs, wipeE, x, lcEnd, finF, outsOf]
end DP
end

section
namespace DP
open PySem PySem.Spec PyProof.Rows L2 DP.G
/-! ### histories that part rules -/
def dEv (n : Int) : List Ev := if 0 < n then [.da n.toNat] else []
def evO (es : List Ev) : O := .node .lst ((es.map Ev.d).map .dat)
theorem toD_evO (es : List Ev) : (evO es).toD = some (.list (es.map Ev.d)) := by
  unfold evO
  rw [toD_lst, toDs_map]
  rfl
theorem days_event_ok (n : Int) : d_days_event [.dat (.int n)] = .ok (evO (dEv n)) [] := by
  unfold d_days_event g_days_event dEv
  by_cases h : 0 < n
  · have e : ((n.toNat : Nat) : Int) = n := Int.toNat_of_nonneg (by omega)
    rw [if_pos h]
    unfold evO
    simp only [List.map_cons, List.map_nil, Ev.d, e]
    clear e
    simp [startE, gGt, h, fz_tup, finF, outsOf]
  · rw [if_neg h]
    simp [startE, gGt, h, fz_tup, finF, outsOf, evO]
theorem gAdd_ev (a b : List Ev) (h : a.length + b.length ≤ 1000000) : gAdd (.list (a.map Ev.d)) (.list (b.map Ev.d)) = some (evO (a ++ b)) := by
  show (if (a.map Ev.d).length + (b.map Ev.d).length ≤ 1000000 then some (O.node .lst ((a.map Ev.d ++ b.map Ev.d).map .dat)) else none) = _
  rw [if_pos (by rw [List.length_map, List.length_map]; exact h), ← List.map_append]
  rfl
theorem dEv_len (n : Int) : (dEv n).length ≤ 1 := by
  unfold dEv
  split <;> simp
def bos (n : Nat) : List Ev := (List.range n).map fun i : Nat => Ev.bo (i : Int)
def res (n : Nat) : List Ev := (List.range n).map fun i : Nat => Ev.re (i : Int)
def copR (R R' : Ru) : List Ev :=
  if R.c > R'.c then bos R.c.toNat
  else if R.l > R.h then bos R.c.toNat ++ [.wa 500] ++ dEv (R.h + 1) ++ [.le 500]
  else bos R.c.toNat ++ [.wa 500] ++ dEv R.l ++ res R.c.toNat ++ dEv (R.h + 1 - R.l) ++ [.le 500]
theorem bos_len (n : Nat) : (bos n).length = n := by simp [bos]
theorem res_len (n : Nat) : (res n).length = n := by simp [res]
theorem comp_ev (own : Nat) {env : Env} {w : Str} {f : EF} (G : Nat → Ev) (n : Nat) (h : ∀ i : Nat, i < n → ∃ e1, hName own (.dat (.int i)) env = some e1 ∧ f e1 = .ok (.dat (G i).d) e1 ∧ wipeE [own] e1 = some env) (hn : n < 1000) :
    compL [own] (hName own) kYes f (rngD 0 n) env [] = .ok (((List.range n).map G).map Ev.d |>.map O.dat) env := by
  have x := compL_map (own := [own]) (hg := hName own) (t := kYes) (f := f) (env := env) (fun i : Nat => PyData.int (0 + (i : Int))) (fun _ => true) (fun i => .dat (G i).d) (List.range n) (fun i hi => by
    obtain ⟨e1, h1, h2, h3⟩ := h i (List.mem_range.mp hi)
    refine ⟨e1, e1, by rw [Int.zero_add]; exact h1, rfl, fun _ => ⟨e1, h2, h3⟩, fun z => (nomatch z)⟩) (by rw [List.length_range]; omega)
  have ft : ((List.range n).filter fun _ => true) = List.range n := List.filter_eq_self.mpr fun _ _ => rfl
  rw [ft] at x
  rw [List.map_map, List.map_map]
  exact x
theorem cop_ok {R R' : Ru} (ok : R.ok) : d_other_copies [.dat R.d, .dat R'.d] = .ok (evO (copR R R')) [] := by
  obtain ⟨c0, c4, _⟩ := ok
  have hb : -4611686018427387904 ≤ R.c ∧ R.c < 4611686018427387904 := by omega
  obtain ⟨B, hB⟩ : ∃ B, B = bos R.c.toNat := ⟨_, rfl⟩
  obtain ⟨V, hV⟩ : ∃ V, V = res R.c.toNat := ⟨_, rfl⟩
  have lb : B.length ≤ 4 := by rw [hB, bos_len]; omega
  have lr : V.length ≤ 4 := by rw [hV, res_len]; omega
  have x1 : compL [4] (hName 4) kYes (kMk .tup (kCons (kD (.str "borrow")) (kCons (kVar 4) (kNil)))) (rngD 0 R.c.toNat) [.v (.dat R.d), .v (.dat R'.d), .no, .no, .no] [] = .ok ((B.map Ev.d).map O.dat) [.v (.dat R.d), .v (.dat R'.d), .no, .no, .no] := by
    rw [hB]
    exact comp_ev 4 (w := "borrow") (env := [.v (.dat R.d), .v (.dat R'.d), .no, .no, .no]) (f := kMk .tup (kCons (kD (.str "borrow")) (kCons (kVar 4) (kNil)))) (fun i : Nat => Ev.bo (i : Int)) R.c.toNat (fun i _ => ⟨[.v (.dat R.d), .v (.dat R'.d), .no, .no, .v (.dat (.int i))], rfl, rfl, rfl⟩) (by omega)
  have e1 : copR R R' = if R.c > R'.c then B else if R.l > R.h then B ++ [.wa 500] ++ dEv (R.h + 1) ++ [.le 500] else B ++ [.wa 500] ++ dEv R.l ++ V ++ dEv (R.h + 1 - R.l) ++ [.le 500] := by rw [hB, hV]; rfl
  have xv : ∀ (y2 y3 : Sl), compL [4] (hName 4) kYes (kMk .tup (kCons (kD (.str "return")) (kCons (kVar 4) (kNil)))) (rngD 0 R.c.toNat) [.v (.dat R.d), .v (.dat R'.d), y2, y3, .no] [] = .ok ((V.map Ev.d).map O.dat) [.v (.dat R.d), .v (.dat R'.d), y2, y3, .no] := fun y2 y3 => by
    rw [hV]
    exact comp_ev 4 (w := "return") (env := [.v (.dat R.d), .v (.dat R'.d), y2, y3, .no]) (f := kMk .tup (kCons (kD (.str "return")) (kCons (kVar 4) (kNil)))) (fun i : Nat => Ev.re (i : Int)) R.c.toNat (fun i _ => ⟨[.v (.dat R.d), .v (.dat R'.d), y2, y3, .v (.dat (.int i))], rfl, rfl, rfl⟩) (by omega)
  rw [e1]
  clear e1 hB hV
  have d1 := days_event_ok (R.h + 1)
  have d2 := days_event_ok R.l
  have d3 := days_event_ok (R.h + 1 - R.l)
  have l1 := dEv_len (R.h + 1)
  have l2 := dEv_len R.l
  have l3 := dEv_len (R.h + 1 - R.l)
  generalize dEv (R.h + 1) = D1 at *
  generalize dEv R.l = D2 at *
  generalize dEv (R.h + 1 - R.l) = D3 at *
  have a1 : gAdd (.list (B.map Ev.d)) (.list [.tuple [.str "wait", .int 500]]) = some (O.node .lst (((B ++ [Ev.wa 500]).map Ev.d).map O.dat)) := gAdd_ev B [.wa 500] (by simp; omega)
  obtain ⟨W, hW⟩ : ∃ W, W = B ++ [.wa 500] := ⟨_, rfl⟩
  have lw : W.length ≤ 5 := by rw [hW, List.length_append]; show B.length + 1 ≤ 5; omega
  rw [← hW] at a1 ⊢
  unfold evO at d1 d2 d3 ⊢
  have hb' : -4611686018427387904 ≤ R.c ∧ R.c < 4611686018427387904 := hb
  unfold d_other_copies g_other_copies
  by_cases g1 : R.c > R'.c
  · rw [if_pos g1]
    simp [startE, List.replicate, hb, wipeE, x1, lcEnd, gGt, g1, finF, outsOf]
  · rw [if_neg g1]
    by_cases g2 : R.l > R.h
    · rw [if_pos g2]
      have a2 : gAdd (.list (W.map Ev.d)) (.list (D1.map Ev.d)) = some (.node .lst (((W ++ D1).map Ev.d).map .dat)) := gAdd_ev W D1 (by omega)
      have a3 : gAdd (.list ((W ++ D1).map Ev.d)) (.list [.tuple [.str "leave", .int 500]]) = some (.node .lst (((W ++ D1 ++ [Ev.le 500]).map Ev.d).map .dat)) := gAdd_ev (W ++ D1) [.le 500] (by rw [List.length_append]; simp; omega)
      have s1 : O.toDs ((B.map Ev.d).map O.dat) = some (B.map Ev.d) := toDs_map _
      have s2 : O.toDs ((W.map Ev.d).map O.dat) = some (W.map Ev.d) := toDs_map _
      have s3 : O.toDs ((D1.map Ev.d).map O.dat) = some (D1.map Ev.d) := toDs_map _
      have s4 : O.toDs (((W ++ D1).map Ev.d).map O.dat) = some ((W ++ D1).map Ev.d) := toDs_map _
      generalize (W ++ D1 ++ [Ev.le 500]).map Ev.d = P5 at *
      generalize (W ++ D1).map Ev.d = P4 at *
      generalize B.map Ev.d = P1 at *
      generalize W.map Ev.d = P2 at *
      generalize D1.map Ev.d = P3 at *
      generalize P1.map O.dat = Q1 at *
      generalize P2.map O.dat = Q2 at *
      generalize P3.map O.dat = Q3 at *
      generalize P4.map O.dat = Q4 at *
      generalize P5.map O.dat = Q5 at *
      simp [startE, List.replicate, hb, wipeE, x1, lcEnd, gGt, g1, g2, fz_tup, c_STRANGER, s1, s2, s3, s4, a1, a2, a3, d1, lendIn, backs, finF, outsOf]
    · rw [if_neg g2]
      have a2 : gAdd (.list (W.map Ev.d)) (.list (D2.map Ev.d)) = some (.node .lst (((W ++ D2).map Ev.d).map .dat)) := gAdd_ev W D2 (by omega)
      have a3 : gAdd (.list ((W ++ D2).map Ev.d)) (.list (V.map Ev.d)) = some (.node .lst (((W ++ D2 ++ V).map Ev.d).map .dat)) := gAdd_ev (W ++ D2) V (by rw [List.length_append]; omega)
      have a4 : gAdd (.list ((W ++ D2 ++ V).map Ev.d)) (.list (D3.map Ev.d)) = some (.node .lst (((W ++ D2 ++ V ++ D3).map Ev.d).map .dat)) := gAdd_ev (W ++ D2 ++ V) D3 (by simp only [List.length_append]; omega)
      have a5 : gAdd (.list ((W ++ D2 ++ V ++ D3).map Ev.d)) (.list [.tuple [.str "leave", .int 500]]) = some (.node .lst (((W ++ D2 ++ V ++ D3 ++ [Ev.le 500]).map Ev.d).map .dat)) := gAdd_ev (W ++ D2 ++ V ++ D3) [.le 500] (by simp only [List.length_append]; simp; omega)
      have s1 : O.toDs ((B.map Ev.d).map O.dat) = some (B.map Ev.d) := toDs_map _
      have s2 : O.toDs ((W.map Ev.d).map O.dat) = some (W.map Ev.d) := toDs_map _
      have s3 : O.toDs ((D2.map Ev.d).map O.dat) = some (D2.map Ev.d) := toDs_map _
      have s4 : O.toDs (((W ++ D2).map Ev.d).map O.dat) = some ((W ++ D2).map Ev.d) := toDs_map _
      have s5 : O.toDs ((V.map Ev.d).map O.dat) = some (V.map Ev.d) := toDs_map _
      have s6 : O.toDs (((W ++ D2 ++ V).map Ev.d).map O.dat) = some ((W ++ D2 ++ V).map Ev.d) := toDs_map _
      have s7 : O.toDs ((D3.map Ev.d).map O.dat) = some (D3.map Ev.d) := toDs_map _
      have s8 : O.toDs (((W ++ D2 ++ V ++ D3).map Ev.d).map O.dat) = some ((W ++ D2 ++ V ++ D3).map Ev.d) := toDs_map _
      generalize (W ++ D2 ++ V ++ D3 ++ [Ev.le 500]).map Ev.d = P9 at *
      generalize (W ++ D2 ++ V ++ D3).map Ev.d = P8 at *
      generalize (W ++ D2 ++ V).map Ev.d = P6 at *
      generalize (W ++ D2).map Ev.d = P4 at *
      generalize B.map Ev.d = P1 at *
      generalize W.map Ev.d = P2 at *
      generalize D2.map Ev.d = P3 at *
      generalize V.map Ev.d = P5 at *
      generalize D3.map Ev.d = P7 at *
      generalize P1.map O.dat = Q1 at *
      generalize P2.map O.dat = Q2 at *
      generalize P3.map O.dat = Q3 at *
      generalize P4.map O.dat = Q4 at *
      generalize P5.map O.dat = Q5 at *
      generalize P6.map O.dat = Q6 at *
      generalize P7.map O.dat = Q7 at *
      generalize P8.map O.dat = Q8 at *
      generalize P9.map O.dat = Q9 at *
      simp [startE, List.replicate, hb, wipeE, x1, xv, lcEnd, gGt, g1, g2, fz_tup, c_STRANGER, s1, s2, s3, s4, s5, s6, s7, s8, a1, a2, a3, a4, a5, d2, d3, lendIn, backs, finF, outsOf]
def rdyR (R R' : Ru) : List Ev := [.wa 500] ++ dEv ((if R'.h < R.h then R'.h else R.h) + 1) ++ (if R.h > R'.h then [.le 500] else [.wa 500])
theorem rdy_ok (R R' : Ru) : d_other_ready [.dat R.d, .dat R'.d] = .ok (evO (rdyR R R')) [] := by
  have d1 := days_event_ok ((if R'.h < R.h then R'.h else R.h) + 1)
  have l1 := dEv_len ((if R'.h < R.h then R'.h else R.h) + 1)
  unfold rdyR
  generalize hm : (if R'.h < R.h then R'.h else R.h) = m at *
  generalize dEv (m + 1) = D1 at *
  have a1 : gAdd (.list [.tuple [.str "wait", .int 500]]) (.list (D1.map Ev.d)) = some (O.node .lst ((([Ev.wa 500] ++ D1).map Ev.d).map O.dat)) := gAdd_ev [.wa 500] D1 (by simp; omega)
  have s1 : O.toDs ((D1.map Ev.d).map O.dat) = some (D1.map Ev.d) := toDs_map _
  have lw : ([Ev.wa 500] ++ D1).length ≤ 2 := by rw [List.length_append]; show 1 + D1.length ≤ 2; omega
  generalize [Ev.wa 500] ++ D1 = W at *
  have s2 : O.toDs ((W.map Ev.d).map O.dat) = some (W.map Ev.d) := toDs_map _
  unfold evO at d1 ⊢
  unfold d_other_ready g_other_ready
  by_cases g : R.h > R'.h
  · rw [if_pos g]
    have em : m = R'.h := by rw [← hm, if_pos g]
    rw [em] at d1
    have a2 : gAdd (.list (W.map Ev.d)) (.list [.tuple [.str "leave", .int 500]]) = some (O.node .lst (((W ++ [Ev.le 500]).map Ev.d).map O.dat)) := gAdd_ev W [.le 500] (by simp; omega)
    generalize (W ++ [Ev.le 500]).map Ev.d = P3 at *
    generalize D1.map Ev.d = P1 at *
    generalize W.map Ev.d = P2 at *
    generalize P1.map O.dat = Q1 at *
    generalize P2.map O.dat = Q2 at *
    generalize P3.map O.dat = Q3 at *
    simp [startE, List.replicate, fz_tup, c_STRANGER, d1, lendIn, backs, s1, s2, a1, a2, gGt, g, finF, outsOf]
  · rw [if_neg g]
    have em : m = R.h := by rw [← hm, if_neg g]
    rw [em] at d1
    have a2 : gAdd (.list (W.map Ev.d)) (.list [.tuple [.str "wait", .int 500]]) = some (O.node .lst (((W ++ [Ev.wa 500]).map Ev.d).map O.dat)) := gAdd_ev W [.wa 500] (by simp; omega)
    generalize (W ++ [Ev.wa 500]).map Ev.d = P3 at *
    generalize D1.map Ev.d = P1 at *
    generalize W.map Ev.d = P2 at *
    generalize P1.map O.dat = Q1 at *
    generalize P2.map O.dat = Q2 at *
    generalize P3.map O.dat = Q3 at *
    simp [startE, List.replicate, fz_tup, c_STRANGER, d1, lendIn, backs, s1, s2, a1, a2, gGt, g, finF, outsOf]
/-- loans: one loan kept, one loan rested, renewals as early as can be, renewals as late as can be -/
def renD (R : Ru) (i : Int) : Int := if 0 < R.l * (1 + i) - R.w then R.l * (1 + i) - R.w else 0
def lateE (R : Ru) : Nat → List Ev
  | 0 => [.bo 0]
  | n + 1 => lateE R n ++ dEv R.l ++ [.rn 0]
def earlyE (R : Ru) : Nat → List Ev
  | 0 => [.bo 0]
  | n + 1 => earlyE R n ++ dEv (renD R n - (if n = 0 then 0 else renD R ((n : Int) - 1))) ++ [.rn 0]
def loaR (R : Ru) : List (List Ev) := [[.bo 0] ++ dEv R.l, [.bo 0, .re 0] ++ dEv R.s ++ [.bo 0]] ++ ((List.range R.r.toNat).map fun n => earlyE R (n + 1)) ++ [lateE R R.r.toNat]
def evD (es : List Ev) : PyData := .list (es.map Ev.d)
theorem late_len (R : Ru) : ∀ n, (lateE R n).length ≤ 1 + 2 * n
  | 0 => by simp [lateE]
  | n + 1 => by
    have := late_len R n
    have := dEv_len R.l
    simp only [lateE, List.length_append, List.length_cons, List.length_nil]
    omega
theorem early_len (R : Ru) : ∀ n, (earlyE R n).length ≤ 1 + 2 * n
  | 0 => by simp [earlyE]
  | n + 1 => by
    have := early_len R n
    have := dEv_len (renD R n - (if n = 0 then 0 else renD R ((n : Int) - 1)))
    simp only [earlyE, List.length_append, List.length_cons, List.length_nil]
    omega
/-- one turn of the loop over the days of renewals: 1 the rows, 2 late, 3 early, 4 today -/
def todO (R : Ru) (n : Nat) : Int := if n = 0 then 0 else renD R ((n : Int) - 1)
def rowsO (l : List (List Ev)) : O := .node .lst ((l.map evD).map .dat)
theorem loa_turn (R : Ru) (l : List (List Ev)) (fs : List O) (hf : O.toDs fs = some (l.map evD)) (hl : l.length < 1000) (n : Nat) (hn : n < 4) (E : O) (hE : E = evO (earlyE R n) ∨ E = .dat (evD (earlyE R n))) (x5 : Sl) (w5 : x5.w = true) : ∃ e1, hName 5 (.dat (.int (renD R n))) [.v (.dat R.d), .v (.node .lst fs), .v (evO (lateE R n)), .v E, .v (.dat (.int (todO R n))), x5] = some e1 ∧
    l_other_loans_0 e1 = .nx [.v (.dat R.d), .v (rowsO (l ++ [earlyE R (n + 1)])), .v (evO (lateE R (n + 1))), .v (.dat (evD (earlyE R (n + 1)))), .v (.dat (.int (todO R (n + 1)))), .v (.dat (.int (renD R n)))] := by
  refine ⟨[.v (.dat R.d), .v (.node .lst fs), .v (evO (lateE R n)), .v E, .v (.dat (.int (todO R n))), .v (.dat (.int (renD R n)))], by simp [w5], ?_⟩
  have h1 := late_len R n
  have h2 := early_len R n
  have d1 := days_event_ok R.l
  have d2 := days_event_ok (renD R n - todO R n)
  have l1 := dEv_len R.l
  have l2 := dEv_len (renD R n - todO R n)
  have el : lateE R (n + 1) = lateE R n ++ dEv R.l ++ [.rn 0] := rfl
  have ee : earlyE R (n + 1) = earlyE R n ++ dEv (renD R n - todO R n) ++ [.rn 0] := rfl
  have et : todO R (n + 1) = renD R n := by
    unfold todO
    rw [if_neg (by omega)]
    congr 1
    omega
  rw [el, ee, et]
  generalize dEv R.l = D1 at *
  generalize dEv (renD R n - todO R n) = D2 at *
  generalize lateE R n = LA at *
  generalize earlyE R n = EA at *
  generalize renD R n = rd at *
  generalize todO R n = td at *
  have a1 : gAdd (.list (LA.map Ev.d)) (.list (D1.map Ev.d)) = some (O.node .lst (((LA ++ D1).map Ev.d).map O.dat)) := gAdd_ev LA D1 (by omega)
  have a2 : gAdd (.list ((LA ++ D1).map Ev.d)) (.list [.tuple [.str "renew", .int 0]]) = some (O.node .lst (((LA ++ D1 ++ [Ev.rn 0]).map Ev.d).map O.dat)) := gAdd_ev (LA ++ D1) [.rn 0] (by rw [List.length_append]; simp; omega)
  have a3 : gAdd (.list (EA.map Ev.d)) (.list (D2.map Ev.d)) = some (O.node .lst (((EA ++ D2).map Ev.d).map O.dat)) := gAdd_ev EA D2 (by omega)
  have a4 : gAdd (.list ((EA ++ D2).map Ev.d)) (.list [.tuple [.str "renew", .int 0]]) = some (O.node .lst (((EA ++ D2 ++ [Ev.rn 0]).map Ev.d).map O.dat)) := gAdd_ev (EA ++ D2) [.rn 0] (by rw [List.length_append]; simp; omega)
  have a5 : gAdd (.list (l.map evD)) (.list [evD (EA ++ D2 ++ [.rn 0])]) = some (O.node .lst (((l ++ [EA ++ D2 ++ [Ev.rn 0]]).map evD).map O.dat)) := by
    show (if (l.map evD).length + 1 ≤ 1000000 then some (O.node .lst ((l.map evD ++ [evD (EA ++ D2 ++ [.rn 0])]).map .dat)) else none) = _
    rw [if_pos (by rw [List.length_map]; omega), List.map_append (f := evD)]
    rfl
  unfold rowsO evO at *
  unfold evD at a5 ⊢
  have s1 : O.toDs ((D1.map Ev.d).map O.dat) = some (D1.map Ev.d) := toDs_map _
  have s2 : O.toDs ((D2.map Ev.d).map O.dat) = some (D2.map Ev.d) := toDs_map _
  have s3 : O.toDs ((LA.map Ev.d).map O.dat) = some (LA.map Ev.d) := toDs_map _
  have s4 : O.toDs ((EA.map Ev.d).map O.dat) = some (EA.map Ev.d) := toDs_map _
  have s5 : O.toDs (((LA ++ D1).map Ev.d).map O.dat) = some ((LA ++ D1).map Ev.d) := toDs_map _
  have s6 : O.toDs (((EA ++ D2).map Ev.d).map O.dat) = some ((EA ++ D2).map Ev.d) := toDs_map _
  have s7 : O.toDs (((EA ++ D2 ++ [Ev.rn 0]).map Ev.d).map O.dat) = some ((EA ++ D2 ++ [Ev.rn 0]).map Ev.d) := toDs_map _
  have s8 : O.toDs fs = some (l.map fun es => PyData.list (es.map Ev.d)) := hf
  clear hf
  unfold evD at hE
  generalize ((l ++ [EA ++ D2 ++ [Ev.rn 0]]).map fun es => PyData.list (es.map Ev.d)).map O.dat = Q9 at *
  generalize (l.map fun es => PyData.list (es.map Ev.d)) = P8 at *
  generalize (EA ++ D2 ++ [Ev.rn 0]).map Ev.d = P7 at *
  generalize (LA ++ D1 ++ [Ev.rn 0]).map Ev.d = P10 at *
  generalize (EA ++ D2).map Ev.d = P6 at *
  generalize (LA ++ D1).map Ev.d = P5 at *
  generalize EA.map Ev.d = P4 at *
  generalize LA.map Ev.d = P3 at *
  generalize D1.map Ev.d = P1 at *
  generalize D2.map Ev.d = P2 at *
  generalize P1.map O.dat = Q1 at *
  generalize P2.map O.dat = Q2 at *
  generalize P3.map O.dat = Q3 at *
  generalize P4.map O.dat = Q4 at *
  generalize P5.map O.dat = Q5 at *
  generalize P6.map O.dat = Q6 at *
  generalize P7.map O.dat = Q7 at *
  generalize P10.map O.dat = Q10 at *
  unfold l_other_loans_0
  rcases hE with rfl | rfl
  · simp [d1, d2, lendIn, backs, fz_tup, s1, s2, s3, s4, s5, s6, s7, s8, a1, a2, a3, a4, a5]
  · simp [d1, d2, lendIn, backs, fz_tup, s1, s2, s3, s4, s5, s6, s7, s8, a1, a2, a3, a4, a5]
theorem loa_go (R : Ru) : ∀ (k n : Nat) (l : List (List Ev)) (fs : List O) (E : O) (x5 : Sl), O.toDs fs = some (l.map evD) → n + k ≤ 4 → l.length + k < 900 → x5.w = true → (E = evO (earlyE R n) ∨ E = .dat (evD (earlyE R n))) → ∃ (fs' : List O) (E' : O) (y5 : Sl), O.toDs fs' = some ((l ++ (List.range k).map fun i => earlyE R (n + i + 1)).map evD) ∧ loopS (hName 5) l_other_loans_0 ((List.range k).map fun i : Nat => PyData.int (renD R ((n + i : Nat) : Int))) [.v (.dat R.d), .v (.node .lst fs), .v (evO (lateE R n)), .v E, .v (.dat (.int (todO R n))), x5] =
    .nx [.v (.dat R.d), .v (.node .lst fs'), .v (evO (lateE R (n + k))), .v E', .v (.dat (.int (todO R (n + k)))), y5]
  | 0, n, l, fs, E, x5, hf, _, _, _, _ => ⟨fs, E, x5, by simpa using hf, by simp [loopS]⟩
  | k + 1, n, l, fs, E, x5, hf, h1, h2, w5, hE => by
    obtain ⟨e1, q1, q2⟩ := loa_turn R l fs hf (by omega) n (by omega) E hE x5 w5
    have hf1 : O.toDs (((l ++ [earlyE R (n + 1)]).map evD).map O.dat) = some ((l ++ [earlyE R (n + 1)]).map evD) := toDs_map _
    obtain ⟨fs', E', y5, g, q3⟩ := loa_go R k (n + 1) (l ++ [earlyE R (n + 1)]) _ (.dat (evD (earlyE R (n + 1)))) (.v (.dat (.int (renD R n)))) hf1 (by omega) (by rw [List.length_append]; show l.length + 1 + k < 900; omega) rfl (.inr rfl)
    refine ⟨fs', E', y5, ?_, ?_⟩
    · rw [g, List.range_succ_eq_map, List.map_cons, List.map_map, List.append_assoc]
      have e2 : ((List.range k).map ((fun i => earlyE R (n + i + 1)) ∘ Nat.succ)) = (List.range k).map fun i => earlyE R (n + 1 + i + 1) := List.map_congr_left fun i _ => by
        show earlyE R (n + (i + 1) + 1) = _
        rw [show n + (i + 1) + 1 = n + 1 + i + 1 by omega]
      rw [e2]
      rfl
    · rw [List.range_succ_eq_map, List.map_cons, List.map_map, loopS]
      simp only [Nat.add_zero, q1, q2]
      have e1 : ((List.range k).map ((fun i : Nat => PyData.int (renD R ((n + i : Nat) : Int))) ∘ Nat.succ)) = (List.range k).map fun i : Nat => PyData.int (renD R ((n + 1 + i : Nat) : Int)) := List.map_congr_left fun i _ => by
        show PyData.int (renD R ((n + (i + 1) : Nat) : Int)) = _
        rw [show n + (i + 1) = n + 1 + i by omega]
      rw [e1, show n + (k + 1) = n + 1 + k by omega]
      exact q3
theorem ren_eq (R : Ru) (r : Nat) : ((List.range r).map fun i : Nat => PyData.int (if R.l * (1 + (i : Int)) - R.w > 0 then R.l * (1 + (i : Int)) - R.w else 0)) = (List.range r).map fun i : Nat => PyData.int (renD R ((0 + i : Nat) : Int)) := List.map_congr_left fun i _ => by
  rw [Nat.zero_add]
  rfl
theorem loa_ok {R : Ru} (ok : R.ok) : d_other_loans [.dat R.d] = .ok (rowsO (loaR R)) [] := by
  obtain ⟨c0, c4, l0, l1, r0, r3, w0, w1, h0, h1, s0, s1⟩ := ok
  have q0 := renewal_days_ok (c := R.c) (w := R.w) (h := R.h) (s := R.s) l0 l1 r0 r3
  rw [ren_eq] at q0
  obtain ⟨fs', E', y5, g, q⟩ := loa_go R R.r.toNat 0 [[.bo 0] ++ dEv R.l, [.bo 0, .re 0] ++ dEv R.s ++ [.bo 0]] [evO ([.bo 0] ++ dEv R.l), evO ([.bo 0, .re 0] ++ dEv R.s ++ [.bo 0])] (evO (earlyE R 0)) .no (by rw [toDs_cons, toDs_cons, toD_evO, toD_evO]; simp [evD]) (by omega) (by show 2 + R.r.toNat < 900; omega) rfl (.inl rfl)
  have d1 := days_event_ok R.l
  have d2 := days_event_ok R.s
  have b1 := dEv_len R.l
  have b2 := dEv_len R.s
  have er : loaR R = [[.bo 0] ++ dEv R.l, [.bo 0, .re 0] ++ dEv R.s ++ [.bo 0]] ++ ((List.range R.r.toNat).map fun i => earlyE R (0 + i + 1)) ++ [lateE R R.r.toNat] := by
    unfold loaR
    congr 2
    exact List.map_congr_left fun i _ => by rw [Nat.zero_add]
  rw [er]
  have ll : (List.range R.r.toNat).length ≤ 3 := by rw [List.length_range]; omega
  generalize hX : (List.range R.r.toNat).map (fun i => earlyE R (0 + i + 1)) = X at *
  have lx : X.length ≤ 3 := by rw [← hX, List.length_map]; exact ll
  have eL : lateE R 0 = [.bo 0] := rfl
  have eE : earlyE R 0 = [.bo 0] := rfl
  have eT : todO R 0 = 0 := rfl
  rw [Nat.zero_add, eL, eE, eT] at q
  generalize lateE R R.r.toNat = LZ at *
  generalize todO R R.r.toNat = TZ at *
  generalize hI : (List.range R.r.toNat).map (fun i : Nat => PyData.int (renD R ((0 + i : Nat) : Int))) = IT at *
  generalize dEv R.l = D1 at *
  generalize dEv R.s = D2 at *
  have a1 : gAdd (.list [.tuple [.str "borrow", .int 0]]) (.list (D1.map Ev.d)) = some (O.node .lst ((([Ev.bo 0] ++ D1).map Ev.d).map O.dat)) := gAdd_ev [.bo 0] D1 (by simp; omega)
  have a2 : gAdd (.list [.tuple [.str "borrow", .int 0], .tuple [.str "return", .int 0]]) (.list (D2.map Ev.d)) = some (O.node .lst ((([Ev.bo 0, .re 0] ++ D2).map Ev.d).map O.dat)) := gAdd_ev [.bo 0, .re 0] D2 (by simp; omega)
  have a3 : gAdd (.list (([Ev.bo 0, .re 0] ++ D2).map Ev.d)) (.list [.tuple [.str "borrow", .int 0]]) = some (O.node .lst ((([Ev.bo 0, .re 0] ++ D2 ++ [Ev.bo 0]).map Ev.d).map O.dat)) := gAdd_ev ([.bo 0, .re 0] ++ D2) [.bo 0] (by rw [List.length_append]; simp; omega)
  have a4 : gAdd (.list (([[Ev.bo 0] ++ D1, [.bo 0, .re 0] ++ D2 ++ [.bo 0]] ++ X).map evD)) (.list [.list (LZ.map Ev.d)]) = some (O.node .lst ((([[Ev.bo 0] ++ D1, [.bo 0, .re 0] ++ D2 ++ [.bo 0]] ++ X ++ [LZ]).map evD).map O.dat)) := by
    show (if (([[Ev.bo 0] ++ D1, [.bo 0, .re 0] ++ D2 ++ [.bo 0]] ++ X).map evD).length + 1 ≤ 1000000 then some (O.node .lst (((([[Ev.bo 0] ++ D1, [.bo 0, .re 0] ++ D2 ++ [.bo 0]] ++ X).map evD) ++ [evD LZ]).map .dat)) else none) = _
    rw [if_pos (by rw [List.length_map, List.length_append]; show 2 + X.length + 1 ≤ 1000000; omega), List.map_append (l₂ := [LZ])]
    rfl
  unfold evO at *
  unfold rowsO
  have hb : (R.r.toNat : Int) = R.r := Int.toNat_of_nonneg r0
  generalize (([[Ev.bo 0] ++ D1, [.bo 0, .re 0] ++ D2 ++ [.bo 0]] ++ X ++ [LZ]).map evD).map O.dat = QQ at *
  generalize ([[Ev.bo 0] ++ D1, [.bo 0, .re 0] ++ D2 ++ [.bo 0]] ++ X).map evD = PP at *
  have s1 : O.toDs ((D1.map Ev.d).map O.dat) = some (D1.map Ev.d) := toDs_map _
  have s2 : O.toDs ((D2.map Ev.d).map O.dat) = some (D2.map Ev.d) := toDs_map _
  have s3 : O.toDs ((([Ev.bo 0, .re 0] ++ D2).map Ev.d).map O.dat) = some (([Ev.bo 0, .re 0] ++ D2).map Ev.d) := toDs_map _
  have s4 : O.toDs ((LZ.map Ev.d).map O.dat) = some (LZ.map Ev.d) := toDs_map _
  have s5 : O.toDs (IT.map O.dat) = some IT := toDs_map _
  have eb : [O.dat (.tuple [.str "borrow", .int 0])] = ([Ev.bo 0].map Ev.d).map O.dat := rfl
  rw [← eb] at q
  clear hX hI er eL eE eT eb
  generalize ([Ev.bo 0, .re 0] ++ D2 ++ [Ev.bo 0]).map Ev.d = P1 at *
  generalize ([Ev.bo 0, .re 0] ++ D2).map Ev.d = P2 at *
  generalize ([Ev.bo 0] ++ D1).map Ev.d = P3 at *
  generalize D1.map Ev.d = P4 at *
  generalize D2.map Ev.d = P5 at *
  generalize LZ.map Ev.d = P6 at *
  generalize P1.map O.dat = Q1 at *
  generalize P2.map O.dat = Q2 at *
  generalize P3.map O.dat = Q3 at *
  generalize P4.map O.dat = Q4 at *
  generalize P5.map O.dat = Q5 at *
  generalize P6.map O.dat = Q6 at *
  generalize IT.map O.dat = IQ at *
  unfold d_other_loans g_other_loans
  simp [startE, List.replicate, d1, d2, q0, lendIn, backs, fz_tup, s1, s2, s3, s4, s5, a1, a2, a3, a4, q, g, getP, putP, slotO, setO, O.get, O.put, finF, outsOf]
end DP
end

section
namespace DP
open PySem PySem.Spec PyProof.Rows L2 DP.G
def rowsP (R R' : Ru) : List (List Ev) := [copR R R', rdyR R R'] ++ loaR R
theorem okv_dEv {n : Int} (h : n ≤ 1000) : ∀ e ∈ dEv n, e.okv := fun e he => by
  unfold dEv at he
  split at he
  · have : e = .da n.toNat := by simpa using he
    subst this
    have : 1 ≤ n.toNat ∧ n.toNat ≤ 1000 := by omega
    simpa only [Ev.okv] using this
  · simp at he
theorem okv_app {a b : List Ev} (ha : ∀ e ∈ a, e.okv) (hb : ∀ e ∈ b, e.okv) : ∀ e ∈ a ++ b, e.okv := fun e he => (List.mem_append.mp he).elim (ha e) (hb e)
theorem okv_one {e : Ev} (h : e.okv) : ∀ x ∈ [e], x.okv := fun x hx => by
  have : x = e := by simpa using hx
  exact this ▸ h
theorem okv_bos {n : Nat} (h : n ≤ 4) : ∀ e ∈ bos n, e.okv := fun e he => by
  obtain ⟨i, hi, rfl⟩ := List.mem_map.mp he
  have := List.mem_range.mp hi
  show 0 ≤ (i : Int) ∧ (i : Int) ≤ 999
  omega
theorem okv_res {n : Nat} (h : n ≤ 4) : ∀ e ∈ res n, e.okv := fun e he => by
  obtain ⟨i, hi, rfl⟩ := List.mem_map.mp he
  have := List.mem_range.mp hi
  show 0 ≤ (i : Int) ∧ (i : Int) ≤ 999
  omega
theorem okv_wa : (Ev.wa 500).okv := by show (0 : Int) ≤ 500 ∧ (500 : Int) ≤ 999; decide
theorem okv_le : (Ev.le 500).okv := by show (0 : Int) ≤ 500 ∧ (500 : Int) ≤ 999; decide
theorem okv_bo : (Ev.bo 0).okv := by show (0 : Int) ≤ 0 ∧ (0 : Int) ≤ 999; decide
theorem okv_re : (Ev.re 0).okv := by show (0 : Int) ≤ 0 ∧ (0 : Int) ≤ 999; decide
theorem okv_rn : (Ev.rn 0).okv := by show (0 : Int) ≤ 0 ∧ (0 : Int) ≤ 999; decide
theorem renD_le {R : Ru} (ok : R.ok) {n : Nat} (h : n ≤ 3) : 0 ≤ renD R n ∧ renD R n ≤ 120 := by
  obtain ⟨_, _, l0, l1, _, _, w0, _⟩ := ok
  have m0 : 0 ≤ R.l * (1 + (n : Int)) := Int.mul_nonneg (by omega) (by omega)
  have m1 : R.l * (1 + (n : Int)) ≤ 30 * 4 := Int.mul_le_mul l1 (by omega) (by omega) (by decide)
  unfold renD
  split <;> omega
theorem okv_late {R : Ru} (ok : R.ok) : ∀ n, ∀ e ∈ lateE R n, e.okv
  | 0 => okv_one okv_bo
  | n + 1 => okv_app (okv_app (okv_late ok n) (okv_dEv (by have := ok.2.2.2.1; omega))) (okv_one okv_rn)
theorem okv_early {R : Ru} (ok : R.ok) : ∀ n, n ≤ 4 → ∀ e ∈ earlyE R n, e.okv
  | 0, _ => okv_one okv_bo
  | n + 1, h => by
    refine okv_app (okv_app (okv_early ok n (by omega)) (okv_dEv ?_)) (okv_one okv_rn)
    have a := renD_le ok (n := n) (by omega)
    split
    · omega
    · rename_i z
      have b := renD_le ok (n := n - 1) (by omega)
      rw [show ((n - 1 : Nat) : Int) = (n : Int) - 1 by omega] at b
      omega
theorem rows_ok {R R' : Ru} (ok : R.ok) : ∀ es ∈ rowsP R R', (∀ e ∈ es, e.okv) ∧ es.length ≤ 600 := by
  have ok0 := ok
  obtain ⟨c0, c4, l0, l1, r0, r3, w0, w1, h0, h1, s0, s1⟩ := ok
  intro es hes
  unfold rowsP loaR at hes
  simp only [List.cons_append, List.nil_append, List.mem_cons, List.mem_append, List.mem_map, List.mem_range, List.not_mem_nil, or_false] at hes
  have x1 := dEv_len (R.h + 1)
  have x2 := dEv_len R.l
  have x3 := dEv_len (R.h + 1 - R.l)
  have x4 := dEv_len R.s
  have x5 := dEv_len ((if R'.h < R.h then R'.h else R.h) + 1)
  have xb := bos_len R.c.toNat
  have xr := res_len R.c.toNat
  rcases hes with rfl | rfl | rfl | rfl | ⟨n, hn, rfl⟩ | rfl
  · unfold copR
    split
    · exact ⟨okv_bos (by omega), by omega⟩
    · split
      · exact ⟨okv_app (okv_app (okv_app (okv_bos (by omega)) (okv_one okv_wa)) (okv_dEv (by omega))) (okv_one okv_le), by simp only [List.length_append, List.length_cons, List.length_nil]; omega⟩
      · exact ⟨okv_app (okv_app (okv_app (okv_app (okv_app (okv_bos (by omega)) (okv_one okv_wa)) (okv_dEv (by omega))) (okv_res (by omega))) (okv_dEv (by omega))) (okv_one okv_le), by simp only [List.length_append, List.length_cons, List.length_nil]; omega⟩
  · unfold rdyR
    refine ⟨okv_app (okv_app (okv_one okv_wa) (okv_dEv (by split <;> omega))) ?_, ?_⟩
    · split
      · exact okv_one okv_le
      · exact okv_one okv_wa
    · generalize dEv ((if R'.h < R.h then R'.h else R.h) + 1) = D at *
      simp only [List.length_append, List.length_cons, List.length_nil]
      split <;> simp only [List.length_cons, List.length_nil] <;> omega
  · exact ⟨okv_app (okv_one okv_bo) (okv_dEv (by omega)), by simp only [List.length_cons]; omega⟩
  · exact ⟨okv_app (okv_app (fun e he => by
      rcases List.mem_cons.mp he with z | z
      · exact z ▸ okv_bo
      · exact okv_one okv_re e z) (okv_dEv (n := R.s) (by omega))) (okv_one okv_bo), by simp only [List.length_append, List.length_cons, List.length_nil]; omega⟩
  · have := early_len R (n + 1)
    exact ⟨okv_early ok0 (n + 1) (by omega), by omega⟩
  · have := late_len R R.r.toNat
    exact ⟨okv_late ok0 _, by omega⟩
def partR (R R' : Ru) : Option (List Ev) := if Perm R R' then none else (rowsP R R').find? fun es => okR R es && !okR R' es
def partD : Option (List Ev) → PyData
  | none => .none
  | some es => .tuple (es.map Ev.d)
theorem part_go {R R' : Ru} (x2 : Sl) : ∀ (l : List (List Ev)) (x3 : Sl), x3.w = true → (∀ es ∈ l, (∀ e ∈ es, e.okv) ∧ es.length ≤ 600) → ∃ y3, loopS (hName 3) l_parting_of_0 (l.map evD) [.v (.dat R.d), .v (.dat R'.d), x2, x3] = (match l.find? fun es => okR R es && !okR R' es with
    | none => .nx [.v (.dat R.d), .v (.dat R'.d), x2, y3]
    | some es => .rt (.dat (.tuple (es.map Ev.d))) [.v (.dat R.d), .v (.dat R'.d), x2, y3])
  | [], x3, _, _ => ⟨x3, rfl⟩
  | es :: l, x3, w3, h => by
    obtain ⟨hv, hl⟩ := h es List.mem_cons_self
    have q1 := run_of_ok R (.lst (es := es)) (fun e he => (hv e he).n) (by omega)
    have q2 := run_of_ok R' (.lst (es := es)) (fun e he => (hv e he).n) (by omega)
    have g1 := gIs_ex R es
    have g2 := gIsNot_ex R' es
    have gt : gTuple [evD es] = some (.dat (.tuple (es.map Ev.d))) := rfl
    obtain ⟨E, hE⟩ : ∃ E : Env, E = [.v (.dat R.d), .v (.dat R'.d), x2, .v (.dat (evD es))] := ⟨_, rfl⟩
    have hn : hName 3 (.dat (evD es)) [.v (.dat R.d), .v (.dat R'.d), x2, x3] = some E := by rw [hE]; simp [w3]
    have t1 : kB (k2 gIs (kIxN 1 (kCall [false, false] [none, none] d_run_of (kCons (kVar 0) (kCons (kVar 3) (kNil))))) (kD .none)) E = .ok (okR R es) E := by
      rw [kB_eq, k2_eq, run_ix (runFrom R (first R) es 0) _ E E (by rw [hE]; unfold evD; simp [q1, lendIn, backs])]
      simp [g1]
    have t2 : kB (k2 gIsNot (kIxN 1 (kCall [false, false] [none, none] d_run_of (kCons (kVar 1) (kCons (kVar 3) (kNil))))) (kD .none)) E = .ok (!okR R' es) E := by
      rw [kB_eq, k2_eq, run_ix (runFrom R' (first R') es 0) _ E E (by rw [hE]; unfold evD; simp [q2, lendIn, backs])]
      have g2' : gIsNot (exD (runFrom R' (first R') es 0)) .none = some (.dat (.bool (!okR R' es))) := g2
      rw [bind_ok]
      simp only [kD_eq, bind_ok, toD_dat, g2']
    have e0 : l_parting_of_0 E = ((if okR R es = true then (RE.ok (!okR R' es) E : RE Bool) else .ok false E).st fun b e => if b = true then kRt (kn gTuple (kCons (kVar 3) (kNil))) e else .nx e) := by
      unfold l_parting_of_0
      rw [kIf_eq, kAnd_eq, t1, bind_ok, t2]
      rfl
    rw [List.map_cons, loopS, hn, List.find?_cons]
    cases b : okR R es && !okR R' es with
    | true =>
      rw [Bool.and_eq_true] at b
      refine ⟨.v (.dat (evD es)), ?_⟩
      have : l_parting_of_0 E = .rt (.dat (.tuple (es.map Ev.d))) E := by
        rw [e0, b.1, b.2, hE]
        generalize evD es = D at *
        simp [gt]
      simp only [this]
      rw [hE]
    | false =>
      have : l_parting_of_0 E = .nx E := by
        rw [e0]
        cases x : okR R es with
        | false => rfl
        | true =>
          rw [x, Bool.true_and] at b
          rw [b]
          rfl
      obtain ⟨y3, q⟩ := part_go x2 l (.v (.dat (evD es))) rfl (fun es he => h es (List.mem_cons_of_mem _ he))
      refine ⟨y3, ?_⟩
      simp only [this]
      rw [hE]
      exact q
theorem part_ok {R R' : Ru} (ok : R.ok) (ok' : R'.ok) : d_parting_history [.dat R.d, .dat R'.d] = .ok (.dat (partD (partR R R'))) [] := by
  have r1 := require_rules_ok ok
  have r2 := require_rules_ok ok'
  have al := allowed_ok (c := R.c) (l := R.l) (r := R.r) (w := R.w) (h := R.h) (s := R.s) (c' := R'.c) (l' := R'.l) (r' := R'.r) (w' := R'.w) (h' := R'.h) (s' := R'.s) ok.2.2.1 ok.2.2.2.1 ok.2.2.2.2.1 ok.2.2.2.2.2.1 ok'.2.2.1 ok'.2.2.2.1
  have o1 := cop_ok (R' := R') ok
  have o2 := rdy_ok R R'
  have o3 := loa_ok ok
  have t1 := toD_evO (copR R R')
  have t2 := toD_evO (rdyR R R')
  have t3 : (rowsO (loaR R)).toD = some (.list ((loaR R).map evD)) := by unfold rowsO; rw [toD_lst, toDs_map]; rfl
  have ll : (loaR R).length ≤ 1000 := by
    obtain ⟨c0, c4, l0, l1, r0, r3, _⟩ := ok
    unfold loaR
    simp only [List.length_append, List.length_cons, List.length_nil, List.length_map, List.length_range]
    omega
  have a1 : gAdd (.list [.list ((copR R R').map Ev.d), .list ((rdyR R R').map Ev.d)]) (.list ((loaR R).map evD)) = some (O.node .lst (((rowsP R R').map evD).map O.dat)) := by
    show (if 2 + ((loaR R).map evD).length ≤ 1000000 then some (O.node .lst (([evD (copR R R'), evD (rdyR R R')] ++ (loaR R).map evD).map .dat)) else none) = _
    rw [if_pos (by rw [List.length_map]; omega)]
    rfl
  have tr : O.toDs (((rowsP R R').map evD).map O.dat) = some ((rowsP R R').map evD) := toDs_map _
  obtain ⟨y3, q⟩ := part_go (R := R) (R' := R') (.v (.dat (.list ((rowsP R R').map evD)))) (rowsP R R') .no rfl (rows_ok ok)
  have pf : d_parting_of [.dat R.d, .dat R'.d] = .ok (.dat (partD (partR R R'))) [] := by
    unfold partR
    unfold d_parting_of g_parting_of
    by_cases p : Perm R R'
    · rw [if_pos p]
      have p' : permB R.c R.l R.r R.w R.h R.s R'.c R'.l R'.r R'.w R'.h R'.s = true := p
      rw [p'] at al
      simp [startE, List.replicate, al, lendIn, backs, finF, outsOf, partD]
    · rw [if_neg p]
      have p' : permB R.c R.l R.r R.w R.h R.s R'.c R'.l R'.r R'.w R'.h R'.s = false := by simpa using p
      rw [p'] at al
      generalize evO (copR R R') = O1 at *
      generalize evO (rdyR R R') = O2 at *
      generalize rowsO (loaR R) = O3 at *
      generalize (copR R R').map Ev.d = P1 at *
      generalize (rdyR R R').map Ev.d = P2 at *
      generalize (loaR R).map evD = P3 at *
      generalize (rowsP R R').map evD = P4 at *
      generalize P4.map O.dat = Q4 at *
      cases z : (rowsP R R').find? fun es => okR R es && !okR R' es with
      | none =>
        rw [z] at q
        simp only at q
        simp [startE, List.replicate, al, o1, o2, o3, t1, t2, t3, a1, tr, q, lendIn, backs, finF, outsOf, partD]
      | some es =>
        rw [z] at q
        simp only at q
        simp [startE, List.replicate, al, o1, o2, o3, t1, t2, t3, a1, tr, q, lendIn, backs, finF, outsOf, partD]
  unfold d_parting_history g_parting_history
  simp [startE, r1, r2, pf, lendIn, backs, finF, outsOf]
theorem part_some {R R' : Ru} (ok : R.ok) {es : List Ev} (h : partR R R' = some es) : okR R es = true ∧ okR R' es = false ∧ (∀ e ∈ es, e.okv) ∧ es.length ≤ 600 := by
  unfold partR at h
  split at h
  · cases h
  · have q := List.find?_some h
    have m := rows_ok ok es (List.mem_of_find?_eq_some h)
    rw [Bool.and_eq_true] at q
    exact ⟨q.1, by simpa using q.2, m.1, m.2⟩
end DP
end

section
namespace DP
open PySem PySem.Spec PyProof.Rows L2 DP.G
/-! ### alike rules -/
def pB (R R' : Ru) : Bool := permB R.c R.l R.r R.w R.h R.s R'.c R'.l R'.r R'.w R'.h R'.s
theorem pB_perm {R R' : Ru} : pB R R' = true ↔ Perm R R' := Iff.rfl
theorem allowed_R {R R' : Ru} (ok : R.ok) (ok' : R'.ok) : d_is_allowed_by [.dat R.d, .dat R'.d] = .ok (.dat (.bool (pB R R'))) [] :=
  allowed_ok (c := R.c) (l := R.l) (r := R.r) (w := R.w) (h := R.h) (s := R.s) (c' := R'.c) (l' := R'.l) (r' := R'.r) (w' := R'.w) (h' := R'.h) (s' := R'.s) ok.2.2.1 ok.2.2.2.1 ok.2.2.2.2.1 ok.2.2.2.2.2.1 ok'.2.2.1 ok'.2.2.2.1
theorem allows_ok {R R' : Ru} (ok : R.ok) (ok' : R'.ok) : d_allows [.dat R.d, .dat R'.d] = .ok (.dat (.bool (pB R R'))) [] := by
  have r1 := require_rules_ok ok
  have r2 := require_rules_ok ok'
  have al := allowed_R ok ok'
  unfold d_allows g_allows
  simp [startE, r1, r2, al, lendIn, backs, finF, outsOf]
theorem alike_ok {R R' : Ru} (ok : R.ok) (ok' : R'.ok) : d_alike [.dat R.d, .dat R'.d] = .ok (.dat (.bool (pB R R' && pB R' R))) [] := by
  have r1 := require_rules_ok ok
  have r2 := require_rules_ok ok'
  have al := allowed_R ok ok'
  have al' := allowed_R ok' ok
  unfold d_alike g_alike
  cases h : pB R R' with
  | true =>
    rw [h] at al
    simp [startE, r1, r2, al, al', lendIn, backs, finF, outsOf]
  | false =>
    rw [h] at al
    simp [startE, r1, r2, al, al', lendIn, backs, finF, outsOf]
theorem gEq_bool (a b : Bool) : gEq (.bool a) (.bool b) = some (.dat (.bool (a == b))) := by
  rw [gEq_of (by rfl) (by rfl)]
  cases a <;> cases b <;> rfl
theorem gNe_bool (a b : Bool) : gNe (.bool a) (.bool b) = some (.dat (.bool (a != b))) := by
  rw [gNe_of (by rfl) (by rfl)]
  cases a <;> cases b <;> rfl
@[simp] theorem isi_bb (b : Bool) : gIsi "bool" (.bool b) = some (.dat (.bool true)) := (rfl)
theorem isbool_ok (a b : Bool) : d__law_is_bool [.dat (.bool a), .dat (.bool b)] = .ok (.dat (.bool (a == b))) [] := by
  have g := gEq_bool a b
  unfold d__law_is_bool g__law_is_bool
  simp [startE, g, finF, outsOf]
theorem pB_refl {R : Ru} (ok : R.ok) : pB R R = true := (allow_of ok).mpr ⟨rfl, rfl, Int.le_refl _, Int.le_refl _, Int.le_refl _, fun k _ _ => by split <;> omega⟩
theorem pB_trans {R S T : Ru} (ok : R.ok) (ok' : S.ok) (h1 : pB R S = true) (h2 : pB S T = true) : pB R T = true := by
  obtain ⟨a1, a2, a3, a4, a5, a6⟩ := (allow_of ok).mp h1
  obtain ⟨b1, b2, b3, b4, b5, b6⟩ := (allow_of ok').mp h2
  refine (allow_of ok).mpr ⟨a1.trans b1, a2.trans b2, by omega, by omega, by omega, fun k k0 k1 => ?_⟩
  have x := a6 k k0 k1
  have y := b6 k k0 (by omega)
  generalize R.l * k = A at *
  generalize S.l * k = B at *
  generalize T.l * k = C at *
  split at x <;> split at y <;> split <;> omega
theorem run_err {R : Ru} : ∀ {es : List Ev} {s : St} {k j : Nat}, runFrom R s es k = .error j → ∃ i, j = k + i ∧ i < es.length ∧ (∃ u, runFrom R s (es.take i) k = .ok u) ∧ ∀ v, runFrom R s (es.take (i + 1)) k ≠ .ok v
  | [], s, k, j, h => nomatch h
  | e :: es, s, k, j, h => by
    unfold runFrom at h
    split at h
    · rename_i w hw
      obtain ⟨i, h1, h2, ⟨u, h3⟩, h4⟩ := run_err h
      have cons : ∀ l, runFrom R s (e :: l) k = runFrom R w l (k + 1) := fun l => by
        show (match nextSt R s e with | some t => runFrom R t l (k + 1) | none => .error k) = _
        rw [hw]
      refine ⟨i + 1, by omega, by rw [List.length_cons]; omega, ⟨u, ?_⟩, fun v => ?_⟩
      · rw [List.take_succ_cons, cons]
        exact h3
      · rw [List.take_succ_cons, cons]
        exact h4 v
    · rename_i hw
      cases h
      refine ⟨0, rfl, by rw [List.length_cons]; omega, ⟨s, rfl⟩, fun v q => ?_⟩
      have : runFrom R s [e] k = .error k := by
        show (match nextSt R s e with | some t => runFrom R t [] (k + 1) | none => .error k) = _
        rw [hw]
      rw [List.take_succ_cons, List.take_zero, this] at q
      cases q
theorem take_ok {R : Ru} {es : List Ev} {s u : St} {k i m : Nat} (h : runFrom R s (es.take m) k = .ok u) (le : i ≤ m) : ∃ v, runFrom R s (es.take i) k = .ok v := by
  obtain ⟨v, h1, _⟩ := run_take i h
  rw [List.take_take, Nat.min_eq_left le] at h1
  exact ⟨v, h1⟩
/-- alike rules refuse the same events -/
theorem ex_alike {R R' : Ru} (ok : R.ok) (ok' : R'.ok) (p : Perm R R') (p' : Perm R' R) (es : List Ev) : exD (runFrom R (first R) es 0) = exD (runFrom R' (first R') es 0) := by
  cases h : runFrom R (first R) es 0 with
  | ok u =>
    obtain ⟨v, hv⟩ := allow_run ok p h
    rw [hv]
    rfl
  | error j =>
    cases h' : runFrom R' (first R') es 0 with
    | ok u =>
      obtain ⟨v, hv⟩ := allow_run ok' p' h'
      rw [h] at hv
      cases hv
    | error j' =>
      obtain ⟨i, e1, l1, ⟨u, o1⟩, n1⟩ := run_err h
      obtain ⟨i', e2, l2, ⟨u', o2⟩, n2⟩ := run_err h'
      have : i = i' := by
        rcases Nat.lt_trichotomy i i' with z | z | z
        · obtain ⟨v, hv⟩ := take_ok o2 (i := i + 1) z
          obtain ⟨x, hx⟩ := allow_run ok' p' hv
          exact absurd hx (n1 x)
        · exact z
        · obtain ⟨v, hv⟩ := take_ok o1 (i := i' + 1) z
          obtain ⟨x, hx⟩ := allow_run ok p hv
          exact absurd hx (n2 x)
      subst this
      rw [e1, e2]
theorem ne_ex (z : Except Nat St) : gNe (exD z) (exD z) = some (.dat (.bool false)) := gNe_self (by cases z <;> rfl)
theorem rules_R {o : O} (h : Src o) : ∃ (R : Ru) (o' : O), d__law_rules [o] = .ok (.dat R.d) [o'] ∧ R.ok ∧ Src o' := by
  obtain ⟨c, l, r, w, h', s, o1, e2, R0, S1⟩ := rules_ok h
  exact ⟨⟨c, l, r, w, h', s⟩, o1, e2, R0, S1⟩
end DP
end

section
namespace DP.K32
open PySem PySem.Spec PyProof.Rows L2 DP.G
/-- _law_window: source, rules_so, count, window_so -/
def g__law_window : Env → RS := kSq (kAs (k2 gMul (k2 gIx (kVar 1) (kD (.int 1))) (k2 gIx (kVar 1) (kD (.int 2)))) (hName 2)) (kSq (kAs (k2 gIx (kMk .lst (kCons (k2 gIx (kVar 1) (kD (.int 3))) (kCons (kVar 2) (kCons (k2 gAdd (kVar 2) (kD (.int 1))) (kCons (k2 gSub (kVar 2) (kD (.int 1))) (kCons (kD (.int 30)) (kCons (kCall [true, false] [some 0, none] d__law_pick (kCons (kMark 0) (kCons (kD (.int 31)) (kNil)))) (kNil)))))))) (kCall [true, false] [some 0, none] d__law_pick (kCons (kMark 0) (kCons (kD (.int 6)) (kNil))))) (hName 3)) (kRt (k2 gAdd (k2 gAdd (kSl (kVar 1) kNoPart (kPart (kD (.int 3)))) (kMk .tup (kCons (kn gMax2 (kCons (kD (.int 0)) (kCons (kn gMin2 (kCons (kD (.int 30)) (kCons (kVar 3) (kNil)))) (kNil)))) (kNil)))) (kSl (kVar 1) (kPart (kD (.int 4))) kNoPart))))
def d__law_window : List O → RF := fun os => finF [true, false] (g__law_window (startE [true, false] os 4))
/-- law: script, k, source, base, one, other, third, a, b, turn, history_so -/
def l_law_0 : Env → RS := kSq (kAs (kCall [true, false, false, false] [some 2, none, none, none] d__law_history (kCons (kMark 2) (kCons (kVar 3) (kCons (kD (.int 40)) (kCons (kD (.bool true)) (kNil)))))) (hName 10)) (kIf (kB (k2 gNe (kIxN 1 (kCall [false, false] [none, none] d__law_ran (kCons (kVar 4) (kCons (kVar 10) (kNil))))) (kIxN 1 (kCall [false, false] [none, none] d__law_ran (kCons (kVar 5) (kCons (kVar 10) (kNil))))))) (kRt (kD (.bool false))) (kNx))
def l_law_1 : Env → RS := kIf (kOr (kNot (kB (kCall [false, false] [none, none] d__law_is_bool (kCons (kCall [false, false] [none, none] d_alike (kCons (kVar 7) (kCons (kVar 8) (kNil)))) (kCons (kAndV (kCall [false, false] [none, none] d_allows (kCons (kVar 7) (kCons (kVar 8) (kNil)))) (kCall [false, false] [none, none] d_allows (kCons (kVar 8) (kCons (kVar 7) (kNil))))) (kNil)))))) (kB (k2 gNe (kCall [false, false] [none, none] d_alike (kCons (kVar 8) (kCons (kVar 7) (kNil)))) (kCall [false, false] [none, none] d_alike (kCons (kVar 7) (kCons (kVar 8) (kNil))))))) (kRt (kD (.bool false))) (kNx)
def l_law_2 : Env → RS := kSq (kAs (kCall [false, false] [none, none] d__law_source (kCons (kVar 0) (kCons (kVar 1) (kNil)))) (hName 2)) (kSq (kAs (kCall [true] [some 2] d__law_rules (kCons (kMark 2) (kNil))) (hName 3)) (kSq (kPar3 4 5 6 (kCons (kCall [true, false] [some 2, none] d__law_window (kCons (kMark 2) (kCons (kVar 3) (kNil)))) (kCons (kCall [true, false] [some 2, none] d__law_window (kCons (kMark 2) (kCons (kVar 3) (kNil)))) (kCons (kCall [true, false] [some 2, none] d__law_window (kCons (kMark 2) (kCons (kVar 3) (kNil)))) (kNil))))) (kSq (kFor (kIt (kMk .lst (kCons (kMk .tup (kCons (kVar 4) (kCons (kVar 5) (kNil)))) (kCons (kMk .tup (kCons (kVar 5) (kCons (kVar 6) (kNil)))) (kCons (kMk .tup (kCons (kVar 4) (kCons (kVar 3) (kNil)))) (kCons (kMk .tup (kCons (kVar 4) (kCons (kCall [true] [some 2] d__law_rules (kCons (kMark 2) (kNil))) (kNil)))) (kNil))))))) (hTup 2 (hCons (hName 7) (hCons (hName 8) (hNil)))) l_law_1) (kSq (kIf (kAnd (kB (kCall [false, false] [none, none] d_allows (kCons (kVar 4) (kCons (kVar 5) (kNil))))) (kAnd (kB (kCall [false, false] [none, none] d_allows (kCons (kVar 5) (kCons (kVar 6) (kNil))))) (kNot (kB (kCall [false, false] [none, none] d_allows (kCons (kVar 4) (kCons (kVar 6) (kNil)))))))) (kRt (kD (.bool false))) (kNx)) (kSq (kIf (kOr (kNot (kB (kCall [false, false] [none, none] d_alike (kCons (kVar 4) (kCons (kVar 4) (kNil)))))) (kAnd (kB (k2 gEq (k2 gIx (kVar 3) (kD (.int 2))) (kD (.int 0)))) (kNot (kB (kCall [false, false] [none, none] d_alike (kCons (kVar 4) (kCons (kVar 5) (kNil)))))))) (kRt (kD (.bool false))) (kNx)) (kIf (kB (kCall [false, false] [none, none] d_alike (kCons (kVar 4) (kCons (kVar 5) (kNil))))) (kFor (kRng1 (kCons (kD (.int 3)) (kNil))) (hName 9) l_law_0) (kNx)))))))
def g_law : Env → RS := kSq (kFor (kRng1 (kCons (kn gMax2 (kCons (kD (.int 6)) (kCons (kn gMin2 (kCons (kD (.int 20)) (kCons (kn gLen (kCons (kVar 0) (kNil))) (kNil)))) (kNil)))) (kNil))) (hName 1) l_law_2) (kSq (kIf (kB (k2 (gIsB true) (kCall [false, false] [none, none] d_alike (kCons (kMk .tup (kCons (kD (.int 1)) (kCons (kD (.int 10)) (kCons (kD (.int 1)) (kCons (kD (.int 10)) (kCons (kD (.int 3)) (kCons (kD (.int 5)) (kNil)))))))) (kCons (kMk .tup (kCons (kD (.int 1)) (kCons (kD (.int 10)) (kCons (kD (.int 1)) (kCons (kD (.int 20)) (kCons (kD (.int 3)) (kCons (kD (.int 5)) (kNil)))))))) (kNil)))) (kD (.bool true)))) (kRt (kD (.bool false))) (kNx)) (kRt (k2 (gIsB false) (kCall [false, false] [none, none] d_alike (kCons (kMk .tup (kCons (kD (.int 1)) (kCons (kD (.int 10)) (kCons (kD (.int 1)) (kCons (kD (.int 9)) (kCons (kD (.int 3)) (kCons (kD (.int 5)) (kNil)))))))) (kCons (kMk .tup (kCons (kD (.int 1)) (kCons (kD (.int 10)) (kCons (kD (.int 1)) (kCons (kD (.int 10)) (kCons (kD (.int 3)) (kCons (kD (.int 5)) (kNil)))))))) (kNil)))) (kD (.bool false)))))
def d_law : List O → RF := fun os => finF [false] (g_law (startE [false] os 11))
end DP.K32
end

section
namespace DP.K32
open PySem PySem.Spec PyProof.Rows L2 DP.G
def topS (i : Nat) : Stmt := PySem.Challenge.pw_loandesks_k32_whole_rules_that_are_alike.main.body.getD i (.Pass ⟨0, 0, 0, 0⟩)
structure Adr where
  f_is_integer : Addr
  fd_is_integer : FuncData
  f_is_rules : Addr
  fd_is_rules : FuncData
  f_require_rules : Addr
  fd_require_rules : FuncData
  f_renewal_days : Addr
  fd_renewal_days : FuncData
  f_is_allowed_by : Addr
  fd_is_allowed_by : FuncData
  f_allows : Addr
  fd_allows : FuncData
  f_alike : Addr
  fd_alike : FuncData
  f__law_source : Addr
  fd__law_source : FuncData
  f__law_pick : Addr
  fd__law_pick : FuncData
  f__law_is_bool : Addr
  fd__law_is_bool : FuncData
  f__law_rules : Addr
  fd__law_rules : FuncData
  f__law_first : Addr
  fd__law_first : FuncData
  f__law_back : Addr
  fd__law_back : FuncData
  f__law_may_come : Addr
  fd__law_may_come : FuncData
  f__law_borrow : Addr
  fd__law_borrow : FuncData
  f__law_renew : Addr
  fd__law_renew : FuncData
  f__law_wait : Addr
  fd__law_wait : FuncData
  f__law_leave : Addr
  fd__law_leave : FuncData
  f__law_day : Addr
  fd__law_day : FuncData
  f__law_happens : Addr
  fd__law_happens : FuncData
  f__law_ran : Addr
  fd__law_ran : FuncData
  f__law_history : Addr
  fd__law_history : FuncData
  f__law_window : Addr
  fd__law_window : FuncData
  f_law : Addr
  fd_law : FuncData
  C_DeskError : Addr
  C_InvalidRules : Addr
def clsOf (A : Adr) : Str → Value := fun x => if x = "DeskError" then .ref A.C_DeskError else if x = "InvalidRules" then .ref A.C_InvalidRules else Value.none
structure Txt (K : Frag) (mg : Str → Option Value) (A : Adr) : Prop where
  F_is_integer : Fun K "is_integer" "is_integer" (topS 6) A.f_is_integer A.fd_is_integer
  g_is_integer : mg "is_integer" = some (.ref A.f_is_integer)
  b_is_integer : Binds K A.fd_is_integer ["value", "low", "high"] []
  F_is_rules : Fun K "is_rules" "is_rules" (topS 7) A.f_is_rules A.fd_is_rules
  g_is_rules : mg "is_rules" = some (.ref A.f_is_rules)
  b_is_rules : Binds K A.fd_is_rules ["value"] []
  F_require_rules : Fun K "require_rules" "require_rules" (topS 8) A.f_require_rules A.fd_require_rules
  g_require_rules : mg "require_rules" = some (.ref A.f_require_rules)
  b_require_rules : Binds K A.fd_require_rules ["value"] []
  F_renewal_days : Fun K "renewal_days" "renewal_days" (topS 10) A.f_renewal_days A.fd_renewal_days
  g_renewal_days : mg "renewal_days" = some (.ref A.f_renewal_days)
  b_renewal_days : Binds K A.fd_renewal_days ["rules"] []
  F_is_allowed_by : Fun K "is_allowed_by" "is_allowed_by" (topS 12) A.f_is_allowed_by A.fd_is_allowed_by
  g_is_allowed_by : mg "is_allowed_by" = some (.ref A.f_is_allowed_by)
  b_is_allowed_by : Binds K A.fd_is_allowed_by ["one", "other"] []
  F_allows : Fun K "allows" "allows" (topS 13) A.f_allows A.fd_allows
  g_allows : mg "allows" = some (.ref A.f_allows)
  b_allows : Binds K A.fd_allows ["one", "other"] []
  F_alike : Fun K "alike" "alike" (topS 14) A.f_alike A.fd_alike
  g_alike : mg "alike" = some (.ref A.f_alike)
  b_alike : Binds K A.fd_alike ["one", "other"] []
  F__law_source : Fun K "_law_source" "_law_source" (topS 16) A.f__law_source A.fd__law_source
  g__law_source : mg "_law_source" = some (.ref A.f__law_source)
  b__law_source : Binds K A.fd__law_source ["script", "k"] []
  F__law_pick : Fun K "_law_pick" "_law_pick" (topS 17) A.f__law_pick A.fd__law_pick
  g__law_pick : mg "_law_pick" = some (.ref A.f__law_pick)
  b__law_pick : Binds K A.fd__law_pick ["source", "size"] []
  F__law_is_bool : Fun K "_law_is_bool" "_law_is_bool" (topS 18) A.f__law_is_bool A.fd__law_is_bool
  g__law_is_bool : mg "_law_is_bool" = some (.ref A.f__law_is_bool)
  b__law_is_bool : Binds K A.fd__law_is_bool ["actual", "expected"] []
  F__law_rules : Fun K "_law_rules" "_law_rules" (topS 19) A.f__law_rules A.fd__law_rules
  g__law_rules : mg "_law_rules" = some (.ref A.f__law_rules)
  b__law_rules : Binds K A.fd__law_rules ["source"] []
  F__law_first : Fun K "_law_first" "_law_first" (topS 20) A.f__law_first A.fd__law_first
  g__law_first : mg "_law_first" = some (.ref A.f__law_first)
  b__law_first : Binds K A.fd__law_first ["rules_so"] []
  F__law_back : Fun K "_law_back" "_law_back" (topS 21) A.f__law_back A.fd__law_back
  g__law_back : mg "_law_back" = some (.ref A.f__law_back)
  b__law_back : Binds K A.fd__law_back ["rules_so", "state_so"] []
  F__law_may_come : Fun K "_law_may_come" "_law_may_come" (topS 22) A.f__law_may_come A.fd__law_may_come
  g__law_may_come : mg "_law_may_come" = some (.ref A.f__law_may_come)
  b__law_may_come : Binds K A.fd__law_may_come ["state_so", "who"] []
  F__law_borrow : Fun K "_law_borrow" "_law_borrow" (topS 23) A.f__law_borrow A.fd__law_borrow
  g__law_borrow : mg "_law_borrow" = some (.ref A.f__law_borrow)
  b__law_borrow : Binds K A.fd__law_borrow ["rules_so", "state_so", "who"] []
  F__law_renew : Fun K "_law_renew" "_law_renew" (topS 24) A.f__law_renew A.fd__law_renew
  g__law_renew : mg "_law_renew" = some (.ref A.f__law_renew)
  b__law_renew : Binds K A.fd__law_renew ["rules_so", "state_so", "who"] []
  F__law_wait : Fun K "_law_wait" "_law_wait" (topS 25) A.f__law_wait A.fd__law_wait
  g__law_wait : mg "_law_wait" = some (.ref A.f__law_wait)
  b__law_wait : Binds K A.fd__law_wait ["rules_so", "state_so", "who"] []
  F__law_leave : Fun K "_law_leave" "_law_leave" (topS 26) A.f__law_leave A.fd__law_leave
  g__law_leave : mg "_law_leave" = some (.ref A.f__law_leave)
  b__law_leave : Binds K A.fd__law_leave ["rules_so", "state_so", "who"] []
  F__law_day : Fun K "_law_day" "_law_day" (topS 27) A.f__law_day A.fd__law_day
  g__law_day : mg "_law_day" = some (.ref A.f__law_day)
  b__law_day : Binds K A.fd__law_day ["rules_so", "state_so"] []
  F__law_happens : Fun K "_law_happens" "_law_happens" (topS 28) A.f__law_happens A.fd__law_happens
  g__law_happens : mg "_law_happens" = some (.ref A.f__law_happens)
  b__law_happens : Binds K A.fd__law_happens ["rules_so", "state_so", "event_so"] []
  F__law_ran : Fun K "_law_ran" "_law_ran" (topS 29) A.f__law_ran A.fd__law_ran
  g__law_ran : mg "_law_ran" = some (.ref A.f__law_ran)
  b__law_ran : Binds K A.fd__law_ran ["rules_so", "history_so"] []
  F__law_history : Fun K "_law_history" "_law_history" (topS 30) A.f__law_history A.fd__law_history
  g__law_history : mg "_law_history" = some (.ref A.f__law_history)
  b__law_history : Binds K A.fd__law_history ["source", "rules_so", "most", "wild"] []
  F__law_window : Fun K "_law_window" "_law_window" (topS 31) A.f__law_window A.fd__law_window
  g__law_window : mg "_law_window" = some (.ref A.f__law_window)
  b__law_window : Binds K A.fd__law_window ["source", "rules_so"] []
  F_law : Fun K "law" "law" (topS 32) A.f_law A.fd_law
  g_law : mg "law" = some (.ref A.f_law)
  b_law : Binds K A.fd_law ["script"] []
  z_all : mg "all" = none
  z_bool : mg "bool" = none
  z_dict : mg "dict" = none
  z_enumerate : mg "enumerate" = none
  z_int : mg "int" = none
  z_isinstance : mg "isinstance" = none
  z_len : mg "len" = none
  z_list : mg "list" = none
  z_max : mg "max" = none
  z_min : mg "min" = none
  z_range : mg "range" = none
  z_sorted : mg "sorted" = none
  z_tuple : mg "tuple" = none
  z_zip : mg "zip" = none
  gc_HIGHS : ∃ u v, mg "HIGHS" = some u ∧ RelV v u ∧ ∀ F, DR K F v c_HIGHS
  gc_LOWS : ∃ u v, mg "LOWS" = some u ∧ RelV v u ∧ ∀ F, DR K F v c_LOWS
  g_InvalidRules : mg "InvalidRules" = some (.ref A.C_InvalidRules)
  x_InvalidRules : PySem.W.excIn K A.C_InvalidRules [.type "ValueError", .type "Exception", .type "BaseException", .type "object"] "ValueError.__new__" = true
  k_InvalidRules : PySem.W.keepIn K (.ref A.C_InvalidRules) = true
  e_InvalidRules : PySem.W.subIn K (.ref A.C_InvalidRules) (.type "BaseException") = some true
  t_InvalidRules : PySem.W.typeIn K (.ref A.C_InvalidRules) = some (.type "type")
section
variable {P : Program} {w : World} {K : Frag} {mg : Str → Option Value} {base : Heap} {A : Adr}
theorem sc_is_integer : FnScope ["value", "low", "high"] ["value", "low", "high"] (defScope (topS 6)) := ⟨rfl, rfl, rfl, by decide +kernel, rfl, by decide +kernel, by decide +kernel⟩
theorem ok_is_integer (T : Txt K mg A) : FnOk P w K mg base (L2.CX P w) 1 A.f_is_integer A.fd_is_integer ["value", "low", "high"] (spD K (clsOf A) [false, false, false] d_is_integer) := by
  refine fn_ok (k := 0) (g := g_is_integer) T.F_is_integer sc_is_integer (by decide) rfl (fun os _ => rfl) fun cdv A' outer s H vs E hr F fp => ?_
  have tk : Takes (cxOf (L2.CX P w) P w K mg base ["value", "low", "high"] "is_integer" (defScope (topS 6)) A.f_is_integer cdv A' outer s H E) (fcOf K (clsOf A) [false, false, false] ["value", "low", "high"] vs H E F fp).W := takes_of rfl rfl rfl rfl
  have hp := passes_of (X := cxOf (L2.CX P w) P w K mg base ["value", "low", "high"] "is_integer" (defScope (topS 6)) A.f_is_integer cdv A' outer s H E) rfl
  exact ds_one (ds_ret (de_and (de_isi rfl (by decide) (by rfl) T.z_isinstance (by rfl) T.z_int PyProof.Rows.boot_int (de_var (pv 0))) (de_and (de_not (de_isi rfl (by decide) (by rfl) T.z_isinstance (by rfl) T.z_bool PyProof.Rows.boot_bool (de_var (pv 0)))) (de_one (de_chain op_le op_le o_cmp o_cmp (de_var (pv 1)) (de_var (pv 0)) (de_var (pv 2)))))))
theorem sc_is_rules : FnScope ["value", "item", "low", "high"] ["value"] (defScope (topS 7)) := ⟨rfl, rfl, rfl, by decide +kernel, rfl, by decide +kernel, by decide +kernel⟩
theorem ok_is_rules (T : Txt K mg A) : FnOk P w K mg base (L2.CX P w) 2 A.f_is_rules A.fd_is_rules ["value"] (spD K (clsOf A) [false] d_is_rules) := by
  have G_is_integer : FnOk P w K mg base (L2.CX P w) 1 A.f_is_integer A.fd_is_integer ["value", "low", "high"] (spD K (clsOf A) [false, false, false] d_is_integer) := ok_is_integer T
  refine fn_ok (k := 1) (g := g_is_rules) T.F_is_rules sc_is_rules (by decide) rfl (fun os _ => rfl) fun cdv A' outer s H vs E hr F fp => ?_
  have tk : Takes (cxOf (L2.CX P w) P w K mg base ["value", "item", "low", "high"] "is_rules" (defScope (topS 7)) A.f_is_rules cdv A' outer s H E) (fcOf K (clsOf A) [false] ["value", "item", "low", "high"] vs H E F fp).W := takes_of rfl rfl rfl rfl
  have hp := passes_of (X := cxOf (L2.CX P w) P w K mg base ["value", "item", "low", "high"] "is_rules" (defScope (topS 7)) A.f_is_rules cdv A' outer s H E) rfl
  exact ds_cons (ds_if (dt_bool (dw_or (dt_not (dt_val (de_isi rfl (by decide) (by rfl) T.z_isinstance (by rfl) T.z_tuple PyProof.Rows.boot_tuple (de_var (pv 0))))) (dw_or1 (dt_cmp (op_neD hr.units) o_ne (de_cb call_lenA o_len (by rfl) T.z_len (by decide +kernel) (da_cons (de_var (pv 0)) (da_nil))) (de_int) (nomark _))))) (ds_one (ds_ret (de_bl))) (ds_nil)) (ds_one (ds_ret (de_cb (cr_all rfl) o_all (by rfl) T.z_all (by decide +kernel) (da_cons (de_lc (own := [("item", 1), ("low", 2), ("high", 3)]) rfl sc_is_rules.nd (di_zip3 rfl (by rfl) T.z_zip (da_cons (de_var (pv 0)) (da_cons (de_glob (by rfl) T.gc_LOWS.choose_spec.choose_spec.1 T.gc_LOWS.choose_spec.choose_spec.2.1 T.gc_LOWS.choose_spec.choose_spec.2.2) (da_cons (de_glob (by rfl) T.gc_HIGHS.choose_spec.choose_spec.1 T.gc_HIGHS.choose_spec.choose_spec.2.1 T.gc_HIGHS.choose_spec.choose_spec.2.2) (da_nil))))) (blkOk_by (N := ["value", "item", "low", "high"]) (sc := defScope (topS 7)) (own := [("item", 1), ("low", 2), ("high", 3)]) (by decide +kernel)) (by decide) (fun _ _ _ _ _ => dg_tup rfl rfl (dgs_cons (dg_name (pg_name (i := 1) sc_is_rules.nd rfl (.inl rfl))) (dgs_cons (dg_name (pg_name (i := 2) sc_is_rules.nd rfl (.inl rfl))) (dgs_cons (dg_name (pg_name (i := 3) sc_is_rules.nd rfl (.inl rfl))) (dgs_nil))))) (fun _ _ _ _ _ => dts_nil) (fun _ _ _ _ _ => de_call G_is_integer (hr.mono (by decide)) (by rfl) T.g_is_integer T.F_is_integer.kp T.b_is_integer (fun σ => pass_still σ) (da_cons (de_var (pv 1)) (da_cons (de_var (pv 2)) (da_cons (de_var (pv 3)) (da_nil)))))) (da_nil)))))
theorem sc_require_rules : FnScope ["value"] ["value"] (defScope (topS 8)) := ⟨rfl, rfl, rfl, by decide +kernel, rfl, by decide +kernel, by decide +kernel⟩
theorem ok_require_rules (T : Txt K mg A) : FnOk P w K mg base (L2.CX P w) 3 A.f_require_rules A.fd_require_rules ["value"] (spD K (clsOf A) [false] d_require_rules) := by
  have G_is_rules : FnOk P w K mg base (L2.CX P w) 2 A.f_is_rules A.fd_is_rules ["value"] (spD K (clsOf A) [false] d_is_rules) := ok_is_rules T
  refine fn_ok (k := 2) (g := g_require_rules) T.F_require_rules sc_require_rules (by decide) rfl (fun os _ => rfl) fun cdv A' outer s H vs E hr F fp => ?_
  have tk : Takes (cxOf (L2.CX P w) P w K mg base ["value"] "require_rules" (defScope (topS 8)) A.f_require_rules cdv A' outer s H E) (fcOf K (clsOf A) [false] ["value"] vs H E F fp).W := takes_of rfl rfl rfl rfl
  have hp := passes_of (X := cxOf (L2.CX P w) P w K mg base ["value"] "require_rules" (defScope (topS 8)) A.f_require_rules cdv A' outer s H E) rfl
  exact ds_one (ds_if (dt_not (dt_val (de_call G_is_rules (hr.mono (by decide)) (by rfl) T.g_is_rules T.F_is_rules.kp T.b_is_rules (fun σ => passAt tk σ) (da_cons (de_var (pv 0)) (da_nil))))) (ds_one (ds_raise rfl tk PySem.F.excBase_ValueError T.x_InvalidRules T.g_InvalidRules T.k_InvalidRules (raises_own T.e_InvalidRules T.t_InvalidRules) (by rfl) (by rfl))) (ds_nil))
theorem sc_renewal_days : FnScope ["rules", "count"] ["rules"] (defScope (topS 10)) := ⟨rfl, rfl, rfl, by decide +kernel, rfl, by decide +kernel, by decide +kernel⟩
theorem ok_renewal_days (T : Txt K mg A) : FnOk P w K mg base (L2.CX P w) 1 A.f_renewal_days A.fd_renewal_days ["rules"] (spD K (clsOf A) [false] d_renewal_days) := by
  refine fn_ok (k := 0) (g := g_renewal_days) T.F_renewal_days sc_renewal_days (by decide) rfl (fun os _ => rfl) fun cdv A' outer s H vs E hr F fp => ?_
  have tk : Takes (cxOf (L2.CX P w) P w K mg base ["rules", "count"] "renewal_days" (defScope (topS 10)) A.f_renewal_days cdv A' outer s H E) (fcOf K (clsOf A) [false] ["rules", "count"] vs H E F fp).W := takes_of rfl rfl rfl rfl
  have hp := passes_of (X := cxOf (L2.CX P w) P w K mg base ["rules", "count"] "renewal_days" (defScope (topS 10)) A.f_renewal_days cdv A' outer s H E) rfl
  exact ds_one (ds_ret (de_lc (own := [("count", 1)]) rfl sc_renewal_days.nd (di_range2 (by rfl) T.z_range (da_cons (de_int) (da_cons (de_op op_addA o_add (de_ix ix_seq o_ix (de_var (pv 0)) (de_int) (fun _ _ => rfl)) (de_int)) (da_nil)))) (blkOk_by (N := ["rules", "count"]) (sc := defScope (topS 10)) (own := [("count", 1)]) (by decide +kernel)) (by decide) (fun _ _ _ _ _ => dg_name (pg_name (i := 1) sc_renewal_days.nd rfl (.inl rfl))) (fun _ _ _ _ _ => dts_nil) (fun _ _ _ _ _ => de_cb (call_max2 rfl) o_max2 (by rfl) T.z_max (by decide +kernel) (da_cons (de_int) (da_cons (de_op op_sub o_sub (de_op op_mul o_mul (de_ix ix_seq o_ix (de_var (pv 0)) (de_int) (fun _ _ => rfl)) (de_var (pv 1))) (de_ix ix_seq o_ix (de_var (pv 0)) (de_int) (fun _ _ => rfl))) (da_nil))))))
theorem sc_is_allowed_by : FnScope ["one", "other", "earliest", "index", "day"] ["one", "other"] (defScope (topS 12)) := ⟨rfl, rfl, rfl, by decide +kernel, rfl, by decide +kernel, by decide +kernel⟩
theorem ok_is_allowed_by (T : Txt K mg A) : FnOk P w K mg base (L2.CX P w) 2 A.f_is_allowed_by A.fd_is_allowed_by ["one", "other"] (spD K (clsOf A) [false, false] d_is_allowed_by) := by
  have G_renewal_days : FnOk P w K mg base (L2.CX P w) 1 A.f_renewal_days A.fd_renewal_days ["rules"] (spD K (clsOf A) [false] d_renewal_days) := ok_renewal_days T
  refine fn_ok (k := 1) (g := g_is_allowed_by) T.F_is_allowed_by sc_is_allowed_by (by decide) rfl (fun os _ => rfl) fun cdv A' outer s H vs E hr F fp => ?_
  have tk : Takes (cxOf (L2.CX P w) P w K mg base ["one", "other", "earliest", "index", "day"] "is_allowed_by" (defScope (topS 12)) A.f_is_allowed_by cdv A' outer s H E) (fcOf K (clsOf A) [false, false] ["one", "other", "earliest", "index", "day"] vs H E F fp).W := takes_of rfl rfl rfl rfl
  have hp := passes_of (X := cxOf (L2.CX P w) P w K mg base ["one", "other", "earliest", "index", "day"] "is_allowed_by" (defScope (topS 12)) A.f_is_allowed_by cdv A' outer s H E) rfl
  exact ds_cons (ds_if (dt_bool (dw_or (dt_cmp (op_neD hr.units) o_ne (de_ix ix_seq o_ix (de_var (pv 0)) (de_int) (fun _ _ => rfl)) (de_ix ix_seq o_ix (de_var (pv 1)) (de_int) (fun _ _ => rfl)) (nomark _)) (dw_or (dt_cmp (op_neD hr.units) o_ne (de_ix ix_seq o_ix (de_var (pv 0)) (de_int) (fun _ _ => rfl)) (de_ix ix_seq o_ix (de_var (pv 1)) (de_int) (fun _ _ => rfl)) (nomark _)) (dw_or (dt_cmp op_gt o_cmp (de_ix ix_seq o_ix (de_var (pv 0)) (de_int) (fun _ _ => rfl)) (de_ix ix_seq o_ix (de_var (pv 1)) (de_int) (fun _ _ => rfl)) (nomark _)) (dw_or (dt_cmp op_gt o_cmp (de_ix ix_seq o_ix (de_var (pv 0)) (de_int) (fun _ _ => rfl)) (de_ix ix_seq o_ix (de_var (pv 1)) (de_int) (fun _ _ => rfl)) (nomark _)) (dw_or1 (dt_cmp op_lt o_cmp (de_ix ix_seq o_ix (de_var (pv 0)) (de_int) (fun _ _ => rfl)) (de_ix ix_seq o_ix (de_var (pv 1)) (de_int) (fun _ _ => rfl)) (nomark _)))))))) (ds_one (ds_ret (de_bl))) (ds_nil)) (ds_cons (ds_set (i := 2) sc_is_allowed_by.nd rfl (.inl rfl) (de_call G_renewal_days (hr.mono (by decide)) (by rfl) T.g_renewal_days T.F_renewal_days.kp T.b_renewal_days (fun σ => passAt tk σ) (da_cons (de_var (pv 0)) (da_nil)))) (ds_one (ds_ret (de_cb (cr_all rfl) o_all (by rfl) T.z_all (by decide +kernel) (da_cons (de_lc (own := [("index", 3), ("day", 4)]) rfl sc_is_allowed_by.nd (di_enumA rfl (by rfl) T.z_enumerate (da_cons (de_frz (pv 2)) (da_nil))) (blkOk_by (N := ["one", "other", "earliest", "index", "day"]) (sc := defScope (topS 12)) (own := [("index", 3), ("day", 4)]) (by decide +kernel)) (by decide) (fun _ _ _ _ _ => dg_tup rfl rfl (dgs_cons (dg_name (pg_name (i := 3) sc_is_allowed_by.nd rfl (.inl rfl))) (dgs_cons (dg_name (pg_name (i := 4) sc_is_allowed_by.nd rfl (.inl rfl))) (dgs_nil)))) (fun _ _ _ _ _ => dts_nil) (fun _ _ _ _ _ => de_cmp op_le o_cmp (de_op op_sub o_sub (de_op op_mul o_mul (de_ix ix_seq o_ix (de_var (pv 1)) (de_int) (fun _ _ => rfl)) (de_op op_addA o_add (de_var (pv 3)) (de_int))) (de_ix ix_seq o_ix (de_var (pv 1)) (de_int) (fun _ _ => rfl))) (de_var (pv 4)) (nomark _))) (da_nil))))))
theorem sc_allows : FnScope ["one", "other"] ["one", "other"] (defScope (topS 13)) := ⟨rfl, rfl, rfl, by decide +kernel, rfl, by decide +kernel, by decide +kernel⟩
theorem ok_allows (T : Txt K mg A) : FnOk P w K mg base (L2.CX P w) 4 A.f_allows A.fd_allows ["one", "other"] (spD K (clsOf A) [false, false] d_allows) := by
  have G_is_allowed_by : FnOk P w K mg base (L2.CX P w) 2 A.f_is_allowed_by A.fd_is_allowed_by ["one", "other"] (spD K (clsOf A) [false, false] d_is_allowed_by) := ok_is_allowed_by T
  have G_require_rules : FnOk P w K mg base (L2.CX P w) 3 A.f_require_rules A.fd_require_rules ["value"] (spD K (clsOf A) [false] d_require_rules) := ok_require_rules T
  refine fn_ok (k := 3) (g := g_allows) T.F_allows sc_allows (by decide) rfl (fun os _ => rfl) fun cdv A' outer s H vs E hr F fp => ?_
  have tk : Takes (cxOf (L2.CX P w) P w K mg base ["one", "other"] "allows" (defScope (topS 13)) A.f_allows cdv A' outer s H E) (fcOf K (clsOf A) [false, false] ["one", "other"] vs H E F fp).W := takes_of rfl rfl rfl rfl
  have hp := passes_of (X := cxOf (L2.CX P w) P w K mg base ["one", "other"] "allows" (defScope (topS 13)) A.f_allows cdv A' outer s H E) rfl
  exact ds_cons (ds_expr (de_call G_require_rules (hr.mono (by decide)) (by rfl) T.g_require_rules T.F_require_rules.kp T.b_require_rules (fun σ => passAt tk σ) (da_cons (de_var (pv 0)) (da_nil)))) (ds_cons (ds_expr (de_call G_require_rules (hr.mono (by decide)) (by rfl) T.g_require_rules T.F_require_rules.kp T.b_require_rules (fun σ => passAt tk σ) (da_cons (de_var (pv 1)) (da_nil)))) (ds_one (ds_ret (de_call G_is_allowed_by (hr.mono (by decide)) (by rfl) T.g_is_allowed_by T.F_is_allowed_by.kp T.b_is_allowed_by (fun σ => passAt tk σ) (da_cons (de_var (pv 0)) (da_cons (de_var (pv 1)) (da_nil)))))))
theorem sc_alike : FnScope ["one", "other"] ["one", "other"] (defScope (topS 14)) := ⟨rfl, rfl, rfl, by decide +kernel, rfl, by decide +kernel, by decide +kernel⟩
theorem ok_alike (T : Txt K mg A) : FnOk P w K mg base (L2.CX P w) 4 A.f_alike A.fd_alike ["one", "other"] (spD K (clsOf A) [false, false] d_alike) := by
  have G_is_allowed_by : FnOk P w K mg base (L2.CX P w) 2 A.f_is_allowed_by A.fd_is_allowed_by ["one", "other"] (spD K (clsOf A) [false, false] d_is_allowed_by) := ok_is_allowed_by T
  have G_require_rules : FnOk P w K mg base (L2.CX P w) 3 A.f_require_rules A.fd_require_rules ["value"] (spD K (clsOf A) [false] d_require_rules) := ok_require_rules T
  refine fn_ok (k := 3) (g := g_alike) T.F_alike sc_alike (by decide) rfl (fun os _ => rfl) fun cdv A' outer s H vs E hr F fp => ?_
  have tk : Takes (cxOf (L2.CX P w) P w K mg base ["one", "other"] "alike" (defScope (topS 14)) A.f_alike cdv A' outer s H E) (fcOf K (clsOf A) [false, false] ["one", "other"] vs H E F fp).W := takes_of rfl rfl rfl rfl
  have hp := passes_of (X := cxOf (L2.CX P w) P w K mg base ["one", "other"] "alike" (defScope (topS 14)) A.f_alike cdv A' outer s H E) rfl
  exact ds_cons (ds_expr (de_call G_require_rules (hr.mono (by decide)) (by rfl) T.g_require_rules T.F_require_rules.kp T.b_require_rules (fun σ => passAt tk σ) (da_cons (de_var (pv 0)) (da_nil)))) (ds_cons (ds_expr (de_call G_require_rules (hr.mono (by decide)) (by rfl) T.g_require_rules T.F_require_rules.kp T.b_require_rules (fun σ => passAt tk σ) (da_cons (de_var (pv 1)) (da_nil)))) (ds_one (ds_ret (de_and (de_call G_is_allowed_by (hr.mono (by decide)) (by rfl) T.g_is_allowed_by T.F_is_allowed_by.kp T.b_is_allowed_by (fun σ => passAt tk σ) (da_cons (de_var (pv 0)) (da_cons (de_var (pv 1)) (da_nil)))) (de_one (de_call G_is_allowed_by (hr.mono (by decide)) (by rfl) T.g_is_allowed_by T.F_is_allowed_by.kp T.b_is_allowed_by (fun σ => passAt tk σ) (da_cons (de_var (pv 1)) (da_cons (de_var (pv 0)) (da_nil)))))))))
theorem sc__law_source : FnScope ["script", "k", "cell", "primes", "seed"] ["script", "k"] (defScope (topS 16)) := ⟨rfl, rfl, rfl, by decide +kernel, rfl, by decide +kernel, by decide +kernel⟩
theorem ok__law_source (T : Txt K mg A) : FnOk P w K mg base (L2.CX P w) 1 A.f__law_source A.fd__law_source ["script", "k"] (spD K (clsOf A) [false, false] d__law_source) := by
  refine fn_ok (k := 0) (g := g__law_source) T.F__law_source sc__law_source (by decide) rfl (fun os _ => rfl) fun cdv A' outer s H vs E hr F fp => ?_
  have tk : Takes (cxOf (L2.CX P w) P w K mg base ["script", "k", "cell", "primes", "seed"] "_law_source" (defScope (topS 16)) A.f__law_source cdv A' outer s H E) (fcOf K (clsOf A) [false, false] ["script", "k", "cell", "primes", "seed"] vs H E F fp).W := takes_of rfl rfl rfl rfl
  have hp := passes_of (X := cxOf (L2.CX P w) P w K mg base ["script", "k", "cell", "primes", "seed"] "_law_source" (defScope (topS 16)) A.f__law_source cdv A' outer s H E) rfl
  exact ds_cons (ds_set (i := 2) sc__law_source.nd rfl (.inl rfl) (de_int)) (ds_cons (ds_if (dt_cmp op_lt o_cmp (de_var (pv 1)) (de_cb call_lenA o_len (by rfl) T.z_len (by decide +kernel) (da_cons (de_var (pv 0)) (da_nil))) (nomark _)) (ds_one (ds_set (i := 2) sc__law_source.nd rfl (.inl rfl) (de_ix ix_seq o_ix (de_var (pv 0)) (de_var (pv 1)) (fun _ _ => rfl)))) (ds_nil)) (ds_cons (ds_set (i := 3) sc__law_source.nd rfl (.inl rfl) (de_lst (da_cons (de_int) (da_cons (de_int) (da_cons (de_int) (da_cons (de_int) (da_cons (de_int) (da_cons (de_int) (da_cons (de_int) (da_cons (de_int) (da_nil))))))))))) (ds_cons (ds_set (i := 4) sc__law_source.nd rfl (.inl rfl) (de_op op_mod o_mod (de_op op_mul o_mul (de_op op_addA o_add (de_op op_mod o_mod (de_var (pv 2)) (de_int)) (de_int)) (de_op op_addA o_add (de_int) (de_op op_mul o_mul (de_int) (de_var (pv 1))))) (de_int))) (ds_cons (ds_set (i := 4) sc__law_source.nd rfl (.inl rfl) (de_op op_addA o_add (de_op op_addA o_add (de_op op_mod o_mod (de_op op_mul o_mul (de_var (pv 4)) (de_var (pv 4))) (de_int)) (de_var (pv 1))) (de_int))) (ds_cons (ds_if (dt_cmp op_ge o_cmp (de_var (pv 2)) (de_op op_pow o_pow (de_int) (de_int)) (nomark _)) (ds_one (ds_ret (de_lst (da_cons (de_var (pv 2)) (da_cons (de_var (pv 4)) (da_cons (de_ix ix_seq o_ix (de_frz (pv 3)) (de_op op_mod o_mod (de_var (pv 1)) (de_int)) (fun _ _ => rfl)) (da_nil))))))) (ds_nil)) (ds_one (ds_ret (de_lst (da_cons (de_int) (da_cons (de_var (pv 4)) (da_cons (de_ix ix_seq o_ix (de_frz (pv 3)) (de_op op_mod o_mod (de_var (pv 1)) (de_int)) (fun _ _ => rfl)) (da_nil))))))))))))
theorem sc__law_pick : FnScope ["source", "size", "drawn"] ["source", "size"] (defScope (topS 17)) := ⟨rfl, rfl, rfl, by decide +kernel, rfl, by decide +kernel, by decide +kernel⟩
theorem ok__law_pick (T : Txt K mg A) : FnOk P w K mg base (L2.CX P w) 1 A.f__law_pick A.fd__law_pick ["source", "size"] (spD K (clsOf A) [true, false] d__law_pick) := by
  refine fn_ok (k := 0) (g := g__law_pick) T.F__law_pick sc__law_pick (by decide) rfl (fun os _ => rfl) fun cdv A' outer s H vs E hr F fp => ?_
  have tk : Takes (cxOf (L2.CX P w) P w K mg base ["source", "size", "drawn"] "_law_pick" (defScope (topS 17)) A.f__law_pick cdv A' outer s H E) (fcOf K (clsOf A) [true, false] ["source", "size", "drawn"] vs H E F fp).W := takes_of rfl rfl rfl rfl
  have hp := passes_of (X := cxOf (L2.CX P w) P w K mg base ["source", "size", "drawn"] "_law_pick" (defScope (topS 17)) A.f__law_pick cdv A' outer s H E) rfl
  exact ds_cons (ds_if (dt_cmp op_gt o_cmp (de_leaf (dp_ix (k := 0) (dp_name (pv 0)) (fun _ _ => rfl))) (de_int) (nomark _)) (ds_cons (ds_set (i := 2) sc__law_pick.nd rfl (.inl rfl) (de_op op_mod o_mod (de_leaf (dp_ix (k := 0) (dp_name (pv 0)) (fun _ _ => rfl))) (de_var (pv 1)))) (ds_cons (ds_setP (k := 0) (de_op op_fdivW o_div (de_leaf (dp_ix (k := 0) (dp_name (pv 0)) (fun _ _ => rfl))) (de_var (pv 1))) (dp_name (pv 0))) (ds_one (ds_ret (de_var (pv 2)))))) (ds_nil)) (ds_cons (ds_setP (k := 1) (de_op op_addA o_add (de_op op_mod o_mod (de_op op_mul o_mul (de_leaf (dp_ix (k := 1) (dp_name (pv 0)) (fun _ _ => rfl))) (de_int)) (de_leaf (dp_ix (k := 2) (dp_name (pv 0)) (fun _ _ => rfl)))) (de_int)) (dp_name (pv 0))) (ds_one (ds_ret (de_op op_mod o_mod (de_op op_fdivW o_div (de_op op_mod o_mod (de_op op_mul o_mul (de_leaf (dp_ix (k := 1) (dp_name (pv 0)) (fun _ _ => rfl))) (de_leaf (dp_ix (k := 1) (dp_name (pv 0)) (fun _ _ => rfl)))) (de_int)) (de_int)) (de_var (pv 1))))))
theorem sc__law_is_bool : FnScope ["actual", "expected"] ["actual", "expected"] (defScope (topS 18)) := ⟨rfl, rfl, rfl, by decide +kernel, rfl, by decide +kernel, by decide +kernel⟩
theorem ok__law_is_bool (T : Txt K mg A) : FnOk P w K mg base (L2.CX P w) 1 A.f__law_is_bool A.fd__law_is_bool ["actual", "expected"] (spD K (clsOf A) [false, false] d__law_is_bool) := by
  refine fn_ok (k := 0) (g := g__law_is_bool) T.F__law_is_bool sc__law_is_bool (by decide) rfl (fun os _ => rfl) fun cdv A' outer s H vs E hr F fp => ?_
  have tk : Takes (cxOf (L2.CX P w) P w K mg base ["actual", "expected"] "_law_is_bool" (defScope (topS 18)) A.f__law_is_bool cdv A' outer s H E) (fcOf K (clsOf A) [false, false] ["actual", "expected"] vs H E F fp).W := takes_of rfl rfl rfl rfl
  have hp := passes_of (X := cxOf (L2.CX P w) P w K mg base ["actual", "expected"] "_law_is_bool" (defScope (topS 18)) A.f__law_is_bool cdv A' outer s H E) rfl
  exact ds_one (ds_ret (de_and (de_isi rfl (by decide) (by rfl) T.z_isinstance (by rfl) T.z_bool PyProof.Rows.boot_bool (de_var (pv 0))) (de_one (de_cmp (op_eqD hr.units) o_eq (de_var (pv 0)) (de_var (pv 1)) (nomark _)))))
theorem sc__law_rules : FnScope ["source", "copies_so", "loan_so", "window_so", "ready_so", "rest_so"] ["source"] (defScope (topS 19)) := ⟨rfl, rfl, rfl, by decide +kernel, rfl, by decide +kernel, by decide +kernel⟩
theorem ok__law_rules (T : Txt K mg A) : FnOk P w K mg base (L2.CX P w) 2 A.f__law_rules A.fd__law_rules ["source"] (spD K (clsOf A) [true] d__law_rules) := by
  have G__law_pick : FnOk P w K mg base (L2.CX P w) 1 A.f__law_pick A.fd__law_pick ["source", "size"] (spD K (clsOf A) [true, false] d__law_pick) := ok__law_pick T
  refine fn_ok (k := 1) (g := g__law_rules) T.F__law_rules sc__law_rules (by decide) rfl (fun os _ => rfl) fun cdv A' outer s H vs E hr F fp => ?_
  have tk : Takes (cxOf (L2.CX P w) P w K mg base ["source", "copies_so", "loan_so", "window_so", "ready_so", "rest_so"] "_law_rules" (defScope (topS 19)) A.f__law_rules cdv A' outer s H E) (fcOf K (clsOf A) [true] ["source", "copies_so", "loan_so", "window_so", "ready_so", "rest_so"] vs H E F fp).W := takes_of rfl rfl rfl rfl
  have hp := passes_of (X := cxOf (L2.CX P w) P w K mg base ["source", "copies_so", "loan_so", "window_so", "ready_so", "rest_so"] "_law_rules" (defScope (topS 19)) A.f__law_rules cdv A' outer s H E) rfl
  exact ds_cons (ds_set (i := 1) sc__law_rules.nd rfl (.inl rfl) (de_op op_addA o_add (de_int) (de_call G__law_pick (hr.mono (by decide)) (by rfl) T.g__law_pick T.F__law_pick.kp T.b__law_pick (fun σ => passAt tk σ) (da_lend (pv 0) (da_cons (de_int) (da_nil)))))) (ds_cons (ds_set (i := 2) sc__law_rules.nd rfl (.inl rfl) (de_op op_addA o_add (de_int) (de_call G__law_pick (hr.mono (by decide)) (by rfl) T.g__law_pick T.F__law_pick.kp T.b__law_pick (fun σ => passAt tk σ) (da_lend (pv 0) (da_cons (de_ix ix_seq o_ix (de_lst (da_cons (de_int) (da_cons (de_int) (da_nil)))) (de_call G__law_pick (hr.mono (by decide)) (by rfl) T.g__law_pick T.F__law_pick.kp T.b__law_pick (fun σ => passAt tk σ) (da_lend (pv 0) (da_cons (de_int) (da_nil)))) (fun _ _ => rfl)) (da_nil)))))) (ds_cons (ds_set (i := 3) sc__law_rules.nd rfl (.inl rfl) (de_call G__law_pick (hr.mono (by decide)) (by rfl) T.g__law_pick T.F__law_pick.kp T.b__law_pick (fun σ => passAt tk σ) (da_lend (pv 0) (da_cons (de_ix ix_seq o_ix (de_lst (da_cons (de_int) (da_cons (de_int) (da_nil)))) (de_call G__law_pick (hr.mono (by decide)) (by rfl) T.g__law_pick T.F__law_pick.kp T.b__law_pick (fun σ => passAt tk σ) (da_lend (pv 0) (da_cons (de_int) (da_nil)))) (fun _ _ => rfl)) (da_nil))))) (ds_cons (ds_set (i := 4) sc__law_rules.nd rfl (.inl rfl) (de_call G__law_pick (hr.mono (by decide)) (by rfl) T.g__law_pick T.F__law_pick.kp T.b__law_pick (fun σ => passAt tk σ) (da_lend (pv 0) (da_cons (de_ix ix_seq o_ix (de_lst (da_cons (de_int) (da_cons (de_int) (da_nil)))) (de_call G__law_pick (hr.mono (by decide)) (by rfl) T.g__law_pick T.F__law_pick.kp T.b__law_pick (fun σ => passAt tk σ) (da_lend (pv 0) (da_cons (de_int) (da_nil)))) (fun _ _ => rfl)) (da_nil))))) (ds_cons (ds_set (i := 5) sc__law_rules.nd rfl (.inl rfl) (de_call G__law_pick (hr.mono (by decide)) (by rfl) T.g__law_pick T.F__law_pick.kp T.b__law_pick (fun σ => passAt tk σ) (da_lend (pv 0) (da_cons (de_ix ix_seq o_ix (de_lst (da_cons (de_int) (da_cons (de_int) (da_nil)))) (de_call G__law_pick (hr.mono (by decide)) (by rfl) T.g__law_pick T.F__law_pick.kp T.b__law_pick (fun σ => passAt tk σ) (da_lend (pv 0) (da_cons (de_int) (da_nil)))) (fun _ _ => rfl)) (da_nil))))) (ds_one (ds_ret (de_tup (da_cons (de_var (pv 1)) (da_cons (de_var (pv 2)) (da_cons (de_call G__law_pick (hr.mono (by decide)) (by rfl) T.g__law_pick T.F__law_pick.kp T.b__law_pick (fun σ => passAt tk σ) (da_lend (pv 0) (da_cons (de_int) (da_nil)))) (da_cons (de_var (pv 3)) (da_cons (de_var (pv 4)) (da_cons (de_var (pv 5)) (da_nil))))))))))))))
theorem sc__law_first : FnScope ["rules_so"] ["rules_so"] (defScope (topS 20)) := ⟨rfl, rfl, rfl, by decide +kernel, rfl, by decide +kernel, by decide +kernel⟩
theorem ok__law_first (T : Txt K mg A) : FnOk P w K mg base (L2.CX P w) 1 A.f__law_first A.fd__law_first ["rules_so"] (spD K (clsOf A) [false] d__law_first) := by
  refine fn_ok (k := 0) (g := g__law_first) T.F__law_first sc__law_first (by decide) rfl (fun os _ => rfl) fun cdv A' outer s H vs E hr F fp => ?_
  have tk : Takes (cxOf (L2.CX P w) P w K mg base ["rules_so"] "_law_first" (defScope (topS 20)) A.f__law_first cdv A' outer s H E) (fcOf K (clsOf A) [false] ["rules_so"] vs H E F fp).W := takes_of rfl rfl rfl rfl
  have hp := passes_of (X := cxOf (L2.CX P w) P w K mg base ["rules_so"] "_law_first" (defScope (topS 20)) A.f__law_first cdv A' outer s H E) rfl
  exact ds_one (ds_ret (de_lst (da_cons (de_int) (da_cons (de_ix ix_seq o_ix (de_var (pv 0)) (de_int) (fun _ _ => rfl)) (da_cons (de_dnew) (da_cons (de_dnew) (da_cons (de_lst (da_nil)) (da_cons (de_dnew) (da_nil)))))))))
theorem sc__law_back : FnScope ["rules_so", "state_so"] ["rules_so", "state_so"] (defScope (topS 21)) := ⟨rfl, rfl, rfl, by decide +kernel, rfl, by decide +kernel, by decide +kernel⟩
theorem ok__law_back (T : Txt K mg A) : FnOk P w K mg base (L2.CX P w) 1 A.f__law_back A.fd__law_back ["rules_so", "state_so"] (spD K (clsOf A) [false, true] d__law_back) := by
  refine fn_ok (k := 0) (g := g__law_back) T.F__law_back sc__law_back (by decide) rfl (fun os _ => rfl) fun cdv A' outer s H vs E hr F fp => ?_
  have tk : Takes (cxOf (L2.CX P w) P w K mg base ["rules_so", "state_so"] "_law_back" (defScope (topS 21)) A.f__law_back cdv A' outer s H E) (fcOf K (clsOf A) [false, true] ["rules_so", "state_so"] vs H E F fp).W := takes_of rfl rfl rfl rfl
  have hp := passes_of (X := cxOf (L2.CX P w) P w K mg base ["rules_so", "state_so"] "_law_back" (defScope (topS 21)) A.f__law_back cdv A' outer s H E) rfl
  exact ds_one (ds_if (dt_pkL (op_eqD hr.units) o_eq (dp_ix (k := 4) (dp_name (pv 1)) (fun _ _ => rfl)) (de_lst (da_nil)) (nomark _)) (ds_one (ds_setP (k := 1) (de_op op_addA o_add (de_leaf (dp_ix (k := 1) (dp_name (pv 1)) (fun _ _ => rfl))) (de_int)) (dp_name (pv 1)))) (ds_one (ds_dputpop (k := 3) (j := 4) rfl (hu_of hr) (de_op op_addA o_add (de_leaf (dp_ix (k := 0) (dp_name (pv 1)) (fun _ _ => rfl))) (de_ix ix_seq o_ix (de_var (pv 0)) (de_int) (fun _ _ => rfl))) (dp_ix (k := 3) (dp_name (pv 1)) (fun _ _ => rfl)) (dp_ix (k := 4) (dp_name (pv 1)) (fun _ _ => rfl)))))
theorem sc__law_may_come : FnScope ["state_so", "who"] ["state_so", "who"] (defScope (topS 22)) := ⟨rfl, rfl, rfl, by decide +kernel, rfl, by decide +kernel, by decide +kernel⟩
theorem ok__law_may_come (T : Txt K mg A) : FnOk P w K mg base (L2.CX P w) 1 A.f__law_may_come A.fd__law_may_come ["state_so", "who"] (spD K (clsOf A) [true, false] d__law_may_come) := by
  refine fn_ok (k := 0) (g := g__law_may_come) T.F__law_may_come sc__law_may_come (by decide) rfl (fun os _ => rfl) fun cdv A' outer s H vs E hr F fp => ?_
  have tk : Takes (cxOf (L2.CX P w) P w K mg base ["state_so", "who"] "_law_may_come" (defScope (topS 22)) A.f__law_may_come cdv A' outer s H E) (fcOf K (clsOf A) [true, false] ["state_so", "who"] vs H E F fp).W := takes_of rfl rfl rfl rfl
  have hp := passes_of (X := cxOf (L2.CX P w) P w K mg base ["state_so", "who"] "_law_may_come" (defScope (topS 22)) A.f__law_may_come cdv A' outer s H E) rfl
  exact ds_one (ds_ret (de_and (de_dnin (hu_of hr) (de_var (pv 1)) (dp_ix (k := 2) (dp_name (pv 0)) (fun _ _ => rfl))) (de_one (de_cmp op_le o_cmp (de_dget2 (hu_of hr) (dp_ix (k := 5) (dp_name (pv 0)) (fun _ _ => rfl)) (de_var (pv 1)) (de_int) ⟨by rfl, by rfl, by rfl, by rfl⟩) (de_leaf (dp_ix (k := 0) (dp_name (pv 0)) (fun _ _ => rfl))) (nomark _)))))
theorem sc__law_borrow : FnScope ["rules_so", "state_so", "who"] ["rules_so", "state_so", "who"] (defScope (topS 23)) := ⟨rfl, rfl, rfl, by decide +kernel, rfl, by decide +kernel, by decide +kernel⟩
theorem ok__law_borrow (T : Txt K mg A) : FnOk P w K mg base (L2.CX P w) 2 A.f__law_borrow A.fd__law_borrow ["rules_so", "state_so", "who"] (spD K (clsOf A) [false, true, false] d__law_borrow) := by
  have G__law_may_come : FnOk P w K mg base (L2.CX P w) 1 A.f__law_may_come A.fd__law_may_come ["state_so", "who"] (spD K (clsOf A) [true, false] d__law_may_come) := ok__law_may_come T
  refine fn_ok (k := 1) (g := g__law_borrow) T.F__law_borrow sc__law_borrow (by decide) rfl (fun os _ => rfl) fun cdv A' outer s H vs E hr F fp => ?_
  have tk : Takes (cxOf (L2.CX P w) P w K mg base ["rules_so", "state_so", "who"] "_law_borrow" (defScope (topS 23)) A.f__law_borrow cdv A' outer s H E) (fcOf K (clsOf A) [false, true, false] ["rules_so", "state_so", "who"] vs H E F fp).W := takes_of rfl rfl rfl rfl
  have hp := passes_of (X := cxOf (L2.CX P w) P w K mg base ["rules_so", "state_so", "who"] "_law_borrow" (defScope (topS 23)) A.f__law_borrow cdv A' outer s H E) rfl
  exact ds_cons (ds_if (dt_bool (dw_or (dt_not (dt_val (de_call G__law_may_come (hr.mono (by decide)) (by rfl) T.g__law_may_come T.F__law_may_come.kp T.b__law_may_come (fun σ => passAt tk σ) (da_lend (pv 1) (da_cons (de_var (pv 2)) (da_nil)))))) (dw_or1 (dt_bool (dw_and (dt_dnin (hu_of hr) (de_var (pv 2)) (dp_ix (k := 3) (dp_name (pv 1)) (fun _ _ => rfl))) (dw_and1 (dt_cmp (op_eqD hr.units) o_eq (de_leaf (dp_ix (k := 1) (dp_name (pv 1)) (fun _ _ => rfl))) (de_int) (nomark _)))))))) (ds_one (ds_ret (de_bl))) (ds_nil)) (ds_cons (ds_if (dt_din (hu_of hr) (de_var (pv 2)) (dp_ix (k := 3) (dp_name (pv 1)) (fun _ _ => rfl))) (ds_one (ds_expr (de_dpop (dp_ix (k := 3) (dp_name (pv 1)) (fun _ _ => rfl)) (de_var (pv 2)) ⟨by rfl, by rfl, by rfl, by rfl⟩))) (ds_one (ds_setP (k := 1) (de_op op_sub o_sub (de_leaf (dp_ix (k := 1) (dp_name (pv 1)) (fun _ _ => rfl))) (de_int)) (dp_name (pv 1))))) (ds_cons (ds_dput (hu_of hr) (de_lst (da_cons (de_op op_addA o_add (de_leaf (dp_ix (k := 0) (dp_name (pv 1)) (fun _ _ => rfl))) (de_ix ix_seq o_ix (de_var (pv 0)) (de_int) (fun _ _ => rfl))) (da_cons (de_int) (da_nil)))) (dp_ix (k := 2) (dp_name (pv 1)) (fun _ _ => rfl)) (de_var (pv 2))) (ds_one (ds_ret (de_bl)))))
theorem sc__law_renew : FnScope ["rules_so", "state_so", "who", "due_so", "count"] ["rules_so", "state_so", "who"] (defScope (topS 24)) := ⟨rfl, rfl, rfl, by decide +kernel, rfl, by decide +kernel, by decide +kernel⟩
theorem ok__law_renew (T : Txt K mg A) : FnOk P w K mg base (L2.CX P w) 1 A.f__law_renew A.fd__law_renew ["rules_so", "state_so", "who"] (spD K (clsOf A) [false, true, false] d__law_renew) := by
  refine fn_ok (k := 0) (g := g__law_renew) T.F__law_renew sc__law_renew (by decide) rfl (fun os _ => rfl) fun cdv A' outer s H vs E hr F fp => ?_
  have tk : Takes (cxOf (L2.CX P w) P w K mg base ["rules_so", "state_so", "who", "due_so", "count"] "_law_renew" (defScope (topS 24)) A.f__law_renew cdv A' outer s H E) (fcOf K (clsOf A) [false, true, false] ["rules_so", "state_so", "who", "due_so", "count"] vs H E F fp).W := takes_of rfl rfl rfl rfl
  have hp := passes_of (X := cxOf (L2.CX P w) P w K mg base ["rules_so", "state_so", "who", "due_so", "count"] "_law_renew" (defScope (topS 24)) A.f__law_renew cdv A' outer s H E) rfl
  exact ds_cons (ds_if (dt_bool (dw_or (dt_dnin (hu_of hr) (de_var (pv 2)) (dp_ix (k := 2) (dp_name (pv 1)) (fun _ _ => rfl))) (dw_or1 (dt_pkL (op_neD hr.units) o_ne (dp_ix (k := 4) (dp_name (pv 1)) (fun _ _ => rfl)) (de_lst (da_nil)) (nomark _))))) (ds_one (ds_ret (de_bl))) (ds_nil)) (ds_cons (ds_asg (de_dget (hu_of hr) (dp_ix (k := 2) (dp_name (pv 1)) (fun _ _ => rfl)) (de_var (pv 2)) (fun _ _ => rfl)) (dg_lst rfl rfl (dgs_cons (dg_name (pg_name (i := 3) sc__law_renew.nd rfl (.inl rfl))) (dgs_cons (dg_name (pg_name (i := 4) sc__law_renew.nd rfl (.inl rfl))) (dgs_nil))))) (ds_cons (ds_if (dt_bool (dw_or (dt_cmp (op_eqD hr.units) o_eq (de_var (pv 4)) (de_ix ix_seq o_ix (de_var (pv 0)) (de_int) (fun _ _ => rfl)) (nomark _)) (dw_or1 (dt_cmp op_gt o_cmp (de_op op_sub o_sub (de_var (pv 3)) (de_leaf (dp_ix (k := 0) (dp_name (pv 1)) (fun _ _ => rfl)))) (de_ix ix_seq o_ix (de_var (pv 0)) (de_int) (fun _ _ => rfl)) (nomark _))))) (ds_one (ds_ret (de_bl))) (ds_nil)) (ds_cons (ds_dput (hu_of hr) (de_lst (da_cons (de_op op_addA o_add (de_var (pv 3)) (de_ix ix_seq o_ix (de_var (pv 0)) (de_int) (fun _ _ => rfl))) (da_cons (de_op op_addA o_add (de_var (pv 4)) (de_int)) (da_nil)))) (dp_ix (k := 2) (dp_name (pv 1)) (fun _ _ => rfl)) (de_var (pv 2))) (ds_one (ds_ret (de_bl))))))
theorem sc__law_wait : FnScope ["rules_so", "state_so", "who"] ["rules_so", "state_so", "who"] (defScope (topS 25)) := ⟨rfl, rfl, rfl, by decide +kernel, rfl, by decide +kernel, by decide +kernel⟩
theorem ok__law_wait (T : Txt K mg A) : FnOk P w K mg base (L2.CX P w) 2 A.f__law_wait A.fd__law_wait ["rules_so", "state_so", "who"] (spD K (clsOf A) [false, true, false] d__law_wait) := by
  have G__law_back : FnOk P w K mg base (L2.CX P w) 1 A.f__law_back A.fd__law_back ["rules_so", "state_so"] (spD K (clsOf A) [false, true] d__law_back) := ok__law_back T
  have G__law_may_come : FnOk P w K mg base (L2.CX P w) 1 A.f__law_may_come A.fd__law_may_come ["state_so", "who"] (spD K (clsOf A) [true, false] d__law_may_come) := ok__law_may_come T
  refine fn_ok (k := 1) (g := g__law_wait) T.F__law_wait sc__law_wait (by decide) rfl (fun os _ => rfl) fun cdv A' outer s H vs E hr F fp => ?_
  have tk : Takes (cxOf (L2.CX P w) P w K mg base ["rules_so", "state_so", "who"] "_law_wait" (defScope (topS 25)) A.f__law_wait cdv A' outer s H E) (fcOf K (clsOf A) [false, true, false] ["rules_so", "state_so", "who"] vs H E F fp).W := takes_of rfl rfl rfl rfl
  have hp := passes_of (X := cxOf (L2.CX P w) P w K mg base ["rules_so", "state_so", "who"] "_law_wait" (defScope (topS 25)) A.f__law_wait cdv A' outer s H E) rfl
  exact ds_cons (ds_if (dt_bool (dw_or (dt_not (dt_val (de_call G__law_may_come (hr.mono (by decide)) (by rfl) T.g__law_may_come T.F__law_may_come.kp T.b__law_may_come (fun σ => passAt tk σ) (da_lend (pv 1) (da_cons (de_var (pv 2)) (da_nil)))))) (dw_or (dt_din (hu_of hr) (de_var (pv 2)) (dp_ix (k := 3) (dp_name (pv 1)) (fun _ _ => rfl))) (dw_or1 (dt_pkR (op_inA (un65 hr)) o_in (de_var (pv 2)) (dp_ix (k := 4) (dp_name (pv 1)) (fun _ _ => rfl)) (by rfl)))))) (ds_one (ds_ret (de_bl))) (ds_nil)) (ds_cons (ds_expr (de_appP rfl (dp_ix (k := 4) (dp_name (pv 1)) (fun _ _ => rfl)) (da_cons (de_var (pv 2)) (da_nil)))) (ds_cons (ds_if (dt_cmp op_gt o_cmp (de_leaf (dp_ix (k := 1) (dp_name (pv 1)) (fun _ _ => rfl))) (de_int) (nomark _)) (ds_cons (ds_setP (k := 1) (de_op op_sub o_sub (de_leaf (dp_ix (k := 1) (dp_name (pv 1)) (fun _ _ => rfl))) (de_int)) (dp_name (pv 1))) (ds_one (ds_expr (de_call G__law_back (hr.mono (by decide)) (by rfl) T.g__law_back T.F__law_back.kp T.b__law_back (fun σ => passAt tk σ) (da_cons (de_var (pv 0)) (da_lend (pv 1) (da_nil))))))) (ds_nil)) (ds_one (ds_ret (de_bl)))))
theorem sc__law_leave : FnScope ["rules_so", "state_so", "who"] ["rules_so", "state_so", "who"] (defScope (topS 26)) := ⟨rfl, rfl, rfl, by decide +kernel, rfl, by decide +kernel, by decide +kernel⟩
theorem ok__law_leave (T : Txt K mg A) : FnOk P w K mg base (L2.CX P w) 2 A.f__law_leave A.fd__law_leave ["rules_so", "state_so", "who"] (spD K (clsOf A) [false, true, false] d__law_leave) := by
  have G__law_back : FnOk P w K mg base (L2.CX P w) 1 A.f__law_back A.fd__law_back ["rules_so", "state_so"] (spD K (clsOf A) [false, true] d__law_back) := ok__law_back T
  refine fn_ok (k := 1) (g := g__law_leave) T.F__law_leave sc__law_leave (by decide) rfl (fun os _ => rfl) fun cdv A' outer s H vs E hr F fp => ?_
  have tk : Takes (cxOf (L2.CX P w) P w K mg base ["rules_so", "state_so", "who"] "_law_leave" (defScope (topS 26)) A.f__law_leave cdv A' outer s H E) (fcOf K (clsOf A) [false, true, false] ["rules_so", "state_so", "who"] vs H E F fp).W := takes_of rfl rfl rfl rfl
  have hp := passes_of (X := cxOf (L2.CX P w) P w K mg base ["rules_so", "state_so", "who"] "_law_leave" (defScope (topS 26)) A.f__law_leave cdv A' outer s H E) rfl
  exact ds_cons (ds_if (dt_pkR (op_inA (un65 hr)) o_in (de_var (pv 2)) (dp_ix (k := 4) (dp_name (pv 1)) (fun _ _ => rfl)) (by rfl)) (ds_cons (ds_expr (de_popP rfl (dp_ix (k := 4) (dp_name (pv 1)) (fun _ _ => rfl)) (da_cons (de_idxP rfl (dp_ix (k := 4) (dp_name (pv 1)) (fun _ _ => rfl)) (da_cons (de_var (pv 2)) (da_nil))) (da_nil)))) (ds_one (ds_ret (de_bl)))) (ds_nil)) (ds_cons (ds_if (dt_dnin (hu_of hr) (de_var (pv 2)) (dp_ix (k := 3) (dp_name (pv 1)) (fun _ _ => rfl))) (ds_one (ds_ret (de_bl))) (ds_nil)) (ds_cons (ds_expr (de_dpop (dp_ix (k := 3) (dp_name (pv 1)) (fun _ _ => rfl)) (de_var (pv 2)) ⟨by rfl, by rfl, by rfl, by rfl⟩)) (ds_cons (ds_expr (de_call G__law_back (hr.mono (by decide)) (by rfl) T.g__law_back T.F__law_back.kp T.b__law_back (fun σ => passAt tk σ) (da_cons (de_var (pv 0)) (da_lend (pv 1) (da_nil))))) (ds_one (ds_ret (de_bl))))))
theorem sc__law_day : FnScope ["rules_so", "state_so", "over", "who"] ["rules_so", "state_so"] (defScope (topS 27)) := ⟨rfl, rfl, rfl, by decide +kernel, rfl, by decide +kernel, by decide +kernel⟩
theorem ok__law_day (T : Txt K mg A) : FnOk P w K mg base (L2.CX P w) 2 A.f__law_day A.fd__law_day ["rules_so", "state_so"] (spD K (clsOf A) [false, true] d__law_day) := by
  have G__law_back : FnOk P w K mg base (L2.CX P w) 1 A.f__law_back A.fd__law_back ["rules_so", "state_so"] (spD K (clsOf A) [false, true] d__law_back) := ok__law_back T
  refine fn_ok (k := 1) (g := g__law_day) T.F__law_day sc__law_day (by decide) rfl (fun os _ => rfl) fun cdv A' outer s H vs E hr F fp => ?_
  have tk : Takes (cxOf (L2.CX P w) P w K mg base ["rules_so", "state_so", "over", "who"] "_law_day" (defScope (topS 27)) A.f__law_day cdv A' outer s H E) (fcOf K (clsOf A) [false, true] ["rules_so", "state_so", "over", "who"] vs H E F fp).W := takes_of rfl rfl rfl rfl
  have hp := passes_of (X := cxOf (L2.CX P w) P w K mg base ["rules_so", "state_so", "over", "who"] "_law_day" (defScope (topS 27)) A.f__law_day cdv A' outer s H E) rfl
  exact ds_cons (ds_if (dt_cmp (op_neD hr.units) o_ne (de_due (k2 := 2) (k0 := 0) rfl (hu_of hr) rfl sc__law_day.nd (by decide) (pe_ix ix_seq (pv 1) pe_int (fun _ _ => rfl)) (blkOk_by (N := ["rules_so", "state_so", "over", "who"]) (sc := defScope (topS 27)) (own := [("who", 3)]) (by decide +kernel)) (fun _ _ _ _ _ => pg_name (i := 3) sc__law_day.nd rfl (.inl rfl)) (fun _ _ _ _ _ => pv 3) (fun _ _ _ _ _ => pe_ix ixb (pv 1) pe_int (fun _ _ => rfl)) (fun _ _ _ _ _ => pe_ix ixb (pv 1) pe_int (fun _ _ => rfl))) (de_lst (da_nil)) (nomark _)) (ds_one (ds_ret (de_bl))) (ds_nil)) (ds_cons (ds_setP (k := 0) (de_op op_addA o_add (de_leaf (dp_ix (k := 0) (dp_name (pv 1)) (fun _ _ => rfl))) (de_int)) (dp_name (pv 1))) (ds_cons (ds_setLc (i := 2) (own := [("who", 3)]) rfl sc__law_day.nd rfl rfl (sw_true rfl rfl rfl (by decide +kernel)) (di_data rfl (de_dsrt rfl (by rfl) T.z_sorted (dp_ix (k := 3) (dp_name (pv 1)) (fun _ _ => rfl)))) (blkOk_by (N := ["rules_so", "state_so", "over", "who"]) (sc := defScope (topS 27)) (own := [("who", 3)]) (by decide +kernel)) (by decide) (fun _ _ _ _ _ => dg_name (pg_name (i := 3) sc__law_day.nd rfl (.inl rfl))) (fun _ _ _ _ _ => dts_one (dt_cmp op_lt o_cmp (de_dget (hu_of hr) (dp_ix (k := 3) (dp_name (pv 1)) (fun _ _ => rfl)) (de_var (pv 3)) (fun _ _ => rfl)) (de_leaf (dp_ix (k := 0) (dp_name (pv 1)) (fun _ _ => rfl))) (nomark _))) (fun _ _ _ _ _ => de_var (pv 3))) (ds_cons (ds_for hp rfl (di_data rfl (de_frz (pv 2))) (dg_name (pg_name (i := 3) sc__law_day.nd rfl (.inl rfl))) (ds_cons (ds_expr (de_dpop (dp_ix (k := 3) (dp_name (pv 1)) (fun _ _ => rfl)) (de_var (pv 3)) ⟨by rfl, by rfl, by rfl, by rfl⟩)) (ds_one (ds_expr (de_call G__law_back (hr.mono (by decide)) (by rfl) T.g__law_back T.F__law_back.kp T.b__law_back (fun σ => passAt tk σ) (da_cons (de_var (pv 0)) (da_lend (pv 1) (da_nil)))))))) (ds_one (ds_ret (de_bl))))))
theorem sc__law_happens : FnScope ["rules_so", "state_so", "event_so", "word", "value", "turn"] ["rules_so", "state_so", "event_so"] (defScope (topS 28)) := ⟨rfl, rfl, rfl, by decide +kernel, rfl, by decide +kernel, by decide +kernel⟩
theorem ok__law_happens (T : Txt K mg A) : FnOk P w K mg base (L2.CX P w) 3 A.f__law_happens A.fd__law_happens ["rules_so", "state_so", "event_so"] (spD K (clsOf A) [false, true, false] d__law_happens) := by
  have G__law_back : FnOk P w K mg base (L2.CX P w) 1 A.f__law_back A.fd__law_back ["rules_so", "state_so"] (spD K (clsOf A) [false, true] d__law_back) := ok__law_back T
  have G__law_borrow : FnOk P w K mg base (L2.CX P w) 2 A.f__law_borrow A.fd__law_borrow ["rules_so", "state_so", "who"] (spD K (clsOf A) [false, true, false] d__law_borrow) := ok__law_borrow T
  have G__law_day : FnOk P w K mg base (L2.CX P w) 2 A.f__law_day A.fd__law_day ["rules_so", "state_so"] (spD K (clsOf A) [false, true] d__law_day) := ok__law_day T
  have G__law_leave : FnOk P w K mg base (L2.CX P w) 2 A.f__law_leave A.fd__law_leave ["rules_so", "state_so", "who"] (spD K (clsOf A) [false, true, false] d__law_leave) := ok__law_leave T
  have G__law_renew : FnOk P w K mg base (L2.CX P w) 1 A.f__law_renew A.fd__law_renew ["rules_so", "state_so", "who"] (spD K (clsOf A) [false, true, false] d__law_renew) := ok__law_renew T
  have G__law_wait : FnOk P w K mg base (L2.CX P w) 2 A.f__law_wait A.fd__law_wait ["rules_so", "state_so", "who"] (spD K (clsOf A) [false, true, false] d__law_wait) := ok__law_wait T
  refine fn_ok (k := 2) (g := g__law_happens) T.F__law_happens sc__law_happens (by decide) rfl (fun os _ => rfl) fun cdv A' outer s H vs E hr F fp => ?_
  have tk : Takes (cxOf (L2.CX P w) P w K mg base ["rules_so", "state_so", "event_so", "word", "value", "turn"] "_law_happens" (defScope (topS 28)) A.f__law_happens cdv A' outer s H E) (fcOf K (clsOf A) [false, true, false] ["rules_so", "state_so", "event_so", "word", "value", "turn"] vs H E F fp).W := takes_of rfl rfl rfl rfl
  have hp := passes_of (X := cxOf (L2.CX P w) P w K mg base ["rules_so", "state_so", "event_so", "word", "value", "turn"] "_law_happens" (defScope (topS 28)) A.f__law_happens cdv A' outer s H E) rfl
  exact ds_cons (ds_asg (de_var (pv 2)) (dg_tup rfl rfl (dgs_cons (dg_name (pg_name (i := 3) sc__law_happens.nd rfl (.inl rfl))) (dgs_cons (dg_name (pg_name (i := 4) sc__law_happens.nd rfl (.inl rfl))) (dgs_nil))))) (ds_cons (ds_if (dt_cmp (op_eqD hr.units) o_eq (de_var (pv 3)) (de_str) (nomark _)) (ds_one (ds_ret (de_call G__law_borrow (hr.mono (by decide)) (by rfl) T.g__law_borrow T.F__law_borrow.kp T.b__law_borrow (fun σ => passAt tk σ) (da_cons (de_var (pv 0)) (da_lend (pv 1) (da_cons (de_var (pv 4)) (da_nil))))))) (ds_nil)) (ds_cons (ds_if (dt_cmp (op_eqD hr.units) o_eq (de_var (pv 3)) (de_str) (nomark _)) (ds_one (ds_ret (de_call G__law_renew (hr.mono (by decide)) (by rfl) T.g__law_renew T.F__law_renew.kp T.b__law_renew (fun σ => passAt tk σ) (da_cons (de_var (pv 0)) (da_lend (pv 1) (da_cons (de_var (pv 4)) (da_nil))))))) (ds_nil)) (ds_cons (ds_if (dt_cmp (op_eqD hr.units) o_eq (de_var (pv 3)) (de_str) (nomark _)) (ds_one (ds_ret (de_call G__law_wait (hr.mono (by decide)) (by rfl) T.g__law_wait T.F__law_wait.kp T.b__law_wait (fun σ => passAt tk σ) (da_cons (de_var (pv 0)) (da_lend (pv 1) (da_cons (de_var (pv 4)) (da_nil))))))) (ds_nil)) (ds_cons (ds_if (dt_cmp (op_eqD hr.units) o_eq (de_var (pv 3)) (de_str) (nomark _)) (ds_one (ds_ret (de_call G__law_leave (hr.mono (by decide)) (by rfl) T.g__law_leave T.F__law_leave.kp T.b__law_leave (fun σ => passAt tk σ) (da_cons (de_var (pv 0)) (da_lend (pv 1) (da_cons (de_var (pv 4)) (da_nil))))))) (ds_nil)) (ds_cons (ds_if (dt_cmp (op_eqD hr.units) o_eq (de_var (pv 3)) (de_str) (nomark _)) (ds_cons (ds_if (dt_dnin (hu_of hr) (de_var (pv 4)) (dp_ix (k := 2) (dp_name (pv 1)) (fun _ _ => rfl))) (ds_one (ds_ret (de_bl))) (ds_nil)) (ds_cons (ds_expr (de_dpop (dp_ix (k := 2) (dp_name (pv 1)) (fun _ _ => rfl)) (de_var (pv 4)) ⟨by rfl, by rfl, by rfl, by rfl⟩)) (ds_cons (ds_dput (hu_of hr) (de_op op_addA o_add (de_leaf (dp_ix (k := 0) (dp_name (pv 1)) (fun _ _ => rfl))) (de_ix ix_seq o_ix (de_var (pv 0)) (de_int) (fun _ _ => rfl))) (dp_ix (k := 5) (dp_name (pv 1)) (fun _ _ => rfl)) (de_var (pv 4))) (ds_cons (ds_expr (de_call G__law_back (hr.mono (by decide)) (by rfl) T.g__law_back T.F__law_back.kp T.b__law_back (fun σ => passAt tk σ) (da_cons (de_var (pv 0)) (da_lend (pv 1) (da_nil))))) (ds_one (ds_ret (de_bl))))))) (ds_nil)) (ds_cons (ds_for hp rfl (di_range1 (by rfl) T.z_range (da_cons (de_var (pv 4)) (da_nil))) (dg_name (pg_name (i := 5) sc__law_happens.nd rfl (.inl rfl))) (ds_one (ds_if (dt_not (dt_val (de_call G__law_day (hr.mono (by decide)) (by rfl) T.g__law_day T.F__law_day.kp T.b__law_day (fun σ => passAt tk σ) (da_cons (de_var (pv 0)) (da_lend (pv 1) (da_nil)))))) (ds_one (ds_ret (de_bl))) (ds_nil)))) (ds_one (ds_ret (de_bl)))))))))
theorem sc__law_ran : FnScope ["rules_so", "history_so", "state_so", "index", "event_so"] ["rules_so", "history_so"] (defScope (topS 29)) := ⟨rfl, rfl, rfl, by decide +kernel, rfl, by decide +kernel, by decide +kernel⟩
theorem ok__law_ran (T : Txt K mg A) : FnOk P w K mg base (L2.CX P w) 4 A.f__law_ran A.fd__law_ran ["rules_so", "history_so"] (spD K (clsOf A) [false, false] d__law_ran) := by
  have G__law_first : FnOk P w K mg base (L2.CX P w) 1 A.f__law_first A.fd__law_first ["rules_so"] (spD K (clsOf A) [false] d__law_first) := ok__law_first T
  have G__law_happens : FnOk P w K mg base (L2.CX P w) 3 A.f__law_happens A.fd__law_happens ["rules_so", "state_so", "event_so"] (spD K (clsOf A) [false, true, false] d__law_happens) := ok__law_happens T
  refine fn_ok (k := 3) (g := g__law_ran) T.F__law_ran sc__law_ran (by decide) rfl (fun os _ => rfl) fun cdv A' outer s H vs E hr F fp => ?_
  have tk : Takes (cxOf (L2.CX P w) P w K mg base ["rules_so", "history_so", "state_so", "index", "event_so"] "_law_ran" (defScope (topS 29)) A.f__law_ran cdv A' outer s H E) (fcOf K (clsOf A) [false, false] ["rules_so", "history_so", "state_so", "index", "event_so"] vs H E F fp).W := takes_of rfl rfl rfl rfl
  have hp := passes_of (X := cxOf (L2.CX P w) P w K mg base ["rules_so", "history_so", "state_so", "index", "event_so"] "_law_ran" (defScope (topS 29)) A.f__law_ran cdv A' outer s H E) rfl
  exact ds_cons (ds_set (i := 2) sc__law_ran.nd rfl (.inl rfl) (de_call G__law_first (hr.mono (by decide)) (by rfl) T.g__law_first T.F__law_first.kp T.b__law_first (fun σ => passAt tk σ) (da_cons (de_var (pv 0)) (da_nil)))) (ds_cons (ds_for hp rfl (di_enumA rfl (by rfl) T.z_enumerate (da_cons (de_var (pv 1)) (da_nil))) (dg_tup rfl rfl (dgs_cons (dg_name (pg_name (i := 3) sc__law_ran.nd rfl (.inl rfl))) (dgs_cons (dg_name (pg_name (i := 4) sc__law_ran.nd rfl (.inl rfl))) (dgs_nil)))) (ds_one (ds_if (dt_not (dt_val (de_call G__law_happens (hr.mono (by decide)) (by rfl) T.g__law_happens T.F__law_happens.kp T.b__law_happens (fun σ => passAt tk σ) (da_cons (de_var (pv 0)) (da_lend (pv 2) (da_cons (de_var (pv 4)) (da_nil))))))) (ds_one (ds_ret (de_tup (da_cons (de_non) (da_cons (de_var (pv 3)) (da_nil)))))) (ds_nil)))) (ds_one (ds_ret (de_tup (da_cons (de_mov (pv 2)) (da_cons (de_non) (da_nil)))))))
theorem sc__law_history : FnScope ["source", "rules_so", "most", "wild", "state_so", "found", "turn", "way", "who", "word", "lent", "event_so", "limit", "copy", "one"] ["source", "rules_so", "most", "wild"] (defScope (topS 30)) := ⟨rfl, rfl, rfl, by decide +kernel, rfl, by decide +kernel, by decide +kernel⟩
theorem ok__law_history (T : Txt K mg A) : FnOk P w K mg base (L2.CX P w) 4 A.f__law_history A.fd__law_history ["source", "rules_so", "most", "wild"] (spD K (clsOf A) [true, false, false, false] d__law_history) := by
  have G__law_first : FnOk P w K mg base (L2.CX P w) 1 A.f__law_first A.fd__law_first ["rules_so"] (spD K (clsOf A) [false] d__law_first) := ok__law_first T
  have G__law_happens : FnOk P w K mg base (L2.CX P w) 3 A.f__law_happens A.fd__law_happens ["rules_so", "state_so", "event_so"] (spD K (clsOf A) [false, true, false] d__law_happens) := ok__law_happens T
  have G__law_pick : FnOk P w K mg base (L2.CX P w) 1 A.f__law_pick A.fd__law_pick ["source", "size"] (spD K (clsOf A) [true, false] d__law_pick) := ok__law_pick T
  refine fn_ok (k := 3) (g := g__law_history) T.F__law_history sc__law_history (by decide) rfl (fun os _ => rfl) fun cdv A' outer s H vs E hr F fp => ?_
  have tk : Takes (cxOf (L2.CX P w) P w K mg base ["source", "rules_so", "most", "wild", "state_so", "found", "turn", "way", "who", "word", "lent", "event_so", "limit", "copy", "one"] "_law_history" (defScope (topS 30)) A.f__law_history cdv A' outer s H E) (fcOf K (clsOf A) [true, false, false, false] ["source", "rules_so", "most", "wild", "state_so", "found", "turn", "way", "who", "word", "lent", "event_so", "limit", "copy", "one"] vs H E F fp).W := takes_of rfl rfl rfl rfl
  have hp := passes_of (X := cxOf (L2.CX P w) P w K mg base ["source", "rules_so", "most", "wild", "state_so", "found", "turn", "way", "who", "word", "lent", "event_so", "limit", "copy", "one"] "_law_history" (defScope (topS 30)) A.f__law_history cdv A' outer s H E) rfl
  exact ds_cons (ds_asg (de_tup (da_cons (de_call G__law_first (hr.mono (by decide)) (by rfl) T.g__law_first T.F__law_first.kp T.b__law_first (fun σ => passAt tk σ) (da_cons (de_var (pv 1)) (da_nil))) (da_cons (de_tup (da_nil)) (da_nil)))) (dg_tup rfl rfl (dgs_cons (dg_name (pg_name (i := 4) sc__law_history.nd rfl (.inr rfl))) (dgs_cons (dg_name (pg_name (i := 5) sc__law_history.nd rfl (.inl rfl))) (dgs_nil))))) (ds_cons (ds_for hp rfl (di_range1 (by rfl) T.z_range (da_cons (de_call G__law_pick (hr.mono (by decide)) (by rfl) T.g__law_pick T.F__law_pick.kp T.b__law_pick (fun σ => passAt tk σ) (da_lend (pv 0) (da_cons (de_op op_addA o_add (de_var (pv 2)) (de_int)) (da_nil)))) (da_nil))) (dg_name (pg_name (i := 6) sc__law_history.nd rfl (.inl rfl))) (ds_cons (ds_set (i := 7) sc__law_history.nd rfl (.inl rfl) (de_call G__law_pick (hr.mono (by decide)) (by rfl) T.g__law_pick T.F__law_pick.kp T.b__law_pick (fun σ => passAt tk σ) (da_lend (pv 0) (da_cons (de_int) (da_nil))))) (ds_cons (ds_set (i := 8) sc__law_history.nd rfl (.inl rfl) (de_call G__law_pick (hr.mono (by decide)) (by rfl) T.g__law_pick T.F__law_pick.kp T.b__law_pick (fun σ => passAt tk σ) (da_lend (pv 0) (da_cons (de_int) (da_nil))))) (ds_cons (ds_set (i := 9) sc__law_history.nd rfl (.inl rfl) (de_ix ix_seq o_ix (de_lst (da_cons (de_str) (da_cons (de_str) (da_cons (de_str) (da_cons (de_str) (da_cons (de_str) (da_cons (de_str) (da_cons (de_str) (da_cons (de_str) (da_cons (de_str) (da_nil))))))))))) (de_var (pv 7)) (fun _ _ => rfl))) (ds_cons (ds_set (i := 10) sc__law_history.nd rfl (.inl rfl) (de_dsrt rfl (by rfl) T.z_sorted (dp_ix (k := 2) (dp_name (pv 4)) (fun _ _ => rfl)))) (ds_cons (ds_if (dt_bool (dw_and (dt_cmp (op_inA (un65 hr)) o_in (de_var (pv 9)) (de_tup (da_cons (de_str) (da_cons (de_str) (da_nil)))) (by rfl)) (dw_and1 (dt_cmp (op_neD hr.units) o_ne (de_frz (pv 10)) (de_lst (da_nil)) (nomark _))))) (ds_one (ds_set (i := 8) sc__law_history.nd rfl (.inl rfl) (de_ix ix_seq o_ix (de_frz (pv 10)) (de_call G__law_pick (hr.mono (by decide)) (by rfl) T.g__law_pick T.F__law_pick.kp T.b__law_pick (fun σ => passAt tk σ) (da_lend (pv 0) (da_cons (de_cb call_lenA o_len (by rfl) T.z_len (by decide +kernel) (da_cons (de_frz (pv 10)) (da_nil))) (da_nil)))) (fun _ _ => rfl)))) (ds_nil)) (ds_cons (ds_set (i := 11) sc__law_history.nd rfl (.inl rfl) (de_tup (da_cons (de_var (pv 9)) (da_cons (de_var (pv 8)) (da_nil))))) (ds_cons (ds_if (dt_cmp (op_eqD hr.units) o_eq (de_var (pv 9)) (de_str) (nomark _)) (ds_cons (ds_set (i := 11) sc__law_history.nd rfl (.inl rfl) (de_tup (da_cons (de_var (pv 9)) (da_cons (de_op op_addA o_add (de_int) (de_call G__law_pick (hr.mono (by decide)) (by rfl) T.g__law_pick T.F__law_pick.kp T.b__law_pick (fun σ => passAt tk σ) (da_lend (pv 0) (da_cons (de_ix ix_seq o_ix (de_lst (da_cons (de_int) (da_cons (de_op op_addA o_add (de_ix ix_seq o_ix (de_var (pv 1)) (de_int) (fun _ _ => rfl)) (de_int)) (da_nil)))) (de_call G__law_pick (hr.mono (by decide)) (by rfl) T.g__law_pick T.F__law_pick.kp T.b__law_pick (fun σ => passAt tk σ) (da_lend (pv 0) (da_cons (de_int) (da_nil)))) (fun _ _ => rfl)) (da_nil))))) (da_nil))))) (ds_cons (ds_set (i := 12) sc__law_history.nd rfl (.inl rfl) (de_op op_sub o_sub (de_cb (cr_min rfl) o_minL (by rfl) T.z_min (by decide +kernel) (da_cons (de_op op_addA o_add (de_lc (own := [("one", 14)]) rfl sc__law_history.nd (di_data rfl (de_frz (pv 10))) (blkOk_by (N := ["source", "rules_so", "most", "wild", "state_so", "found", "turn", "way", "who", "word", "lent", "event_so", "limit", "copy", "one"]) (sc := defScope (topS 30)) (own := [("one", 14)]) (by decide +kernel)) (by decide) (fun _ _ _ _ _ => dg_name (pg_name (i := 14) sc__law_history.nd rfl (.inl rfl))) (fun _ _ _ _ _ => dts_nil) (fun _ _ _ _ _ => de_ix ix_seq o_ix (de_dget (hu_of hr) (dp_ix (k := 2) (dp_name (pv 4)) (fun _ _ => rfl)) (de_var (pv 14)) (fun _ _ => rfl)) (de_int) (fun _ _ => rfl))) (de_lst (da_cons (de_op op_pow o_pow (de_int) (de_int)) (da_nil)))) (da_nil))) (de_leaf (dp_ix (k := 0) (dp_name (pv 4)) (fun _ _ => rfl))))) (ds_one (ds_if (dt_cmp (op_eqD hr.units) o_eq (de_var (pv 12)) (de_int) (nomark _)) (ds_one (ds_set (i := 11) sc__law_history.nd rfl (.inl rfl) (de_tup (da_cons (de_str) (da_cons (de_ix ix_seq o_ix (de_lc (own := [("one", 14)]) rfl sc__law_history.nd (di_data rfl (de_frz (pv 10))) (blkOk_by (N := ["source", "rules_so", "most", "wild", "state_so", "found", "turn", "way", "who", "word", "lent", "event_so", "limit", "copy", "one"]) (sc := defScope (topS 30)) (own := [("one", 14)]) (by decide +kernel)) (by decide) (fun _ _ _ _ _ => dg_name (pg_name (i := 14) sc__law_history.nd rfl (.inl rfl))) (fun _ _ _ _ _ => dts_one (dt_cmp (op_eqD hr.units) o_eq (de_ix ix_seq o_ix (de_dget (hu_of hr) (dp_ix (k := 2) (dp_name (pv 4)) (fun _ _ => rfl)) (de_var (pv 14)) (fun _ _ => rfl)) (de_int) (fun _ _ => rfl)) (de_leaf (dp_ix (k := 0) (dp_name (pv 4)) (fun _ _ => rfl))) (nomark _))) (fun _ _ _ _ _ => de_var (pv 14))) (de_int) (fun _ _ => rfl)) (da_nil)))))) (ds_one (ds_if (dt_bool (dw_or (dt_not (dt_val (de_var (pv 3)))) (dw_or1 (dt_cmp op_gt o_cmp (de_call G__law_pick (hr.mono (by decide)) (by rfl) T.g__law_pick T.F__law_pick.kp T.b__law_pick (fun σ => passAt tk σ) (da_lend (pv 0) (da_cons (de_int) (da_nil)))) (de_int) (nomark _))))) (ds_one (ds_set (i := 11) sc__law_history.nd rfl (.inl rfl) (de_tup (da_cons (de_var (pv 9)) (da_cons (de_cb (call_min2 rfl) o_min2 (by rfl) T.z_min (by decide +kernel) (da_cons (de_var (pv 12)) (da_cons (de_ix ix_seq o_ix (de_var (pv 11)) (de_int) (fun _ _ => rfl)) (da_nil)))) (da_nil)))))) (ds_nil))))))) (ds_nil)) (ds_cons (ds_set (i := 13) sc__law_history.nd rfl (.inl rfl) (de_lst (da_cons (de_leaf (dp_ix (k := 0) (dp_name (pv 4)) (fun _ _ => rfl))) (da_cons (de_leaf (dp_ix (k := 1) (dp_name (pv 4)) (fun _ _ => rfl))) (da_cons (de_dcpy (by rfl) T.z_dict (dp_ix (k := 2) (dp_name (pv 4)) (fun _ _ => rfl))) (da_cons (de_dcpy (by rfl) T.z_dict (dp_ix (k := 3) (dp_name (pv 4)) (fun _ _ => rfl))) (da_cons (de_lsP rfl (by rfl) T.z_list (dp_ix (k := 4) (dp_name (pv 4)) (fun _ _ => rfl))) (da_cons (de_dcpy (by rfl) T.z_dict (dp_ix (k := 5) (dp_name (pv 4)) (fun _ _ => rfl))) (da_nil))))))))) (ds_one (ds_if (dt_val (de_call G__law_happens (hr.mono (by decide)) (by rfl) T.g__law_happens T.F__law_happens.kp T.b__law_happens (fun σ => passAt tk σ) (da_cons (de_var (pv 1)) (da_lend (pv 13) (da_cons (de_var (pv 11)) (da_nil)))))) (ds_cons (ds_set (i := 4) sc__law_history.nd rfl (.inr rfl) (de_mov (pv 13))) (ds_one (ds_set (i := 5) sc__law_history.nd rfl (.inl rfl) (de_op op_addA o_add (de_var (pv 5)) (de_tup (da_cons (de_var (pv 11)) (da_nil))))))) (ds_one (ds_if (dt_bool (dw_and (dt_val (de_var (pv 3))) (dw_and1 (dt_cmp (op_eqD hr.units) o_eq (de_call G__law_pick (hr.mono (by decide)) (by rfl) T.g__law_pick T.F__law_pick.kp T.b__law_pick (fun σ => passAt tk σ) (da_lend (pv 0) (da_cons (de_int) (da_nil)))) (de_int) (nomark _))))) (ds_one (ds_set (i := 5) sc__law_history.nd rfl (.inl rfl) (de_op op_addA o_add (de_var (pv 5)) (de_tup (da_cons (de_var (pv 11)) (da_nil)))))) (ds_nil)))))))))))))) (ds_one (ds_ret (de_var (pv 5)))))
theorem sc__law_window : FnScope ["source", "rules_so", "count", "window_so"] ["source", "rules_so"] (defScope (topS 31)) := ⟨rfl, rfl, rfl, by decide +kernel, rfl, by decide +kernel, by decide +kernel⟩
theorem ok__law_window (T : Txt K mg A) : FnOk P w K mg base (L2.CX P w) 2 A.f__law_window A.fd__law_window ["source", "rules_so"] (spD K (clsOf A) [true, false] d__law_window) := by
  have G__law_pick : FnOk P w K mg base (L2.CX P w) 1 A.f__law_pick A.fd__law_pick ["source", "size"] (spD K (clsOf A) [true, false] d__law_pick) := ok__law_pick T
  refine fn_ok (k := 1) (g := g__law_window) T.F__law_window sc__law_window (by decide) rfl (fun os _ => rfl) fun cdv A' outer s H vs E hr F fp => ?_
  have tk : Takes (cxOf (L2.CX P w) P w K mg base ["source", "rules_so", "count", "window_so"] "_law_window" (defScope (topS 31)) A.f__law_window cdv A' outer s H E) (fcOf K (clsOf A) [true, false] ["source", "rules_so", "count", "window_so"] vs H E F fp).W := takes_of rfl rfl rfl rfl
  have hp := passes_of (X := cxOf (L2.CX P w) P w K mg base ["source", "rules_so", "count", "window_so"] "_law_window" (defScope (topS 31)) A.f__law_window cdv A' outer s H E) rfl
  exact ds_cons (ds_set (i := 2) sc__law_window.nd rfl (.inl rfl) (de_op op_mul o_mul (de_ix ix_seq o_ix (de_var (pv 1)) (de_int) (fun _ _ => rfl)) (de_ix ix_seq o_ix (de_var (pv 1)) (de_int) (fun _ _ => rfl)))) (ds_cons (ds_set (i := 3) sc__law_window.nd rfl (.inl rfl) (de_ix ix_seq o_ix (de_lst (da_cons (de_ix ix_seq o_ix (de_var (pv 1)) (de_int) (fun _ _ => rfl)) (da_cons (de_var (pv 2)) (da_cons (de_op op_addA o_add (de_var (pv 2)) (de_int)) (da_cons (de_op op_sub o_sub (de_var (pv 2)) (de_int)) (da_cons (de_int) (da_cons (de_call G__law_pick (hr.mono (by decide)) (by rfl) T.g__law_pick T.F__law_pick.kp T.b__law_pick (fun σ => passAt tk σ) (da_lend (pv 0) (da_cons (de_int) (da_nil)))) (da_nil)))))))) (de_call G__law_pick (hr.mono (by decide)) (by rfl) T.g__law_pick T.F__law_pick.kp T.b__law_pick (fun σ => passAt tk σ) (da_lend (pv 0) (da_cons (de_int) (da_nil)))) (fun _ _ => rfl))) (ds_one (ds_ret (de_op op_addA o_add (de_op op_addA o_add (de_slice rfl (de_var (pv 1)) do_none (do_some (de_int))) (de_tup (da_cons (de_cb (call_max2 rfl) o_max2 (by rfl) T.z_max (by decide +kernel) (da_cons (de_int) (da_cons (de_cb (call_min2 rfl) o_min2 (by rfl) T.z_min (by decide +kernel) (da_cons (de_int) (da_cons (de_var (pv 3)) (da_nil)))) (da_nil)))) (da_nil)))) (de_slice rfl (de_var (pv 1)) (do_some (de_int)) do_none)))))
theorem sc_law : FnScope ["script", "k", "source", "base", "one", "other", "third", "a", "b", "turn", "history_so"] ["script"] (defScope (topS 32)) := ⟨rfl, rfl, rfl, by decide +kernel, rfl, by decide +kernel, by decide +kernel⟩
theorem ok_law (T : Txt K mg A) : FnOk P w K mg base (L2.CX P w) 5 A.f_law A.fd_law ["script"] (spD K (clsOf A) [false] d_law) := by
  have G__law_history : FnOk P w K mg base (L2.CX P w) 4 A.f__law_history A.fd__law_history ["source", "rules_so", "most", "wild"] (spD K (clsOf A) [true, false, false, false] d__law_history) := ok__law_history T
  have G__law_is_bool : FnOk P w K mg base (L2.CX P w) 1 A.f__law_is_bool A.fd__law_is_bool ["actual", "expected"] (spD K (clsOf A) [false, false] d__law_is_bool) := ok__law_is_bool T
  have G__law_ran : FnOk P w K mg base (L2.CX P w) 4 A.f__law_ran A.fd__law_ran ["rules_so", "history_so"] (spD K (clsOf A) [false, false] d__law_ran) := ok__law_ran T
  have G__law_rules : FnOk P w K mg base (L2.CX P w) 2 A.f__law_rules A.fd__law_rules ["source"] (spD K (clsOf A) [true] d__law_rules) := ok__law_rules T
  have G__law_source : FnOk P w K mg base (L2.CX P w) 1 A.f__law_source A.fd__law_source ["script", "k"] (spD K (clsOf A) [false, false] d__law_source) := ok__law_source T
  have G__law_window : FnOk P w K mg base (L2.CX P w) 2 A.f__law_window A.fd__law_window ["source", "rules_so"] (spD K (clsOf A) [true, false] d__law_window) := ok__law_window T
  have G_alike : FnOk P w K mg base (L2.CX P w) 4 A.f_alike A.fd_alike ["one", "other"] (spD K (clsOf A) [false, false] d_alike) := ok_alike T
  have G_allows : FnOk P w K mg base (L2.CX P w) 4 A.f_allows A.fd_allows ["one", "other"] (spD K (clsOf A) [false, false] d_allows) := ok_allows T
  refine fn_ok (k := 4) (g := g_law) T.F_law sc_law (by decide) rfl (fun os _ => rfl) fun cdv A' outer s H vs E hr F fp => ?_
  have tk : Takes (cxOf (L2.CX P w) P w K mg base ["script", "k", "source", "base", "one", "other", "third", "a", "b", "turn", "history_so"] "law" (defScope (topS 32)) A.f_law cdv A' outer s H E) (fcOf K (clsOf A) [false] ["script", "k", "source", "base", "one", "other", "third", "a", "b", "turn", "history_so"] vs H E F fp).W := takes_of rfl rfl rfl rfl
  have hp := passes_of (X := cxOf (L2.CX P w) P w K mg base ["script", "k", "source", "base", "one", "other", "third", "a", "b", "turn", "history_so"] "law" (defScope (topS 32)) A.f_law cdv A' outer s H E) rfl
  exact ds_cons (ds_for hp rfl (di_range1 (by rfl) T.z_range (da_cons (de_cb (call_max2 rfl) o_max2 (by rfl) T.z_max (by decide +kernel) (da_cons (de_int) (da_cons (de_cb (call_min2 rfl) o_min2 (by rfl) T.z_min (by decide +kernel) (da_cons (de_int) (da_cons (de_cb call_lenA o_len (by rfl) T.z_len (by decide +kernel) (da_cons (de_var (pv 0)) (da_nil))) (da_nil)))) (da_nil)))) (da_nil))) (dg_name (pg_name (i := 1) sc_law.nd rfl (.inl rfl))) (ds_cons (ds_set (i := 2) sc_law.nd rfl (.inl rfl) (de_call G__law_source (hr.mono (by decide)) (by rfl) T.g__law_source T.F__law_source.kp T.b__law_source (fun σ => passAt tk σ) (da_cons (de_var (pv 0)) (da_cons (de_var (pv 1)) (da_nil))))) (ds_cons (ds_set (i := 3) sc_law.nd rfl (.inl rfl) (de_call G__law_rules (hr.mono (by decide)) (by rfl) T.g__law_rules T.F__law_rules.kp T.b__law_rules (fun σ => passAt tk σ) (da_lend (pv 2) (da_nil)))) (ds_cons (ds_par3 (i := 4) (j := 5) (l := 6) rfl sc_law.nd rfl rfl rfl (by decide) (by decide) (by decide) rfl rfl rfl (da_cons (de_call G__law_window (hr.mono (by decide)) (by rfl) T.g__law_window T.F__law_window.kp T.b__law_window (fun σ => passAt tk σ) (da_lend (pv 2) (da_cons (de_var (pv 3)) (da_nil)))) (da_cons (de_call G__law_window (hr.mono (by decide)) (by rfl) T.g__law_window T.F__law_window.kp T.b__law_window (fun σ => passAt tk σ) (da_lend (pv 2) (da_cons (de_var (pv 3)) (da_nil)))) (da_cons (de_call G__law_window (hr.mono (by decide)) (by rfl) T.g__law_window T.F__law_window.kp T.b__law_window (fun σ => passAt tk σ) (da_lend (pv 2) (da_cons (de_var (pv 3)) (da_nil)))) (da_nil)))) (by rfl)) (ds_cons (ds_for hp rfl (di_data rfl (de_lst (da_cons (de_tup (da_cons (de_var (pv 4)) (da_cons (de_var (pv 5)) (da_nil)))) (da_cons (de_tup (da_cons (de_var (pv 5)) (da_cons (de_var (pv 6)) (da_nil)))) (da_cons (de_tup (da_cons (de_var (pv 4)) (da_cons (de_var (pv 3)) (da_nil)))) (da_cons (de_tup (da_cons (de_var (pv 4)) (da_cons (de_call G__law_rules (hr.mono (by decide)) (by rfl) T.g__law_rules T.F__law_rules.kp T.b__law_rules (fun σ => passAt tk σ) (da_lend (pv 2) (da_nil))) (da_nil)))) (da_nil))))))) (dg_tup rfl rfl (dgs_cons (dg_name (pg_name (i := 7) sc_law.nd rfl (.inl rfl))) (dgs_cons (dg_name (pg_name (i := 8) sc_law.nd rfl (.inl rfl))) (dgs_nil)))) (ds_one (ds_if (dt_bool (dw_or (dt_not (dt_val (de_call G__law_is_bool (hr.mono (by decide)) (by rfl) T.g__law_is_bool T.F__law_is_bool.kp T.b__law_is_bool (fun σ => passAt tk σ) (da_cons (de_call G_alike (hr.mono (by decide)) (by rfl) T.g_alike T.F_alike.kp T.b_alike (fun σ => passAt tk σ) (da_cons (de_var (pv 7)) (da_cons (de_var (pv 8)) (da_nil)))) (da_cons (de_and (de_call G_allows (hr.mono (by decide)) (by rfl) T.g_allows T.F_allows.kp T.b_allows (fun σ => passAt tk σ) (da_cons (de_var (pv 7)) (da_cons (de_var (pv 8)) (da_nil)))) (de_one (de_call G_allows (hr.mono (by decide)) (by rfl) T.g_allows T.F_allows.kp T.b_allows (fun σ => passAt tk σ) (da_cons (de_var (pv 8)) (da_cons (de_var (pv 7)) (da_nil)))))) (da_nil)))))) (dw_or1 (dt_cmp (op_neD hr.units) o_ne (de_call G_alike (hr.mono (by decide)) (by rfl) T.g_alike T.F_alike.kp T.b_alike (fun σ => passAt tk σ) (da_cons (de_var (pv 8)) (da_cons (de_var (pv 7)) (da_nil)))) (de_call G_alike (hr.mono (by decide)) (by rfl) T.g_alike T.F_alike.kp T.b_alike (fun σ => passAt tk σ) (da_cons (de_var (pv 7)) (da_cons (de_var (pv 8)) (da_nil)))) (nomark _))))) (ds_one (ds_ret (de_bl))) (ds_nil)))) (ds_cons (ds_if (dt_bool (dw_and (dt_val (de_call G_allows (hr.mono (by decide)) (by rfl) T.g_allows T.F_allows.kp T.b_allows (fun σ => passAt tk σ) (da_cons (de_var (pv 4)) (da_cons (de_var (pv 5)) (da_nil))))) (dw_and (dt_val (de_call G_allows (hr.mono (by decide)) (by rfl) T.g_allows T.F_allows.kp T.b_allows (fun σ => passAt tk σ) (da_cons (de_var (pv 5)) (da_cons (de_var (pv 6)) (da_nil))))) (dw_and1 (dt_not (dt_val (de_call G_allows (hr.mono (by decide)) (by rfl) T.g_allows T.F_allows.kp T.b_allows (fun σ => passAt tk σ) (da_cons (de_var (pv 4)) (da_cons (de_var (pv 6)) (da_nil)))))))))) (ds_one (ds_ret (de_bl))) (ds_nil)) (ds_cons (ds_if (dt_bool (dw_or (dt_not (dt_val (de_call G_alike (hr.mono (by decide)) (by rfl) T.g_alike T.F_alike.kp T.b_alike (fun σ => passAt tk σ) (da_cons (de_var (pv 4)) (da_cons (de_var (pv 4)) (da_nil)))))) (dw_or1 (dt_bool (dw_and (dt_cmp (op_eqD hr.units) o_eq (de_ix ix_seq o_ix (de_var (pv 3)) (de_int) (fun _ _ => rfl)) (de_int) (nomark _)) (dw_and1 (dt_not (dt_val (de_call G_alike (hr.mono (by decide)) (by rfl) T.g_alike T.F_alike.kp T.b_alike (fun σ => passAt tk σ) (da_cons (de_var (pv 4)) (da_cons (de_var (pv 5)) (da_nil)))))))))))) (ds_one (ds_ret (de_bl))) (ds_nil)) (ds_one (ds_if (dt_val (de_call G_alike (hr.mono (by decide)) (by rfl) T.g_alike T.F_alike.kp T.b_alike (fun σ => passAt tk σ) (da_cons (de_var (pv 4)) (da_cons (de_var (pv 5)) (da_nil))))) (ds_one (ds_for hp rfl (di_range1 (by rfl) T.z_range (da_cons (de_int) (da_nil))) (dg_name (pg_name (i := 9) sc_law.nd rfl (.inl rfl))) (ds_cons (ds_set (i := 10) sc_law.nd rfl (.inl rfl) (de_call G__law_history (hr.mono (by decide)) (by rfl) T.g__law_history T.F__law_history.kp T.b__law_history (fun σ => passAt tk σ) (da_lend (pv 2) (da_cons (de_var (pv 3)) (da_cons (de_int) (da_cons (de_bl) (da_nil))))))) (ds_one (ds_if (dt_cmp (op_neD hr.units) o_ne (de_ixN (k := 1) rfl (de_call G__law_ran (hr.mono (by decide)) (by rfl) T.g__law_ran T.F__law_ran.kp T.b__law_ran (fun σ => passAt tk σ) (da_cons (de_var (pv 4)) (da_cons (de_var (pv 10)) (da_nil)))) (fun _ _ => rfl)) (de_ixN (k := 1) rfl (de_call G__law_ran (hr.mono (by decide)) (by rfl) T.g__law_ran T.F__law_ran.kp T.b__law_ran (fun σ => passAt tk σ) (da_cons (de_var (pv 5)) (da_cons (de_var (pv 10)) (da_nil)))) (fun _ _ => rfl)) (nomark _)) (ds_one (ds_ret (de_bl))) (ds_nil)))))) (ds_nil)))))))))) (ds_cons (ds_if (dt_cmp op_isnot_bl o_notB (de_call G_alike (hr.mono (by decide)) (by rfl) T.g_alike T.F_alike.kp T.b_alike (fun σ => passAt tk σ) (da_cons (de_tup (da_cons (de_int) (da_cons (de_int) (da_cons (de_int) (da_cons (de_int) (da_cons (de_int) (da_cons (de_int) (da_nil)))))))) (da_cons (de_tup (da_cons (de_int) (da_cons (de_int) (da_cons (de_int) (da_cons (de_int) (da_cons (de_int) (da_cons (de_int) (da_nil)))))))) (da_nil)))) (de_bl) (nomark _)) (ds_one (ds_ret (de_bl))) (ds_nil)) (ds_one (ds_ret (de_cmp op_is_bl o_isB (de_call G_alike (hr.mono (by decide)) (by rfl) T.g_alike T.F_alike.kp T.b_alike (fun σ => passAt tk σ) (da_cons (de_tup (da_cons (de_int) (da_cons (de_int) (da_cons (de_int) (da_cons (de_int) (da_cons (de_int) (da_cons (de_int) (da_nil)))))))) (da_cons (de_tup (da_cons (de_int) (da_cons (de_int) (da_cons (de_int) (da_cons (de_int) (da_cons (de_int) (da_cons (de_int) (da_nil)))))))) (da_nil)))) (de_bl) (nomark _)))))
end
set_option maxHeartbeats 8000000 in
theorem all_mk {P : Program} {w : World} {K : Frag} {h : Heap} {mg : Str → Option Value} {fa : Addr} (X : K.In h) (G : h.Ns mainGlobals mg) (hfa : mg "law" = some (.ref fa))
    {f0 : Addr} {od0 an0 : Option Addr} {sl0 : Array (Option Value)} {oc0 kV0 dc0 pm0 cd0 ct0 : Value}
    {f1 : Addr} {od1 an1 : Option Addr} {sl1 : Array (Option Value)} {oc1 kV1 dc1 pm1 cd1 ct1 : Value}
    {f2 : Addr} {od2 an2 : Option Addr} {sl2 : Array (Option Value)} {oc2 kV2 dc2 pm2 cd2 ct2 : Value}
    {f3 : Addr} {od3 an3 : Option Addr} {sl3 : Array (Option Value)} {oc3 kV3 dc3 pm3 cd3 ct3 : Value}
    {f4 : Addr} {od4 an4 : Option Addr} {sl4 : Array (Option Value)} {oc4 kV4 dc4 pm4 cd4 ct4 : Value}
    {f5 : Addr} {od5 an5 : Option Addr} {sl5 : Array (Option Value)} {oc5 kV5 dc5 pm5 cd5 ct5 : Value}
    {f6 : Addr} {od6 an6 : Option Addr} {sl6 : Array (Option Value)} {oc6 kV6 dc6 pm6 cd6 ct6 : Value}
    {f7 : Addr} {od7 an7 : Option Addr} {sl7 : Array (Option Value)} {oc7 kV7 dc7 pm7 cd7 ct7 : Value}
    {f8 : Addr} {od8 an8 : Option Addr} {sl8 : Array (Option Value)} {oc8 kV8 dc8 pm8 cd8 ct8 : Value}
    {f9 : Addr} {od9 an9 : Option Addr} {sl9 : Array (Option Value)} {oc9 kV9 dc9 pm9 cd9 ct9 : Value}
    {f10 : Addr} {od10 an10 : Option Addr} {sl10 : Array (Option Value)} {oc10 kV10 dc10 pm10 cd10 ct10 : Value}
    {f11 : Addr} {od11 an11 : Option Addr} {sl11 : Array (Option Value)} {oc11 kV11 dc11 pm11 cd11 ct11 : Value}
    {f12 : Addr} {od12 an12 : Option Addr} {sl12 : Array (Option Value)} {oc12 kV12 dc12 pm12 cd12 ct12 : Value}
    {f13 : Addr} {od13 an13 : Option Addr} {sl13 : Array (Option Value)} {oc13 kV13 dc13 pm13 cd13 ct13 : Value}
    {f14 : Addr} {od14 an14 : Option Addr} {sl14 : Array (Option Value)} {oc14 kV14 dc14 pm14 cd14 ct14 : Value}
    {f15 : Addr} {od15 an15 : Option Addr} {sl15 : Array (Option Value)} {oc15 kV15 dc15 pm15 cd15 ct15 : Value}
    {f16 : Addr} {od16 an16 : Option Addr} {sl16 : Array (Option Value)} {oc16 kV16 dc16 pm16 cd16 ct16 : Value}
    {f17 : Addr} {od17 an17 : Option Addr} {sl17 : Array (Option Value)} {oc17 kV17 dc17 pm17 cd17 ct17 : Value}
    {f18 : Addr} {od18 an18 : Option Addr} {sl18 : Array (Option Value)} {oc18 kV18 dc18 pm18 cd18 ct18 : Value}
    {f19 : Addr} {od19 an19 : Option Addr} {sl19 : Array (Option Value)} {oc19 kV19 dc19 pm19 cd19 ct19 : Value}
    {f20 : Addr} {od20 an20 : Option Addr} {sl20 : Array (Option Value)} {oc20 kV20 dc20 pm20 cd20 ct20 : Value}
    {f21 : Addr} {od21 an21 : Option Addr} {sl21 : Array (Option Value)} {oc21 kV21 dc21 pm21 cd21 ct21 : Value}
    {f22 : Addr} {od22 an22 : Option Addr} {sl22 : Array (Option Value)} {oc22 kV22 dc22 pm22 cd22 ct22 : Value}
    {f23 : Addr} {od23 an23 : Option Addr} {sl23 : Array (Option Value)} {oc23 kV23 dc23 pm23 cd23 ct23 : Value}
    {ac0 : Addr} {occ0 : Option Addr} {nn0 : Nat} {slc0 : Array (Option Value)} {t0_0 t0_1 t0_2 t0_3 t0_4 t0_5 : Tok}
    {ac1 : Addr} {occ1 : Option Addr} {nn1 : Nat} {slc1 : Array (Option Value)} {t1_0 t1_1 t1_2 t1_3 t1_4 t1_5 : Tok}
    {C1 : Addr}
    (a0 : PySem.W.nsIn K mainGlobals "is_integer" = some (some (.ref f0))) (l0 : K.lookup f0 = some ⟨oc0, od0, .func (PySem.W.fnOf "is_integer" "is_integer" (defArgs (topS 6)) (defBody (topS 6)) (defScope (topS 6)) .none kV0 dc0 pm0 an0 cd0 ct0), sl0⟩) (c0 : PySem.W.codeIn K cd0 "is_integer" = true) (k0 : PySem.W.keepIn K (.ref f0) = true)
    (a1 : PySem.W.nsIn K mainGlobals "is_rules" = some (some (.ref f1))) (l1 : K.lookup f1 = some ⟨oc1, od1, .func (PySem.W.fnOf "is_rules" "is_rules" (defArgs (topS 7)) (defBody (topS 7)) (defScope (topS 7)) .none kV1 dc1 pm1 an1 cd1 ct1), sl1⟩) (c1 : PySem.W.codeIn K cd1 "is_rules" = true) (k1 : PySem.W.keepIn K (.ref f1) = true)
    (a2 : PySem.W.nsIn K mainGlobals "require_rules" = some (some (.ref f2))) (l2 : K.lookup f2 = some ⟨oc2, od2, .func (PySem.W.fnOf "require_rules" "require_rules" (defArgs (topS 8)) (defBody (topS 8)) (defScope (topS 8)) .none kV2 dc2 pm2 an2 cd2 ct2), sl2⟩) (c2 : PySem.W.codeIn K cd2 "require_rules" = true) (k2 : PySem.W.keepIn K (.ref f2) = true)
    (a3 : PySem.W.nsIn K mainGlobals "renewal_days" = some (some (.ref f3))) (l3 : K.lookup f3 = some ⟨oc3, od3, .func (PySem.W.fnOf "renewal_days" "renewal_days" (defArgs (topS 10)) (defBody (topS 10)) (defScope (topS 10)) .none kV3 dc3 pm3 an3 cd3 ct3), sl3⟩) (c3 : PySem.W.codeIn K cd3 "renewal_days" = true) (k3 : PySem.W.keepIn K (.ref f3) = true)
    (a4 : PySem.W.nsIn K mainGlobals "is_allowed_by" = some (some (.ref f4))) (l4 : K.lookup f4 = some ⟨oc4, od4, .func (PySem.W.fnOf "is_allowed_by" "is_allowed_by" (defArgs (topS 12)) (defBody (topS 12)) (defScope (topS 12)) .none kV4 dc4 pm4 an4 cd4 ct4), sl4⟩) (c4 : PySem.W.codeIn K cd4 "is_allowed_by" = true) (k4 : PySem.W.keepIn K (.ref f4) = true)
    (a5 : PySem.W.nsIn K mainGlobals "allows" = some (some (.ref f5))) (l5 : K.lookup f5 = some ⟨oc5, od5, .func (PySem.W.fnOf "allows" "allows" (defArgs (topS 13)) (defBody (topS 13)) (defScope (topS 13)) .none kV5 dc5 pm5 an5 cd5 ct5), sl5⟩) (c5 : PySem.W.codeIn K cd5 "allows" = true) (k5 : PySem.W.keepIn K (.ref f5) = true)
    (a6 : PySem.W.nsIn K mainGlobals "alike" = some (some (.ref f6))) (l6 : K.lookup f6 = some ⟨oc6, od6, .func (PySem.W.fnOf "alike" "alike" (defArgs (topS 14)) (defBody (topS 14)) (defScope (topS 14)) .none kV6 dc6 pm6 an6 cd6 ct6), sl6⟩) (c6 : PySem.W.codeIn K cd6 "alike" = true) (k6 : PySem.W.keepIn K (.ref f6) = true)
    (a7 : PySem.W.nsIn K mainGlobals "_law_source" = some (some (.ref f7))) (l7 : K.lookup f7 = some ⟨oc7, od7, .func (PySem.W.fnOf "_law_source" "_law_source" (defArgs (topS 16)) (defBody (topS 16)) (defScope (topS 16)) .none kV7 dc7 pm7 an7 cd7 ct7), sl7⟩) (c7 : PySem.W.codeIn K cd7 "_law_source" = true) (k7 : PySem.W.keepIn K (.ref f7) = true)
    (a8 : PySem.W.nsIn K mainGlobals "_law_pick" = some (some (.ref f8))) (l8 : K.lookup f8 = some ⟨oc8, od8, .func (PySem.W.fnOf "_law_pick" "_law_pick" (defArgs (topS 17)) (defBody (topS 17)) (defScope (topS 17)) .none kV8 dc8 pm8 an8 cd8 ct8), sl8⟩) (c8 : PySem.W.codeIn K cd8 "_law_pick" = true) (k8 : PySem.W.keepIn K (.ref f8) = true)
    (a9 : PySem.W.nsIn K mainGlobals "_law_is_bool" = some (some (.ref f9))) (l9 : K.lookup f9 = some ⟨oc9, od9, .func (PySem.W.fnOf "_law_is_bool" "_law_is_bool" (defArgs (topS 18)) (defBody (topS 18)) (defScope (topS 18)) .none kV9 dc9 pm9 an9 cd9 ct9), sl9⟩) (c9 : PySem.W.codeIn K cd9 "_law_is_bool" = true) (k9 : PySem.W.keepIn K (.ref f9) = true)
    (a10 : PySem.W.nsIn K mainGlobals "_law_rules" = some (some (.ref f10))) (l10 : K.lookup f10 = some ⟨oc10, od10, .func (PySem.W.fnOf "_law_rules" "_law_rules" (defArgs (topS 19)) (defBody (topS 19)) (defScope (topS 19)) .none kV10 dc10 pm10 an10 cd10 ct10), sl10⟩) (c10 : PySem.W.codeIn K cd10 "_law_rules" = true) (k10 : PySem.W.keepIn K (.ref f10) = true)
    (a11 : PySem.W.nsIn K mainGlobals "_law_first" = some (some (.ref f11))) (l11 : K.lookup f11 = some ⟨oc11, od11, .func (PySem.W.fnOf "_law_first" "_law_first" (defArgs (topS 20)) (defBody (topS 20)) (defScope (topS 20)) .none kV11 dc11 pm11 an11 cd11 ct11), sl11⟩) (c11 : PySem.W.codeIn K cd11 "_law_first" = true) (k11 : PySem.W.keepIn K (.ref f11) = true)
    (a12 : PySem.W.nsIn K mainGlobals "_law_back" = some (some (.ref f12))) (l12 : K.lookup f12 = some ⟨oc12, od12, .func (PySem.W.fnOf "_law_back" "_law_back" (defArgs (topS 21)) (defBody (topS 21)) (defScope (topS 21)) .none kV12 dc12 pm12 an12 cd12 ct12), sl12⟩) (c12 : PySem.W.codeIn K cd12 "_law_back" = true) (k12 : PySem.W.keepIn K (.ref f12) = true)
    (a13 : PySem.W.nsIn K mainGlobals "_law_may_come" = some (some (.ref f13))) (l13 : K.lookup f13 = some ⟨oc13, od13, .func (PySem.W.fnOf "_law_may_come" "_law_may_come" (defArgs (topS 22)) (defBody (topS 22)) (defScope (topS 22)) .none kV13 dc13 pm13 an13 cd13 ct13), sl13⟩) (c13 : PySem.W.codeIn K cd13 "_law_may_come" = true) (k13 : PySem.W.keepIn K (.ref f13) = true)
    (a14 : PySem.W.nsIn K mainGlobals "_law_borrow" = some (some (.ref f14))) (l14 : K.lookup f14 = some ⟨oc14, od14, .func (PySem.W.fnOf "_law_borrow" "_law_borrow" (defArgs (topS 23)) (defBody (topS 23)) (defScope (topS 23)) .none kV14 dc14 pm14 an14 cd14 ct14), sl14⟩) (c14 : PySem.W.codeIn K cd14 "_law_borrow" = true) (k14 : PySem.W.keepIn K (.ref f14) = true)
    (a15 : PySem.W.nsIn K mainGlobals "_law_renew" = some (some (.ref f15))) (l15 : K.lookup f15 = some ⟨oc15, od15, .func (PySem.W.fnOf "_law_renew" "_law_renew" (defArgs (topS 24)) (defBody (topS 24)) (defScope (topS 24)) .none kV15 dc15 pm15 an15 cd15 ct15), sl15⟩) (c15 : PySem.W.codeIn K cd15 "_law_renew" = true) (k15 : PySem.W.keepIn K (.ref f15) = true)
    (a16 : PySem.W.nsIn K mainGlobals "_law_wait" = some (some (.ref f16))) (l16 : K.lookup f16 = some ⟨oc16, od16, .func (PySem.W.fnOf "_law_wait" "_law_wait" (defArgs (topS 25)) (defBody (topS 25)) (defScope (topS 25)) .none kV16 dc16 pm16 an16 cd16 ct16), sl16⟩) (c16 : PySem.W.codeIn K cd16 "_law_wait" = true) (k16 : PySem.W.keepIn K (.ref f16) = true)
    (a17 : PySem.W.nsIn K mainGlobals "_law_leave" = some (some (.ref f17))) (l17 : K.lookup f17 = some ⟨oc17, od17, .func (PySem.W.fnOf "_law_leave" "_law_leave" (defArgs (topS 26)) (defBody (topS 26)) (defScope (topS 26)) .none kV17 dc17 pm17 an17 cd17 ct17), sl17⟩) (c17 : PySem.W.codeIn K cd17 "_law_leave" = true) (k17 : PySem.W.keepIn K (.ref f17) = true)
    (a18 : PySem.W.nsIn K mainGlobals "_law_day" = some (some (.ref f18))) (l18 : K.lookup f18 = some ⟨oc18, od18, .func (PySem.W.fnOf "_law_day" "_law_day" (defArgs (topS 27)) (defBody (topS 27)) (defScope (topS 27)) .none kV18 dc18 pm18 an18 cd18 ct18), sl18⟩) (c18 : PySem.W.codeIn K cd18 "_law_day" = true) (k18 : PySem.W.keepIn K (.ref f18) = true)
    (a19 : PySem.W.nsIn K mainGlobals "_law_happens" = some (some (.ref f19))) (l19 : K.lookup f19 = some ⟨oc19, od19, .func (PySem.W.fnOf "_law_happens" "_law_happens" (defArgs (topS 28)) (defBody (topS 28)) (defScope (topS 28)) .none kV19 dc19 pm19 an19 cd19 ct19), sl19⟩) (c19 : PySem.W.codeIn K cd19 "_law_happens" = true) (k19 : PySem.W.keepIn K (.ref f19) = true)
    (a20 : PySem.W.nsIn K mainGlobals "_law_ran" = some (some (.ref f20))) (l20 : K.lookup f20 = some ⟨oc20, od20, .func (PySem.W.fnOf "_law_ran" "_law_ran" (defArgs (topS 29)) (defBody (topS 29)) (defScope (topS 29)) .none kV20 dc20 pm20 an20 cd20 ct20), sl20⟩) (c20 : PySem.W.codeIn K cd20 "_law_ran" = true) (k20 : PySem.W.keepIn K (.ref f20) = true)
    (a21 : PySem.W.nsIn K mainGlobals "_law_history" = some (some (.ref f21))) (l21 : K.lookup f21 = some ⟨oc21, od21, .func (PySem.W.fnOf "_law_history" "_law_history" (defArgs (topS 30)) (defBody (topS 30)) (defScope (topS 30)) .none kV21 dc21 pm21 an21 cd21 ct21), sl21⟩) (c21 : PySem.W.codeIn K cd21 "_law_history" = true) (k21 : PySem.W.keepIn K (.ref f21) = true)
    (a22 : PySem.W.nsIn K mainGlobals "_law_window" = some (some (.ref f22))) (l22 : K.lookup f22 = some ⟨oc22, od22, .func (PySem.W.fnOf "_law_window" "_law_window" (defArgs (topS 31)) (defBody (topS 31)) (defScope (topS 31)) .none kV22 dc22 pm22 an22 cd22 ct22), sl22⟩) (c22 : PySem.W.codeIn K cd22 "_law_window" = true) (k22 : PySem.W.keepIn K (.ref f22) = true)
    (a23 : PySem.W.nsIn K mainGlobals "law" = some (some (.ref f23))) (l23 : K.lookup f23 = some ⟨oc23, od23, .func (PySem.W.fnOf "law" "law" (defArgs (topS 32)) (defBody (topS 32)) (defScope (topS 32)) .none kV23 dc23 pm23 an23 cd23 ct23), sl23⟩) (c23 : PySem.W.codeIn K cd23 "law" = true) (k23 : PySem.W.keepIn K (.ref f23) = true)
    (z_all : PySem.W.nsIn K mainGlobals "all" = some none)
    (z_bool : PySem.W.nsIn K mainGlobals "bool" = some none)
    (z_dict : PySem.W.nsIn K mainGlobals "dict" = some none)
    (z_enumerate : PySem.W.nsIn K mainGlobals "enumerate" = some none)
    (z_int : PySem.W.nsIn K mainGlobals "int" = some none)
    (z_isinstance : PySem.W.nsIn K mainGlobals "isinstance" = some none)
    (z_len : PySem.W.nsIn K mainGlobals "len" = some none)
    (z_list : PySem.W.nsIn K mainGlobals "list" = some none)
    (z_max : PySem.W.nsIn K mainGlobals "max" = some none)
    (z_min : PySem.W.nsIn K mainGlobals "min" = some none)
    (z_range : PySem.W.nsIn K mainGlobals "range" = some none)
    (z_sorted : PySem.W.nsIn K mainGlobals "sorted" = some none)
    (z_tuple : PySem.W.nsIn K mainGlobals "tuple" = some none)
    (z_zip : PySem.W.nsIn K mainGlobals "zip" = some none)
    (gc0 : PySem.W.nsIn K mainGlobals "HIGHS" = some (some (.ref ac0))) (lc0 : K.lookup ac0 = some ⟨.type "tuple", occ0, .seq #[.int 4 t0_0, .int 30 t0_1, .int 3 t0_2, .int 30 t0_3, .int 10 t0_4, .int 30 t0_5] nn0, slc0⟩)
    (gc1 : PySem.W.nsIn K mainGlobals "LOWS" = some (some (.ref ac1))) (lc1 : K.lookup ac1 = some ⟨.type "tuple", occ1, .seq #[.int 1 t1_0, .int 1 t1_1, .int 0 t1_2, .int 0 t1_3, .int 0 t1_4, .int 0 t1_5] nn1, slc1⟩)
    (g_InvalidRules : PySem.W.nsIn K mainGlobals "InvalidRules" = some (some (.ref C1))) (x_InvalidRules : PySem.W.excIn K C1 [.type "ValueError", .type "Exception", .type "BaseException", .type "object"] "ValueError.__new__" = true) (kk_InvalidRules : PySem.W.keepIn K (.ref C1) = true) (e_InvalidRules : PySem.W.subIn K (.ref C1) (.type "BaseException") = some true) (t_InvalidRules : PySem.W.typeIn K (.ref C1) = some (.type "type")) :
    ∃ (fd : FuncData) (A : Adr), (∀ (s : Shared) (v : Value), BindsTo s fd ⟨[v], []⟩ [("script", v)]) ∧ ∀ base : Heap, K.In base → base.Ns mainGlobals mg → FnOk P w K mg base (L2.CX P w) 5 fa fd ["script"] (spD K (clsOf A) [false] d_law) := by
  have e := hfa.symm.trans (PySem.W.mg_of X G a23)
  cases e
  have F0 := fun_mk (st := topS 6) l0 c0 k0
  have b0 := F0.binds (ps := ["value", "low", "high"]) fun _ _ _ _ _ _ us hl => match us, hl with | [_, _, _], _ => rfl
  have F1 := fun_mk (st := topS 7) l1 c1 k1
  have b1 := F1.binds (ps := ["value"]) fun _ _ _ _ _ _ us hl => match us, hl with | [_], _ => rfl
  have F2 := fun_mk (st := topS 8) l2 c2 k2
  have b2 := F2.binds (ps := ["value"]) fun _ _ _ _ _ _ us hl => match us, hl with | [_], _ => rfl
  have F3 := fun_mk (st := topS 10) l3 c3 k3
  have b3 := F3.binds (ps := ["rules"]) fun _ _ _ _ _ _ us hl => match us, hl with | [_], _ => rfl
  have F4 := fun_mk (st := topS 12) l4 c4 k4
  have b4 := F4.binds (ps := ["one", "other"]) fun _ _ _ _ _ _ us hl => match us, hl with | [_, _], _ => rfl
  have F5 := fun_mk (st := topS 13) l5 c5 k5
  have b5 := F5.binds (ps := ["one", "other"]) fun _ _ _ _ _ _ us hl => match us, hl with | [_, _], _ => rfl
  have F6 := fun_mk (st := topS 14) l6 c6 k6
  have b6 := F6.binds (ps := ["one", "other"]) fun _ _ _ _ _ _ us hl => match us, hl with | [_, _], _ => rfl
  have F7 := fun_mk (st := topS 16) l7 c7 k7
  have b7 := F7.binds (ps := ["script", "k"]) fun _ _ _ _ _ _ us hl => match us, hl with | [_, _], _ => rfl
  have F8 := fun_mk (st := topS 17) l8 c8 k8
  have b8 := F8.binds (ps := ["source", "size"]) fun _ _ _ _ _ _ us hl => match us, hl with | [_, _], _ => rfl
  have F9 := fun_mk (st := topS 18) l9 c9 k9
  have b9 := F9.binds (ps := ["actual", "expected"]) fun _ _ _ _ _ _ us hl => match us, hl with | [_, _], _ => rfl
  have F10 := fun_mk (st := topS 19) l10 c10 k10
  have b10 := F10.binds (ps := ["source"]) fun _ _ _ _ _ _ us hl => match us, hl with | [_], _ => rfl
  have F11 := fun_mk (st := topS 20) l11 c11 k11
  have b11 := F11.binds (ps := ["rules_so"]) fun _ _ _ _ _ _ us hl => match us, hl with | [_], _ => rfl
  have F12 := fun_mk (st := topS 21) l12 c12 k12
  have b12 := F12.binds (ps := ["rules_so", "state_so"]) fun _ _ _ _ _ _ us hl => match us, hl with | [_, _], _ => rfl
  have F13 := fun_mk (st := topS 22) l13 c13 k13
  have b13 := F13.binds (ps := ["state_so", "who"]) fun _ _ _ _ _ _ us hl => match us, hl with | [_, _], _ => rfl
  have F14 := fun_mk (st := topS 23) l14 c14 k14
  have b14 := F14.binds (ps := ["rules_so", "state_so", "who"]) fun _ _ _ _ _ _ us hl => match us, hl with | [_, _, _], _ => rfl
  have F15 := fun_mk (st := topS 24) l15 c15 k15
  have b15 := F15.binds (ps := ["rules_so", "state_so", "who"]) fun _ _ _ _ _ _ us hl => match us, hl with | [_, _, _], _ => rfl
  have F16 := fun_mk (st := topS 25) l16 c16 k16
  have b16 := F16.binds (ps := ["rules_so", "state_so", "who"]) fun _ _ _ _ _ _ us hl => match us, hl with | [_, _, _], _ => rfl
  have F17 := fun_mk (st := topS 26) l17 c17 k17
  have b17 := F17.binds (ps := ["rules_so", "state_so", "who"]) fun _ _ _ _ _ _ us hl => match us, hl with | [_, _, _], _ => rfl
  have F18 := fun_mk (st := topS 27) l18 c18 k18
  have b18 := F18.binds (ps := ["rules_so", "state_so"]) fun _ _ _ _ _ _ us hl => match us, hl with | [_, _], _ => rfl
  have F19 := fun_mk (st := topS 28) l19 c19 k19
  have b19 := F19.binds (ps := ["rules_so", "state_so", "event_so"]) fun _ _ _ _ _ _ us hl => match us, hl with | [_, _, _], _ => rfl
  have F20 := fun_mk (st := topS 29) l20 c20 k20
  have b20 := F20.binds (ps := ["rules_so", "history_so"]) fun _ _ _ _ _ _ us hl => match us, hl with | [_, _], _ => rfl
  have F21 := fun_mk (st := topS 30) l21 c21 k21
  have b21 := F21.binds (ps := ["source", "rules_so", "most", "wild"]) fun _ _ _ _ _ _ us hl => match us, hl with | [_, _, _, _], _ => rfl
  have F22 := fun_mk (st := topS 31) l22 c22 k22
  have b22 := F22.binds (ps := ["source", "rules_so"]) fun _ _ _ _ _ _ us hl => match us, hl with | [_, _], _ => rfl
  have F23 := fun_mk (st := topS 32) l23 c23 k23
  have b23 := F23.binds (ps := ["script"]) fun _ _ _ _ _ _ us hl => match us, hl with | [_], _ => rfl
  let A : Adr := { f_is_integer := f0, fd_is_integer := (PySem.W.fnOf "is_integer" "is_integer" (defArgs (topS 6)) (defBody (topS 6)) (defScope (topS 6)) .none kV0 dc0 pm0 an0 cd0 ct0), f_is_rules := f1, fd_is_rules := (PySem.W.fnOf "is_rules" "is_rules" (defArgs (topS 7)) (defBody (topS 7)) (defScope (topS 7)) .none kV1 dc1 pm1 an1 cd1 ct1), f_require_rules := f2, fd_require_rules := (PySem.W.fnOf "require_rules" "require_rules" (defArgs (topS 8)) (defBody (topS 8)) (defScope (topS 8)) .none kV2 dc2 pm2 an2 cd2 ct2), f_renewal_days := f3, fd_renewal_days := (PySem.W.fnOf "renewal_days" "renewal_days" (defArgs (topS 10)) (defBody (topS 10)) (defScope (topS 10)) .none kV3 dc3 pm3 an3 cd3 ct3), f_is_allowed_by := f4, fd_is_allowed_by := (PySem.W.fnOf "is_allowed_by" "is_allowed_by" (defArgs (topS 12)) (defBody (topS 12)) (defScope (topS 12)) .none kV4 dc4 pm4 an4 cd4 ct4), f_allows := f5, fd_allows := (PySem.W.fnOf "allows" "allows" (defArgs (topS 13)) (defBody (topS 13)) (defScope (topS 13)) .none kV5 dc5 pm5 an5 cd5 ct5), f_alike := f6, fd_alike := (PySem.W.fnOf "alike" "alike" (defArgs (topS 14)) (defBody (topS 14)) (defScope (topS 14)) .none kV6 dc6 pm6 an6 cd6 ct6), f__law_source := f7, fd__law_source := (PySem.W.fnOf "_law_source" "_law_source" (defArgs (topS 16)) (defBody (topS 16)) (defScope (topS 16)) .none kV7 dc7 pm7 an7 cd7 ct7), f__law_pick := f8, fd__law_pick := (PySem.W.fnOf "_law_pick" "_law_pick" (defArgs (topS 17)) (defBody (topS 17)) (defScope (topS 17)) .none kV8 dc8 pm8 an8 cd8 ct8), f__law_is_bool := f9, fd__law_is_bool := (PySem.W.fnOf "_law_is_bool" "_law_is_bool" (defArgs (topS 18)) (defBody (topS 18)) (defScope (topS 18)) .none kV9 dc9 pm9 an9 cd9 ct9), f__law_rules := f10, fd__law_rules := (PySem.W.fnOf "_law_rules" "_law_rules" (defArgs (topS 19)) (defBody (topS 19)) (defScope (topS 19)) .none kV10 dc10 pm10 an10 cd10 ct10), f__law_first := f11, fd__law_first := (PySem.W.fnOf "_law_first" "_law_first" (defArgs (topS 20)) (defBody (topS 20)) (defScope (topS 20)) .none kV11 dc11 pm11 an11 cd11 ct11), f__law_back := f12, fd__law_back := (PySem.W.fnOf "_law_back" "_law_back" (defArgs (topS 21)) (defBody (topS 21)) (defScope (topS 21)) .none kV12 dc12 pm12 an12 cd12 ct12), f__law_may_come := f13, fd__law_may_come := (PySem.W.fnOf "_law_may_come" "_law_may_come" (defArgs (topS 22)) (defBody (topS 22)) (defScope (topS 22)) .none kV13 dc13 pm13 an13 cd13 ct13), f__law_borrow := f14, fd__law_borrow := (PySem.W.fnOf "_law_borrow" "_law_borrow" (defArgs (topS 23)) (defBody (topS 23)) (defScope (topS 23)) .none kV14 dc14 pm14 an14 cd14 ct14), f__law_renew := f15, fd__law_renew := (PySem.W.fnOf "_law_renew" "_law_renew" (defArgs (topS 24)) (defBody (topS 24)) (defScope (topS 24)) .none kV15 dc15 pm15 an15 cd15 ct15), f__law_wait := f16, fd__law_wait := (PySem.W.fnOf "_law_wait" "_law_wait" (defArgs (topS 25)) (defBody (topS 25)) (defScope (topS 25)) .none kV16 dc16 pm16 an16 cd16 ct16), f__law_leave := f17, fd__law_leave := (PySem.W.fnOf "_law_leave" "_law_leave" (defArgs (topS 26)) (defBody (topS 26)) (defScope (topS 26)) .none kV17 dc17 pm17 an17 cd17 ct17), f__law_day := f18, fd__law_day := (PySem.W.fnOf "_law_day" "_law_day" (defArgs (topS 27)) (defBody (topS 27)) (defScope (topS 27)) .none kV18 dc18 pm18 an18 cd18 ct18), f__law_happens := f19, fd__law_happens := (PySem.W.fnOf "_law_happens" "_law_happens" (defArgs (topS 28)) (defBody (topS 28)) (defScope (topS 28)) .none kV19 dc19 pm19 an19 cd19 ct19), f__law_ran := f20, fd__law_ran := (PySem.W.fnOf "_law_ran" "_law_ran" (defArgs (topS 29)) (defBody (topS 29)) (defScope (topS 29)) .none kV20 dc20 pm20 an20 cd20 ct20), f__law_history := f21, fd__law_history := (PySem.W.fnOf "_law_history" "_law_history" (defArgs (topS 30)) (defBody (topS 30)) (defScope (topS 30)) .none kV21 dc21 pm21 an21 cd21 ct21), f__law_window := f22, fd__law_window := (PySem.W.fnOf "_law_window" "_law_window" (defArgs (topS 31)) (defBody (topS 31)) (defScope (topS 31)) .none kV22 dc22 pm22 an22 cd22 ct22), f_law := fa, fd_law := (PySem.W.fnOf "law" "law" (defArgs (topS 32)) (defBody (topS 32)) (defScope (topS 32)) .none kV23 dc23 pm23 an23 cd23 ct23), C_DeskError := 0, C_InvalidRules := C1 }
  have T : Txt K mg A := { F_is_integer := F0, g_is_integer := PySem.W.mg_of X G a0, b_is_integer := b0, F_is_rules := F1, g_is_rules := PySem.W.mg_of X G a1, b_is_rules := b1, F_require_rules := F2, g_require_rules := PySem.W.mg_of X G a2, b_require_rules := b2, F_renewal_days := F3, g_renewal_days := PySem.W.mg_of X G a3, b_renewal_days := b3, F_is_allowed_by := F4, g_is_allowed_by := PySem.W.mg_of X G a4, b_is_allowed_by := b4, F_allows := F5, g_allows := PySem.W.mg_of X G a5, b_allows := b5, F_alike := F6, g_alike := PySem.W.mg_of X G a6, b_alike := b6, F__law_source := F7, g__law_source := PySem.W.mg_of X G a7, b__law_source := b7, F__law_pick := F8, g__law_pick := PySem.W.mg_of X G a8, b__law_pick := b8, F__law_is_bool := F9, g__law_is_bool := PySem.W.mg_of X G a9, b__law_is_bool := b9, F__law_rules := F10, g__law_rules := PySem.W.mg_of X G a10, b__law_rules := b10, F__law_first := F11, g__law_first := PySem.W.mg_of X G a11, b__law_first := b11, F__law_back := F12, g__law_back := PySem.W.mg_of X G a12, b__law_back := b12, F__law_may_come := F13, g__law_may_come := PySem.W.mg_of X G a13, b__law_may_come := b13, F__law_borrow := F14, g__law_borrow := PySem.W.mg_of X G a14, b__law_borrow := b14, F__law_renew := F15, g__law_renew := PySem.W.mg_of X G a15, b__law_renew := b15, F__law_wait := F16, g__law_wait := PySem.W.mg_of X G a16, b__law_wait := b16, F__law_leave := F17, g__law_leave := PySem.W.mg_of X G a17, b__law_leave := b17, F__law_day := F18, g__law_day := PySem.W.mg_of X G a18, b__law_day := b18, F__law_happens := F19, g__law_happens := PySem.W.mg_of X G a19, b__law_happens := b19, F__law_ran := F20, g__law_ran := PySem.W.mg_of X G a20, b__law_ran := b20, F__law_history := F21, g__law_history := PySem.W.mg_of X G a21, b__law_history := b21, F__law_window := F22, g__law_window := PySem.W.mg_of X G a22, b__law_window := b22, F_law := F23, g_law := PySem.W.mg_of X G a23, b_law := b23, z_all := PySem.W.mg_none_of X G z_all, z_bool := PySem.W.mg_none_of X G z_bool, z_dict := PySem.W.mg_none_of X G z_dict, z_enumerate := PySem.W.mg_none_of X G z_enumerate, z_int := PySem.W.mg_none_of X G z_int, z_isinstance := PySem.W.mg_none_of X G z_isinstance, z_len := PySem.W.mg_none_of X G z_len, z_list := PySem.W.mg_none_of X G z_list, z_max := PySem.W.mg_none_of X G z_max, z_min := PySem.W.mg_none_of X G z_min, z_range := PySem.W.mg_none_of X G z_range, z_sorted := PySem.W.mg_none_of X G z_sorted, z_tuple := PySem.W.mg_none_of X G z_tuple, z_zip := PySem.W.mg_none_of X G z_zip, gc_HIGHS := ⟨.ref ac0, .ref ac0, PySem.W.mg_of X G gc0, rfl, fun F => .tup (xs := [.int 4, .int 30, .int 3, .int 30, .int 10, .int 30]) (.inr ⟨_, _, _, lc0, rfl, rfl, (show 6 ≤ sizeLine by decide), .cons ⟨_, rfl⟩ (.cons ⟨_, rfl⟩ (.cons ⟨_, rfl⟩ (.cons ⟨_, rfl⟩ (.cons ⟨_, rfl⟩ (.cons ⟨_, rfl⟩ (.nil))))))⟩) (.cons (.int _) (.cons (.int _) (.cons (.int _) (.cons (.int _) (.cons (.int _) (.cons (.int _) (.nil)))))))⟩, gc_LOWS := ⟨.ref ac1, .ref ac1, PySem.W.mg_of X G gc1, rfl, fun F => .tup (xs := [.int 1, .int 1, .int 0, .int 0, .int 0, .int 0]) (.inr ⟨_, _, _, lc1, rfl, rfl, (show 6 ≤ sizeLine by decide), .cons ⟨_, rfl⟩ (.cons ⟨_, rfl⟩ (.cons ⟨_, rfl⟩ (.cons ⟨_, rfl⟩ (.cons ⟨_, rfl⟩ (.cons ⟨_, rfl⟩ (.nil))))))⟩) (.cons (.int _) (.cons (.int _) (.cons (.int _) (.cons (.int _) (.cons (.int _) (.cons (.int _) (.nil)))))))⟩, g_InvalidRules := PySem.W.mg_of X G g_InvalidRules, x_InvalidRules := x_InvalidRules, k_InvalidRules := kk_InvalidRules, e_InvalidRules := e_InvalidRules, t_InvalidRules := t_InvalidRules }
  exact ⟨(PySem.W.fnOf "law" "law" (defArgs (topS 32)) (defBody (topS 32)) (defScope (topS 32)) .none kV23 dc23 pm23 an23 cd23 ct23), A, fun s v => .of_eq rfl, fun base _ _ => ok_law T⟩
end DP.K32
end

section
namespace DP.K32
open PySem PySem.Spec PyProof.Rows L2 DP.G
theorem cutA (a b c d e f : PyData) : cutD [a, b, c, d, e, f] none (some 3) = [a, b, c] := rfl
theorem cutB (a b c d e f : PyData) : cutD [a, b, c, d, e, f] (some 4) none = [e, f] := rfl
def RW (R : Ru) (w : Int) : Ru := { R with w := w }
theorem window_ok {o : O} {R : Ru} (S : Src o) (ok : R.ok) : ∃ (w : Int) (o' : O), d__law_window [o, .dat R.d] = .ok (.dat (RW R w).d) [o'] ∧ (RW R w).ok ∧ Src o' := by
  obtain ⟨c0, c4, l0, l1, r0, r3, w0, w1, h0, h1, s0, s1⟩ := ok
  obtain ⟨x, o1, e1, x0, x1, S1⟩ := pick_ok S (n := 31) (by decide) (by decide)
  obtain ⟨i, o2, e2, i0, i1, S2⟩ := pick_ok S1 (n := 6) (by decide) (by decide)
  have ml : -18446744073709551616 < R.l ∧ R.l < 18446744073709551616 := by omega
  obtain ⟨v, hv⟩ : ∃ v, atI [PyData.int R.w, .int (R.l * R.r), .int (R.l * R.r + 1), .int (R.l * R.r - 1), .int 30, .int x] i = some (.int v) := by
    obtain rfl | rfl | rfl | rfl | rfl | rfl : i = 0 ∨ i = 1 ∨ i = 2 ∨ i = 3 ∨ i = 4 ∨ i = 5 := by omega
    all_goals exact ⟨_, rfl⟩
  obtain ⟨m, hm⟩ : ∃ m, m = (if v < 30 then v else 30) := ⟨_, rfl⟩
  obtain ⟨q, hq⟩ : ∃ q, q = (if m > 0 then m else 0) := ⟨_, rfl⟩
  refine ⟨q, o2, ?_, ⟨c0, c4, l0, l1, r0, r3, ?_, ?_, h0, h1, s0, s1⟩, S2⟩
  · unfold d__law_window g__law_window
    simp [startE, List.replicate, ml, e1, e2, hv, lendIn, takeO, backs, putBack, cutA, cutB, fz_tup, ← hm, ← hq, finF, outsOf, RW]
  · show 0 ≤ q
    rw [hq]; split <;> omega
  · show q ≤ 30
    rw [hq, hm]; split <;> split <;> omega
theorem pair_ok {A B : Ru} (okA : A.ok) (okB : B.ok) {x0 x1 x2 x3 x4 x5 x6 x9 x10 : Sl} : l_law_1 [x0, x1, x2, x3, x4, x5, x6, .v (.dat A.d), .v (.dat B.d), x9, x10] = .nx [x0, x1, x2, x3, x4, x5, x6, .v (.dat A.d), .v (.dat B.d), x9, x10] := by
  have e1 := alike_ok okA okB
  have e2 := alike_ok okB okA
  have e3 := allows_ok okA okB
  have e4 := allows_ok okB okA
  unfold l_law_1
  generalize pB A B = p at *
  generalize pB B A = q at *
  have i1 := isbool_ok (p && q) (p && q)
  have g : gNe (.bool (q && p)) (.bool (p && q)) = some (.dat (.bool false)) := by
    rw [gNe_bool]
    cases p <;> cases q <;> rfl
  cases p <;> cases q <;> simp at * <;> simp [e1, e2, e3, e4, i1, g, lendIn, backs]
theorem hist_turn {o : O} {R A B : Ru} (S : Src o) (ok : R.ok) (okA : A.ok) (okB : B.ok) (p : Perm A B) (p' : Perm B A) {x0 x1 x6 x7 x8 x9 x10 : Sl} (w10 : x10.w = true) : ∃ (o' : O) (y10 : Sl), Src o' ∧ y10.w = true ∧ l_law_0 [x0, x1, .v o, .v (.dat R.d), .v (.dat A.d), .v (.dat B.d), x6, x7, x8, x9, x10] = .nx [x0, x1, .v o', .v (.dat R.d), .v (.dat A.d), .v (.dat B.d), x6, x7, x8, x9, y10] := by
  obtain ⟨es, o1, e1, S1, ev, ln, _⟩ := history_ok (wild := true) ok S (k := 40) (by decide) (by decide)
  have ln' : es.length ≤ 40 := ln
  obtain ⟨t1, r1, _⟩ := ran_ok okA (.tup (es := es)) (fun e he => (ev e he).v.n) (by omega)
  obtain ⟨t2, r2, _⟩ := ran_ok okB (.tup (es := es)) (fun e he => (ev e he).v.n) (by omega)
  have ex := ex_alike okA okB p p' es
  have ne := ne_ex (runFrom A (first A) es 0)
  refine ⟨o1, .v (.dat (.tuple (es.map Ev.d))), S1, rfl, ?_⟩
  obtain ⟨E, hE⟩ : ∃ E : Env, E = [x0, x1, .v o1, .v (.dat R.d), .v (.dat A.d), .v (.dat B.d), x6, x7, x8, x9, .v (.dat (.tuple (es.map Ev.d)))] := ⟨_, rfl⟩
  have a1 := ran_ix t1 (runFrom A (first A) es 0) (kCall [false, false] [none, none] d__law_ran (kCons (kVar 4) (kCons (kVar 10) (kNil)))) E E (by rw [hE]; simp [r1, lendIn, backs])
  have a2 := ran_ix t2 (runFrom B (first B) es 0) (kCall [false, false] [none, none] d__law_ran (kCons (kVar 5) (kCons (kVar 10) (kNil)))) E E (by rw [hE]; simp [r2, lendIn, backs])
  rw [← ex] at a2
  have b1 : kAs (kCall [true, false, false, false] [some 2, none, none, none] d__law_history (kCons (kMark 2) (kCons (kVar 3) (kCons (kD (.int 40)) (kCons (kD (.bool true)) (kNil)))))) (hName 10) [x0, x1, .v o, .v (.dat R.d), .v (.dat A.d), .v (.dat B.d), x6, x7, x8, x9, x10] = .nx E := by
    rw [hE]
    simp [e1, lendIn, takeO, backs, putBack, w10]
  unfold l_law_0
  rw [kSq_eq, b1, sq_nx, kIf_eq, kB_eq, k2_eq, a1, bind_ok, a2, bind_ok]
  simp only [toD_dat, ne, bind_ok, st_ok, Bool.false_eq_true, if_false]
  rw [kNx_eq, hE]
def ls1 : Env → RS := kAs (kCall [false, false] [none, none] d__law_source (kCons (kVar 0) (kCons (kVar 1) (kNil)))) (hName 2)
def ls2 : Env → RS := kAs (kCall [true] [some 2] d__law_rules (kCons (kMark 2) (kNil))) (hName 3)
def ls3 : Env → RS := kPar3 4 5 6 (kCons (kCall [true, false] [some 2, none] d__law_window (kCons (kMark 2) (kCons (kVar 3) (kNil)))) (kCons (kCall [true, false] [some 2, none] d__law_window (kCons (kMark 2) (kCons (kVar 3) (kNil)))) (kCons (kCall [true, false] [some 2, none] d__law_window (kCons (kMark 2) (kCons (kVar 3) (kNil)))) (kNil))))
def ls4 : Env → RS := kFor (kIt (kMk .lst (kCons (kMk .tup (kCons (kVar 4) (kCons (kVar 5) (kNil)))) (kCons (kMk .tup (kCons (kVar 5) (kCons (kVar 6) (kNil)))) (kCons (kMk .tup (kCons (kVar 4) (kCons (kVar 3) (kNil)))) (kCons (kMk .tup (kCons (kVar 4) (kCons (kCall [true] [some 2] d__law_rules (kCons (kMark 2) (kNil))) (kNil)))) (kNil))))))) (hTup 2 (hCons (hName 7) (hCons (hName 8) (hNil)))) l_law_1
def ls5 : Env → RS := kIf (kAnd (kB (kCall [false, false] [none, none] d_allows (kCons (kVar 4) (kCons (kVar 5) (kNil))))) (kAnd (kB (kCall [false, false] [none, none] d_allows (kCons (kVar 5) (kCons (kVar 6) (kNil))))) (kNot (kB (kCall [false, false] [none, none] d_allows (kCons (kVar 4) (kCons (kVar 6) (kNil)))))))) (kRt (kD (.bool false))) (kNx)
def ls6 : Env → RS := kIf (kOr (kNot (kB (kCall [false, false] [none, none] d_alike (kCons (kVar 4) (kCons (kVar 4) (kNil)))))) (kAnd (kB (k2 gEq (k2 gIx (kVar 3) (kD (.int 2))) (kD (.int 0)))) (kNot (kB (kCall [false, false] [none, none] d_alike (kCons (kVar 4) (kCons (kVar 5) (kNil)))))))) (kRt (kD (.bool false))) (kNx)
def ls7 : Env → RS := kIf (kB (kCall [false, false] [none, none] d_alike (kCons (kVar 4) (kCons (kVar 5) (kNil))))) (kFor (kRng1 (kCons (kD (.int 3)) (kNil))) (hName 9) l_law_0) (kNx)
theorem ls_split : l_law_2 = kSq ls1 (kSq ls2 (kSq ls3 (kSq ls4 (kSq ls5 (kSq ls6 ls7))))) := (rfl)
theorem step2 {ns : List Int} {k : Int} (k0 : 0 ≤ k) (k1 : k < 64) {env : Env} (I : Free ns 10 env) : ∃ env1, hName 1 (.dat (.int k)) env = some env1 ∧ ∃ env2, l_law_2 env1 = .nx env2 ∧ Free ns 10 env2 := by
  obtain ⟨t, rfl, tl, tw⟩ := I
  obtain ⟨s1, t1, rfl, tl1⟩ := len_cons tl
  obtain ⟨s2, t2, rfl, tl2⟩ := len_cons tl1
  obtain ⟨s3, t3, rfl, tl3⟩ := len_cons tl2
  obtain ⟨s4, t4, rfl, tl4⟩ := len_cons tl3
  obtain ⟨s5, t5, rfl, tl5⟩ := len_cons tl4
  obtain ⟨s6, t6, rfl, tl6⟩ := len_cons tl5
  obtain ⟨s7, t7, rfl, tl7⟩ := len_cons tl6
  obtain ⟨s8, t8, rfl, tl8⟩ := len_cons tl7
  obtain ⟨s9, t9, rfl, tl9⟩ := len_cons tl8
  obtain ⟨s10, t10, rfl, tl10⟩ := len_cons tl9
  obtain rfl := List.length_eq_zero_iff.mp tl10
  simp only [List.mem_cons, List.not_mem_nil, or_false, forall_eq_or_imp, forall_eq] at tw
  obtain ⟨v1, v2, v3, v4, v5, v6, v7, v8, v9, v10⟩ := tw
  obtain ⟨o, e1, S⟩ := source_ok ns k0 k1
  obtain ⟨R, o1, e2, ok, S1⟩ := rules_R S
  obtain ⟨wA, o2, e3, okA, S2⟩ := window_ok S1 ok
  obtain ⟨wB, o3, e4, okB, S3⟩ := window_ok S2 ok
  obtain ⟨wC, o4, e5, okC, S4⟩ := window_ok S3 ok
  obtain ⟨D, o5, e6, okD, S5⟩ := rules_R S4
  have r0 : R.r = 0 → pB (RW R wA) (RW R wB) = true ∧ pB (RW R wB) (RW R wA) = true := fun z => by
    constructor
    · exact (allow_of okA).mpr ⟨rfl, rfl, Int.le_refl _, Int.le_refl _, Int.le_refl _, fun k k0 k1 => absurd k1 (by show ¬ k ≤ R.r; omega)⟩
    · exact (allow_of okB).mpr ⟨rfl, rfl, Int.le_refl _, Int.le_refl _, Int.le_refl _, fun k k0 k1 => absurd k1 (by show ¬ k ≤ R.r; omega)⟩
  have rA := pB_refl okA
  have tr := fun h1 h2 => pB_trans okA okB (T := RW R wC) h1 h2
  have l1 := allows_ok okA okB
  have l2 := allows_ok okB okC
  have l3 := allows_ok okA okC
  have l4 := alike_ok okA okA
  have l5 := alike_ok okA okB
  rw [rA] at l4
  have gR : gIx R.d (.int 2) = some (.dat (.int R.r)) := rfl
  refine ⟨[.v (scriptO ns), .v (.dat (.int k)), s2, s3, s4, s5, s6, s7, s8, s9, s10], by simp [v1], ?_⟩
  have P := fun (x2 x9 x10 : Sl) {X Y : Ru} (okX : X.ok) (okY : Y.ok) => pair_ok okX okY (x0 := .v (scriptO ns)) (x1 := .v (.dat (.int k))) (x2 := x2) (x3 := .v (.dat R.d)) (x4 := .v (.dat (RW R wA).d)) (x5 := .v (.dat (RW R wB).d)) (x6 := .v (.dat (RW R wC).d)) (x9 := x9) (x10 := x10)
  have p1 := P (.v o5) s9 s10 okA okB
  have p2 := P (.v o5) s9 s10 okB okC
  have p3 := P (.v o5) s9 s10 okA ok
  have p4 := P (.v o5) s9 s10 okA okD
  have q1 : ls1 [.v (scriptO ns), .v (.dat (.int k)), s2, s3, s4, s5, s6, s7, s8, s9, s10] = .nx [.v (scriptO ns), .v (.dat (.int k)), .v o, s3, s4, s5, s6, s7, s8, s9, s10] := by
    unfold ls1
    simp [e1, v2, lendIn, backs]
  have q2 : ls2 [.v (scriptO ns), .v (.dat (.int k)), .v o, s3, s4, s5, s6, s7, s8, s9, s10] = .nx [.v (scriptO ns), .v (.dat (.int k)), .v o1, .v (.dat R.d), s4, s5, s6, s7, s8, s9, s10] := by
    unfold ls2
    simp [e2, v3, lendIn, takeO, backs, putBack]
  have q3 : ls3 [.v (scriptO ns), .v (.dat (.int k)), .v o1, .v (.dat R.d), s4, s5, s6, s7, s8, s9, s10] = .nx [.v (scriptO ns), .v (.dat (.int k)), .v o4, .v (.dat R.d), .v (.dat (RW R wA).d), .v (.dat (RW R wB).d), .v (.dat (RW R wC).d), s7, s8, s9, s10] := by
    unfold ls3
    simp [e3, e4, e5, v4, v5, v6, lendIn, takeO, backs, putBack]
  have q4 : ls4 [.v (scriptO ns), .v (.dat (.int k)), .v o4, .v (.dat R.d), .v (.dat (RW R wA).d), .v (.dat (RW R wB).d), .v (.dat (RW R wC).d), s7, s8, s9, s10] = .nx [.v (scriptO ns), .v (.dat (.int k)), .v o5, .v (.dat R.d), .v (.dat (RW R wA).d), .v (.dat (RW R wB).d), .v (.dat (RW R wC).d), .v (.dat (RW R wA).d), .v (.dat D.d), s9, s10] := by
    unfold ls4
    simp [e6, v7, v8, lendIn, takeO, backs, putBack, fz_tup, loopS, p1, p2, p3, p4]
  have q5 : ls5 [.v (scriptO ns), .v (.dat (.int k)), .v o5, .v (.dat R.d), .v (.dat (RW R wA).d), .v (.dat (RW R wB).d), .v (.dat (RW R wC).d), .v (.dat (RW R wA).d), .v (.dat D.d), s9, s10] = .nx [.v (scriptO ns), .v (.dat (.int k)), .v o5, .v (.dat R.d), .v (.dat (RW R wA).d), .v (.dat (RW R wB).d), .v (.dat (RW R wC).d), .v (.dat (RW R wA).d), .v (.dat D.d), s9, s10] := by
    unfold ls5
    generalize pB (RW R wA) (RW R wB) = b1 at *
    generalize pB (RW R wB) (RW R wC) = b2 at *
    generalize pB (RW R wA) (RW R wC) = b3 at *
    cases b1 <;> cases b2 <;> cases b3 <;> simp at tr <;> simp [l1, l2, l3, lendIn, backs]
  have q6 : ls6 [.v (scriptO ns), .v (.dat (.int k)), .v o5, .v (.dat R.d), .v (.dat (RW R wA).d), .v (.dat (RW R wB).d), .v (.dat (RW R wC).d), .v (.dat (RW R wA).d), .v (.dat D.d), s9, s10] = .nx [.v (scriptO ns), .v (.dat (.int k)), .v o5, .v (.dat R.d), .v (.dat (RW R wA).d), .v (.dat (RW R wB).d), .v (.dat (RW R wC).d), .v (.dat (RW R wA).d), .v (.dat D.d), s9, s10] := by
    unfold ls6
    by_cases z : R.r = 0
    · obtain ⟨z1, z2⟩ := r0 z
      rw [z1, z2] at l5
      simp [l4, l5, lendIn, backs, z]
    · simp [l4, lendIn, backs, z]
  have q7 : ∃ (o' : O) (y9 y10 : Sl), y9.w = true ∧ y10.w = true ∧ ls7 [.v (scriptO ns), .v (.dat (.int k)), .v o5, .v (.dat R.d), .v (.dat (RW R wA).d), .v (.dat (RW R wB).d), .v (.dat (RW R wC).d), .v (.dat (RW R wA).d), .v (.dat D.d), s9, s10] = .nx [.v (scriptO ns), .v (.dat (.int k)), .v o', .v (.dat R.d), .v (.dat (RW R wA).d), .v (.dat (RW R wB).d), .v (.dat (RW R wC).d), .v (.dat (RW R wA).d), .v (.dat D.d), y9, y10] := by
    cases b : pB (RW R wA) (RW R wB) && pB (RW R wB) (RW R wA) with
    | false =>
      rw [b] at l5
      refine ⟨o5, s9, s10, v9, v10, ?_⟩
      unfold ls7
      simp [l5, lendIn, backs]
    | true =>
      rw [b] at l5
      rw [Bool.and_eq_true] at b
      obtain ⟨e', x, o', y9, y10, S', w9, w10, rfl⟩ := loopR_inv (hg := hName 9) (body := l_law_0) (lo := 0) (n := 3) (env := [.v (scriptO ns), .v (.dat (.int k)), .v o5, .v (.dat R.d), .v (.dat (RW R wA).d), .v (.dat (RW R wB).d), .v (.dat (RW R wC).d), .v (.dat (RW R wA).d), .v (.dat D.d), s9, s10])
        (fun env => ∃ (o' : O) (y9 y10 : Sl), Src o' ∧ y9.w = true ∧ y10.w = true ∧ env = [.v (scriptO ns), .v (.dat (.int k)), .v o', .v (.dat R.d), .v (.dat (RW R wA).d), .v (.dat (RW R wB).d), .v (.dat (RW R wC).d), .v (.dat (RW R wA).d), .v (.dat D.d), y9, y10]) (fun i hi env I => by
          obtain ⟨o', y9, y10, S', w9, w10, rfl⟩ := I
          obtain ⟨o2, z10, S2, w2, h⟩ := hist_turn (o := o') (x0 := .v (scriptO ns)) (x1 := .v (.dat (.int k))) (x6 := .v (.dat (RW R wC).d)) (x7 := .v (.dat (RW R wA).d)) (x8 := .v (.dat D.d)) (x9 := .v (.dat (.int (0 + (i : Int))))) (x10 := y10) S' ok okA okB b.1 b.2 w10
          exact ⟨_, by simp [w9]; rfl, _, by rw [Int.zero_add] at h; exact h, o2, _, z10, S2, rfl, w2, rfl⟩) ⟨o5, s9, s10, S5, v9, v10, rfl⟩
      refine ⟨o', y9, y10, w9, w10, ?_⟩
      have tn : (3 : Int).toNat = 3 := rfl
      unfold ls7
      simp [l5, lendIn, backs, tn, x]
  obtain ⟨o', y9, y10, w9, w10, q7⟩ := q7
  refine ⟨_, by rw [ls_split, kSq_eq, q1, sq_nx, kSq_eq, q2, sq_nx, kSq_eq, q3, sq_nx, kSq_eq, q4, sq_nx, kSq_eq, q5, sq_nx, kSq_eq, q6, sq_nx, q7], ?_⟩
  exact ⟨_, rfl, rfl, by simp [w9, w10]⟩
def E1 : Ru := ⟨1, 10, 1, 10, 3, 5⟩
def E2 : Ru := ⟨1, 10, 1, 20, 3, 5⟩
def E3 : Ru := ⟨1, 10, 1, 9, 3, 5⟩
theorem law_true (ns : List Int) (h : ns.length ≤ 63) : d_law [scriptO ns] = .ok (.dat (.bool true)) [] := by
  have k1 : E1.ok := by unfold E1 Ru.ok Rul; decide
  have k2 : E2.ok := by unfold E2 Ru.ok Rul; decide
  have k3 : E3.ok := by unfold E3 Ru.ok Rul; decide
  have a1 := alike_ok k1 k2
  have a2 := alike_ok k3 k1
  have b1 : (pB E1 E2 && pB E2 E1) = true := by decide
  have b2 : (pB E3 E1 && pB E1 E3) = false := by decide
  rw [b1] at a1
  rw [b2] at a2
  unfold E1 E2 at a1
  unfold E3 E1 at a2
  refine outer_ok (m := 10) (A := 6) (B := 20) h (by decide) (fun k k0 k1 env I => step2 k0 k1 I) fun env I => ⟨env, ?_, I⟩
  simp [fz_tup, a1, a2, lendIn, backs, gIsB]
end DP.K32
end

section
open PySem PySem.W PyProof.Rows
set_option maxHeartbeats 0 in
theorem PySem.Challenge.cw_loandesks_k32_whole_rules_that_are_alike_holds : PySem.Challenge.rw_loandesks_k32_whole_rules_that_are_alike.Holds := by
  w_on; o_law; k_head; (case hw => w_witness2)
  k_fill
  refine DP.walk_den (l := PySem.Challenge.rw_loandesks_k32_whole_rules_that_are_alike) (n := 63) (k := 5) (x := "script") (io := [false]) (den := DP.K32.d_law) (by rfl) (by decide) (by rfl) ⟨rfl, by decide, by decide⟩ (fun w h Y => PySem.W.kIn_of Y) ?F DP.K32.law_true rfl
  case F =>
    intro w mg fa h KX G hmg
    refine DP.cls_ex (cls := DP.K32.clsOf) ?_
    refine' DP.K32.all_mk KX G hmg ?a0 ?l0 ?c0 ?k0 ?a1 ?l1 ?c1 ?k1 ?a2 ?l2 ?c2 ?k2 ?a3 ?l3 ?c3 ?k3 ?a4 ?l4 ?c4 ?k4 ?a5 ?l5 ?c5 ?k5 ?a6 ?l6 ?c6 ?k6 ?a7 ?l7 ?c7 ?k7 ?a8 ?l8 ?c8 ?k8 ?a9 ?l9 ?c9 ?k9 ?a10 ?l10 ?c10 ?k10 ?a11 ?l11 ?c11 ?k11 ?a12 ?l12 ?c12 ?k12 ?a13 ?l13 ?c13 ?k13 ?a14 ?l14 ?c14 ?k14 ?a15 ?l15 ?c15 ?k15 ?a16 ?l16 ?c16 ?k16 ?a17 ?l17 ?c17 ?k17 ?a18 ?l18 ?c18 ?k18 ?a19 ?l19 ?c19 ?k19 ?a20 ?l20 ?c20 ?k20 ?a21 ?l21 ?c21 ?k21 ?a22 ?l22 ?c22 ?k22 ?a23 ?l23 ?c23 ?k23 ?z_all ?z_bool ?z_dict ?z_enumerate ?z_int ?z_isinstance ?z_len ?z_list ?z_max ?z_min ?z_range ?z_sorted ?z_tuple ?z_zip ?gc0 ?lc0 ?gc1 ?lc1 ?g_InvalidRules ?x_InvalidRules ?kk_InvalidRules ?e_InvalidRules ?t_InvalidRules
    (case a0 => k_is)
    (case l0 => k_is)
    (case c0 => k_is)
    (case k0 => k_is)
    (case a1 => k_is)
    (case l1 => k_is)
    (case c1 => k_is)
    (case k1 => k_is)
    (case a2 => k_is)
    (case l2 => k_is)
    (case c2 => k_is)
    (case k2 => k_is)
    (case a3 => k_is)
    (case l3 => k_is)
    (case c3 => k_is)
    (case k3 => k_is)
    (case a4 => k_is)
    (case l4 => k_is)
    (case c4 => k_is)
    (case k4 => k_is)
    (case a5 => k_is)
    (case l5 => k_is)
    (case c5 => k_is)
    (case k5 => k_is)
    (case a6 => k_is)
    (case l6 => k_is)
    (case c6 => k_is)
    (case k6 => k_is)
    (case a7 => k_is)
    (case l7 => k_is)
    (case c7 => k_is)
    (case k7 => k_is)
    (case a8 => k_is)
    (case l8 => k_is)
    (case c8 => k_is)
    (case k8 => k_is)
    (case a9 => k_is)
    (case l9 => k_is)
    (case c9 => k_is)
    (case k9 => k_is)
    (case a10 => k_is)
    (case l10 => k_is)
    (case c10 => k_is)
    (case k10 => k_is)
    (case a11 => k_is)
    (case l11 => k_is)
    (case c11 => k_is)
    (case k11 => k_is)
    (case a12 => k_is)
    (case l12 => k_is)
    (case c12 => k_is)
    (case k12 => k_is)
    (case a13 => k_is)
    (case l13 => k_is)
    (case c13 => k_is)
    (case k13 => k_is)
    (case a14 => k_is)
    (case l14 => k_is)
    (case c14 => k_is)
    (case k14 => k_is)
    (case a15 => k_is)
    (case l15 => k_is)
    (case c15 => k_is)
    (case k15 => k_is)
    (case a16 => k_is)
    (case l16 => k_is)
    (case c16 => k_is)
    (case k16 => k_is)
    (case a17 => k_is)
    (case l17 => k_is)
    (case c17 => k_is)
    (case k17 => k_is)
    (case a18 => k_is)
    (case l18 => k_is)
    (case c18 => k_is)
    (case k18 => k_is)
    (case a19 => k_is)
    (case l19 => k_is)
    (case c19 => k_is)
    (case k19 => k_is)
    (case a20 => k_is)
    (case l20 => k_is)
    (case c20 => k_is)
    (case k20 => k_is)
    (case a21 => k_is)
    (case l21 => k_is)
    (case c21 => k_is)
    (case k21 => k_is)
    (case a22 => k_is)
    (case l22 => k_is)
    (case c22 => k_is)
    (case k22 => k_is)
    (case a23 => k_is)
    (case l23 => k_is)
    (case c23 => k_is)
    (case k23 => k_is)
    (case z_all => k_is)
    (case z_bool => k_is)
    (case z_dict => k_is)
    (case z_enumerate => k_is)
    (case z_int => k_is)
    (case z_isinstance => k_is)
    (case z_len => k_is)
    (case z_list => k_is)
    (case z_max => k_is)
    (case z_min => k_is)
    (case z_range => k_is)
    (case z_sorted => k_is)
    (case z_tuple => k_is)
    (case z_zip => k_is)
    (case gc0 => k_is)
    (case lc0 => k_is)
    (case gc1 => k_is)
    (case lc1 => k_is)
    (case g_InvalidRules => k_is)
    (case x_InvalidRules => first | k_exc | k_is)
    (case kk_InvalidRules => k_is)
    (case e_InvalidRules => k_is)
    (case t_InvalidRules => k_is)
end
